import PyProof.Rows.All
import Wide.All
import OpenK.AllK
import Wide.FinOn
import HandS.ForMost
import HandS.Exc
import HandS.Zip
import HandS.ExcOwn
import HandS.CallSlots
import HandS.Defaults
import HandS.Codes
import HandS.Style
import HandS.Dict
import HandS.Small
import KE.KeyNested
import KE.KDictKeyed
import HandS.Wide
import HandS.TupAny
import HandS.TupMul
import HandS.Deep
import HandS.TupLe
import PyProof.FString5
import KE.GoesMore
import KE.GoesEnum
import HandS.IsInst
import PyProof.Rows.FactsN_abs
import PyProof.ListStr
import HandS.Flt
import HandS.SortKw
import KE.DataMinMax
import HandS.WideBits
import HandS.ExcIs
import HandS.HeadHook1
import PyProof.FactsAll.list_3
import PyProof.FactsAll.list_4
import PyProof.DictDisplay
import HandS.Conv
import HandS.TryOnly
import HandS.HeadEnd
import HandS.HeadHook2
import HandS.Head0
import HandS.Head1
import HandS.Head2
import HandS.HeadHook4
import KE.KStateDown
import PySem.Challenge.RW_leasttolls_k16_rows_met
set_option Elab.async false
set_option linter.all false
set_option maxRecDepth 100000
/-! LtA: the small language and its value semantics (no heap): data D, tokens T, expressions E, statements S. -/
namespace LT

abbrev Cs := List Nat
/-- data; a list, a dict or an object bears whether it is owned -/
inductive D where
  | non | bl (b : Bool) | int (i : Int) | str (s : Cs)
  | tup (xs : List D)
  | lst (o : Bool) (xs : List D)
  | scr (ns : List Int)
  | dic (o : Bool) (ks vs : List D)
  | ins (o : Bool) (c : Nat) (fs vs : List D)
  | exn (c : Nat) (fs : List D)
  deriving Inhabited

def D.own : D → Bool
  | .lst o _ => o
  | .dic o _ _ => o
  | .ins o _ _ _ => o
  | _ => false
mutual
/-- all that is owned is let be read by anybody, and written by none -/
def D.frz : D → D
  | .lst true xs => .lst false (frzs xs)
  | .dic true ks vs => .dic false ks (frzs vs)
  | .ins true c fs vs => .ins false c fs (frzs vs)
  | d => d
def frzs : List D → List D
  | [] => []
  | d :: ds => d.frz :: frzs ds
end
/-- the top alone -/
def D.flat : D → D
  | .lst true xs => .lst false xs
  | .dic true ks vs => .dic false ks vs
  | .ins true c fs vs => .ins false c fs vs
  | d => d
def D.kids : D → List D
  | .lst _ xs => xs
  | .dic _ _ vs => vs
  | .ins _ _ _ vs => vs
  | .tup xs => xs
  | _ => []
/-- no child is owned -/
def D.plain (d : D) : Bool := d.kids.all fun x => !x.own

inductive Stp where
  | ix (n : Nat) | fl (f : Cs)
/-- what an expression comes to: a datum, or a place within a slot -/
inductive T where
  | val (d : D) | ref (i : Nat) (p : List Stp)
def T.root : T → Bool
  | .val _ => true
  | .ref _ p => p.isEmpty

abbrev Env := List (Option D)
inductive R (α : Type) where
  | ok (a : α) (e : Env) | exc (x : D) (e : Env) | err
def R.bind {α β : Type} (r : R α) (f : α → Env → R β) : R β := match r with
  | .ok a e => f a e
  | .exc x e => .exc x e
  | .err => .err
@[simp] theorem R.bind_ok {α β : Type} (a : α) (e : Env) (f : α → Env → R β) : (R.ok a e).bind f = f a e := id rfl
@[simp] theorem R.bind_exc {α β : Type} (x : D) (e : Env) (f : α → Env → R β) : (R.exc x e : R α).bind f = .exc x e := id rfl
@[simp] theorem R.bind_err {α β : Type} (f : α → Env → R β) : (R.err : R α).bind f = .err := id rfl
def R.of {α : Type} (o : Option α) (e : Env) : R α := match o with
  | some a => .ok a e
  | none => .err
@[simp] theorem R.of_some {α : Type} (a : α) (e : Env) : R.of (some a) e = .ok a e := id rfl
@[simp] theorem R.of_none {α : Type} (e : Env) : (R.of (none : Option α) e) = .err := id rfl

def fieldAt (f : Cs) : List D → List D → Option D
  | .str g :: fs, v :: vs => if g = f then some v else fieldAt f fs vs
  | _, _ => none
def fieldPut (f : Cs) (x : D) : List D → List D → List D × List D
  | .str g :: fs, v :: vs => if g = f then (.str g :: fs, x :: vs) else ((.str g :: (fieldPut f x fs vs).1), v :: (fieldPut f x fs vs).2)
  | _, _ => ([.str f], [x])
def getP : List Stp → D → Option D
  | [], d => some d
  | .ix n :: p, .lst true xs => xs[n]?.bind (getP p)
  | _, _ => none
def setP : List Stp → D → D → D
  | [], n, _ => n
  | .ix k :: p, n, .lst true xs => .lst true (xs.set k (setP p n (xs.getD k .non)))
  | _, _, d => d
def Env.at (e : Env) (i : Nat) (p : List Stp) : Option D := (e[i]?.getD none).bind (getP p)
def Env.put (e : Env) (i : Nat) (p : List Stp) (n : D) : Env := e.set i ((e[i]?.getD none).map (setP p n))

/-- the datum, to look at -/
def peek (t : T) (e : Env) : Option D := match t with
  | .val d => some d
  | .ref i p => e.at i p
/-- the datum, for a builtin that keeps nothing of it but its children: an owned one with owned children is let go for good -/
def rs (t : T) (e : Env) : R D := match t with
  | .val d => .ok d.frz e
  | .ref i p => match e.at i p with
    | none => .err
    | some d => if d.plain then .ok d.flat e else if p.isEmpty then .ok d.frz (e.set i (some d.frz)) else .err
def rsL : List T → Env → R (List D)
  | [], e => .ok [] e
  | t :: ts, e => (rs t e).bind fun d e => (rsL ts e).bind fun ds e => .ok (d :: ds) e
/-- the datum, to be kept: what stands in a slot is let go for good -/
def esc (t : T) (e : Env) : R D := match t with
  | .val d => .ok d e
  | .ref i p => match e.at i p with
    | none => .err
    | some d => if p.isEmpty then .ok d.frz (e.set i (some d.frz)) else .err
def escF (t : T) (e : Env) : R D := (esc t e).bind fun d e => .ok d.frz e
def escL : List T → Env → R (List D)
  | [], e => .ok [] e
  | t :: ts, e => (esc t e).bind fun d e => (escL ts e).bind fun ds e => .ok (d :: ds) e

inductive Op where
  | add | sub | mul | fdiv | mod | pow | shl | shr | band | bor
inductive Cm where
  | eq | ne | lt | le | gt | ge | isN | notN | inn | nin
/-- methods that only look: of lists, ints, texts -/
inductive Me where
  | index | count | bitlen | join | split | part
inductive Bi where
  | abs | int | list | tuple | max2 | min2 | max3 | min3 | min1 | min1d | max1d | sum | sorted | str | all | any
  | isT (n : Nat) | bitlen | index | count | join | split | get1 | get2
  | cutLU | cutL | cutU | rev | revU
  | me (m : Me)
inductive Mu where
  | append | extend | pop | clear | reverse | update
inductive Tg where
  | v (i : Nat) | nil | cons (t : Tg) (ts : Tg)
mutual
inductive E where
  | var (i : Nat)
  | con (d : D)
  | bin (o : Op) (a b : E)
  | neg (a : E)
  | not (a : E)
  | cmp (c : Cm) (a b : E)
  | cmp2 (c1 c2 : Cm) (a b c : E)
  | and (a b : E)
  | or (a b : E)
  | ite (t a b : E)
  | call (j : Nat) (as : Es)
  | len (a : E)
  | bi (p : Bi) (as : Es)
  | mut (m : Mu) (r : E) (as : Es)
  | idx (a b : E)
  | fld (a : E) (f : Cs)
  | tupE (as : Es)
  | lstE (as : Es)
  | dicE (ks vs : Es)
  | lc (elt : E) (tg : Tg) (it : It) (c : E)
  | cut (a l u : E)
  | mth (m : Me) (o : E) (as : Es)
  | isE (a : E) (cs : List Nat)
  | lrng (a : E)
  | dic1 (a b : E)
  | get1 (o a : E)
  | get2 (o a b : E)
  | never
inductive Es where
  | nil | cons (e : E) (es : Es)
inductive It where
  | seq (e : E) | rng (n : Nat) (as : Es) | enum (as : Es) | zip (as : Es)
end
mutual
inductive S where
  | asg (i : Nat) (e : E)
  | asgT (t : Tg) (e : E)
  | seti (o k e : E)
  | setf (o : E) (f : Cs) (e : E)
  | asgP (is : List Nat) (as : Es)
  | aug (i : Nat) (e : E)
  | augf (o : E) (f : Cs) (e : E)
  | ex (e : E)
  | ifS (t : E) (a b : Ss)
  | forS (tg : Tg) (it : It) (b : Ss)
  | whl (t : E) (b : Ss)
  | ret (e : E)
  | brk | cnt | pass
  | rais (c : Nat) (as : Es)
  | tryS (b : Ss) (c : Nat) (x : Option Nat) (h : Ss)
  | never
inductive Ss where
  | nil | cons (s : S) (ss : Ss)
end

/-! ### the builtins -/
mutual
/-- == of data: None, truths, ints, texts, lists, tuples (a truth is a number there) -/
def D.eqv : D → D → Bool
  | .non, .non => true
  | .bl a, .bl b => a == b
  | .int a, .int b => a == b
  | .bl a, .int b => (if a then 1 else 0) == b
  | .int a, .bl b => a == (if b then 1 else 0)
  | .str a, .str b => a == b
  | .tup a, .tup b => eqvs a b
  | .lst _ a, .lst _ b => eqvs a b
  | _, _ => false
def eqvs : List D → List D → Bool
  | [], [] => true
  | a :: as, b :: bs => a.eqv b && eqvs as bs
  | _, _ => false
end
mutual
/-- what == is told of -/
def D.dat : Nat → D → Bool
  | _, .non => true
  | _, .bl _ => true
  | _, .int _ => true
  | _, .str s => s.all (· < 1114112)
  | n + 1, .tup a => dats n a
  | n + 1, .lst _ a => dats n a
  | _, _ => false
def dats : Nat → List D → Bool
  | _, [] => true
  | n, a :: as => a.dat n && dats n as
end
def big : Int := 18446744073709551616
/-- an int of at most so many bits -/
def midInt (i : Int) : Prop := i.natAbs < 2 ^ 400000
def smallDiv (i : Int) : Prop := i.natAbs < 2 ^ 8999
/-- products that the model lets by -/
def mulOk (i j : Int) : Prop := (-big < i ∧ i < big) ∨ (-big < j ∧ j < big) ∨ (midInt i ∧ midInt j)
def sizeL : Nat := 16777216
open Classical in
noncomputable def binop : Op → D → D → Option D
  | .add, .int i, .int j => some (.int (i + j))
  | .add, .str a, .str b => if a.length + b.length ≤ sizeL then some (.str (a ++ b)) else none
  | .add, .tup a, .tup b => if a.length + b.length ≤ sizeL then some (.tup (a ++ b)) else none
  | .add, .lst _ a, .lst _ b => if a.length + b.length ≤ sizeL then some (.lst true (a ++ b)) else none
  | .sub, .int i, .int j => some (.int (i - j))
  | .mul, .int i, .int j => if mulOk i j then some (.int (i * j)) else none
  | .mul, .lst _ a, .int k => if -1000000000 ≤ k ∧ k ≤ 1000000000 ∧ a.length * k.toNat ≤ sizeL then some (.lst true (List.replicate k.toNat a).flatten) else none
  | .mul, .str a, .int k => if -1000000000 ≤ k ∧ k ≤ 1000000000 ∧ a.length * k.toNat ≤ sizeL then some (.str (List.replicate k.toNat a).flatten) else none
  | .mul, .tup a, .int k => if a ≠ [] ∧ 2 ≤ k ∧ k ≤ 1000 ∧ a.length ≤ 1000 then some (.tup (List.replicate k.toNat a).flatten) else none
  | .fdiv, .int i, .int j => if 0 < j ∧ smallDiv j then some (.int (i / j)) else none
  | .mod, .int i, .int j => if 0 < j then some (.int (i % j)) else none
  | .pow, .int i, .int j => if 0 ≤ j ∧ j ≤ 1000000 ∧ i.natAbs < 18446744073709551616 then some (.int (i ^ j.toNat)) else none
  | .shl, .int i, .int j => if 0 ≤ j ∧ j ≤ 1000000 ∧ i.natAbs < 18446744073709551616 then some (.int (i * 2 ^ j.toNat)) else none
  | .shr, .int i, .int j => if 0 ≤ j then some (.int (i / 2 ^ j.toNat)) else none
  | .band, .int i, .int j => some (.int (PySem.Builtin.bitAnd i j))
  | .bor, .int i, .int j => some (.int (PySem.Builtin.bitOr i j))
  | _, _, _ => none
/-- a key of a dict: an int or a text -/
def D.key : D → Bool
  | .int _ => true
  | .str _ => true
  | _ => false
mutual
/-- a key that is a tuple, nested so deep at most -/
def D.nk : Nat → D → Bool
  | _, .non => true
  | _, .int _ => true
  | _, .str _ => true
  | n + 1, .tup a => nks n a
  | _, _ => false
def nks : Nat → List D → Bool
  | _, [] => true
  | n, a :: as => a.nk n && nks n as
end
def D.isTup : D → Bool
  | .tup _ => true
  | _ => false
def headT : List D → Bool
  | k :: _ => k.isTup
  | [] => false
/-- a key that a dict with such keys may be asked for -/
def okKey (x : D) (ks : List D) : Bool := (x.key && !headT ks) || (x.isTup && x.nk 8 && (ks.isEmpty || headT ks))
def dget : List D → List D → D → Option D
  | k :: ks, v :: vs, x => if k.eqv x then some v else dget ks vs x
  | _, _, _ => none
def dputs (ks vs : List D) (x y : D) : List D × List D := if (ks.any fun k => k.eqv x) = true then (ks, List.zipWith (fun k v => if k.eqv x = true then y else v) ks vs) else (ks ++ [x], vs ++ [y])
def inop (x c : D) : Option Bool := match c with
  | .lst _ xs => if x.dat 60 && dats 60 xs then some (xs.any fun y => y.eqv x) else none
  | .tup xs => if x.dat 60 && dats 60 xs then some (xs.any fun y => y.eqv x) else none
  | .str s => match x with
    | .str [c] => some (decide (c ∈ s))
    | _ => none
  | .dic _ ks _ => if okKey x ks then some (ks.any fun y => y.eqv x) else none
  | _ => none
def D.isNon : D → Bool
  | .non => true
  | _ => false
/-- < <= > >= of two ints, of two texts -/
def itemOp : Cm → D → D → Option Bool
  | .lt, .int i, .int j => some (decide (i < j))
  | .le, .int i, .int j => some (decide (i ≤ j))
  | .gt, .int i, .int j => some (decide (j < i))
  | .ge, .int i, .int j => some (decide (j ≤ i))
  | .lt, .str i, .str j => some (decide (i < j))
  | .le, .str i, .str j => some (!decide (j < i))
  | .gt, .str i, .str j => some (decide (j < i))
  | .ge, .str i, .str j => some (!decide (i < j))
  | _, _, _ => none
/-- .. of two tuples of as many ints and texts -/
def lexD (c : Cm) : List D → List D → Option Bool
  | [], [] => some (match c with
    | .le => true
    | .ge => true
    | _ => false)
  | x :: xs, y :: ys => match itemOp c x y, lexD c xs ys with
    | some z, some r => some (if x.eqv y then r else z)
    | _, _ => none
  | _, _ => none
def cmpop : Cm → D → D → Option Bool
  | .eq, a, b => if a.dat 60 && b.dat 60 then some (a.eqv b) else none
  | .ne, a, b => if a.dat 60 && b.dat 60 then some (!a.eqv b) else none
  | .lt, .int i, .int j => some (decide (i < j))
  | .le, .int i, .int j => some (decide (i ≤ j))
  | .gt, .int i, .int j => some (decide (j < i))
  | .ge, .int i, .int j => some (decide (j ≤ i))
  | .lt, .tup i, .tup j => lexD .lt i j
  | .le, .tup i, .tup j => lexD .le i j
  | .gt, .tup i, .tup j => lexD .gt i j
  | .ge, .tup i, .tup j => lexD .ge i j
  | .isN, a, .non => some a.isNon
  | .notN, a, .non => some (!a.isNon)
  | .isN, .bl a, .bl b => some (a == b)
  | .notN, .bl a, .bl b => some (!(a == b))
  | .inn, a, b => inop a b
  | .nin, a, b => (inop a b).map not
  | _, _, _ => none
/-- the place that an index means -/
def ixOf (n : Nat) (i : Int) : Option Nat := if 0 ≤ i then (if i < n then some i.toNat else none) else if -(n : Int) ≤ i then some (i + n).toNat else none
/-- a slice's bound as a place -/
def cutIx (n : Nat) (i : Int) : Nat := if i < 0 then (i + n).toNat else min i.toNat n
def cutD (lo hi : Option Int) : D → Option D
  | .str s => if s.length ≤ sizeL then some (.str ((s.drop ((lo.map (cutIx s.length)).getD 0)).take ((hi.map (cutIx s.length)).getD s.length - (lo.map (cutIx s.length)).getD 0))) else none
  | .tup s => some (.tup ((s.drop ((lo.map (cutIx s.length)).getD 0)).take ((hi.map (cutIx s.length)).getD s.length - (lo.map (cutIx s.length)).getD 0)))
  | .lst _ s => some (.lst true ((s.drop ((lo.map (cutIx s.length)).getD 0)).take ((hi.map (cutIx s.length)).getD s.length - (lo.map (cutIx s.length)).getD 0)))
  | _ => none
def allInt : List D → Option (List Int)
  | [] => some []
  | .int i :: r => (allInt r).map (i :: ·)
  | _ => none
def allBl : List D → Option (List Bool)
  | [] => some []
  | .bl i :: r => (allBl r).map (i :: ·)
  | _ => none
def allStr : List D → Option (List Cs)
  | [] => some []
  | .str i :: r => (allStr r).map (i :: ·)
  | _ => none
def minL : Int → List Int → Int
  | m, [] => m
  | m, x :: xs => minL (if x < m then x else m) xs
def maxL : Int → List Int → Int
  | m, [] => m
  | m, x :: xs => maxL (if m < x then x else m) xs
def seqOf : D → Option (List D)
  | .lst _ xs => some xs
  | .tup xs => some xs
  | _ => none
def indexD (x : D) : List D → Nat → Option Nat
  | [], _ => none
  | y :: ys, n => if y.eqv x then some n else indexD x ys (n + 1)
def joinC (sep : Cs) : List Cs → Cs
  | [] => []
  | [a] => a
  | a :: r => a ++ sep ++ joinC sep r
/-- the type, by a number: 0 None, 1 bool, 2 int, 3 str, 4 tuple, 5 list, 6 dict -/
def tyD : D → Option Nat
  | .non => some 0
  | .bl _ => some 1
  | .int _ => some 2
  | .str _ => some 3
  | .tup _ => some 4
  | .lst _ _ => some 5
  | .scr _ => some 5
  | .dic _ ks _ => if headT ks then none else some 6
  | _ => none
/-- the places of the parts that a sign parts -/
def splitC (c : Nat) : Cs → List Cs
  | [] => [[]]
  | x :: xs => if x = c then [] :: splitC c xs else match splitC c xs with
    | p :: ps => (x :: p) :: ps
    | [] => [[x]]
def meth (m : Me) (ds : List D) : Option D := match m, ds with
  | .index, [.lst _ xs, x] => if (D.lst false xs).dat 60 && x.dat 60 then (indexD x xs 0).map fun (n : Nat) => D.int (n : Int) else none
  | .count, [.lst _ xs, .bl b] => (allBl xs).map fun l => .int (l.count b : Nat)
  | .bitlen, [.int i] => some (.int (PySem.Builtin.Int.intBits i : Nat))
  | .join, [.str sep, .lst _ xs] => (allStr xs).bind fun l => if (l.map (·.length)).sum + l.length * sep.length ≤ 16777216 then some (.str (joinC sep l)) else none
  | .join, [.str sep, .tup xs] => (allStr xs).bind fun l => if (l.map (·.length)).sum + l.length * sep.length ≤ 16777216 then some (.str (joinC sep l)) else none
  | .split, [.str a, .str [c]] => if a.length + 2 ≤ sizeL then some (.lst true ((splitC c a).map .str)) else none
  | _, _ => none
def meTy : Me → String
  | .index => "list"
  | .count => "list"
  | .bitlen => "int"
  | _ => "str"
/-- the method is one of its -/
def meOk : Me → Option D → Bool
  | .index, some (.lst _ _) => true
  | .count, some (.lst _ _) => true
  | .bitlen, some (.int _) => true
  | .join, some (.str _) => true
  | .split, some (.str _) => true
  | .part, some (.str _) => true
  | _, _ => false
def bi (p : Bi) (ds : List D) : Option D := match p with
  | .me m => meth m ds
  | .abs => (match ds with
    | [.int i] => some (.int (if i < 0 then -i else i))
    | _ => none)
  | .int => (match ds with
    | [.int i] => some (.int i)
    | [.bl b] => some (.int (if b then 1 else 0))
    | _ => none)
  | .list => (match ds with
    | [.lst _ xs] => some (.lst true xs)
    | [.tup xs] => some (.lst true xs)
    | [.scr ns] => some (.lst true (ns.map .int))
    | [.str s] => if s.length ≤ sizeL then some (.lst true (s.map fun c => .str [c])) else none
    | _ => none)
  | .tuple => (match ds with
    | [.lst _ xs] => some (.tup xs)
    | [.tup xs] => some (.tup xs)
    | _ => none)
  | .max2 => (match ds with
    | [.int i, .int j] => some (.int (if j > i then j else i))
    | _ => none)
  | .min2 => (match ds with
    | [.int i, .int j] => some (.int (if j < i then j else i))
    | _ => none)
  | .max3 => (match ds with
    | [.int i, .int j, .int k] => some (.int (maxL i [j, k]))
    | _ => none)
  | .min3 => (match ds with
    | [.int i, .int j, .int k] => some (.int (minL i [j, k]))
    | _ => none)
  | .min1 => (match ds with
    | [.lst _ xs] => (match allInt xs with
      | some (i :: r) => some (.int (minL i r))
      | _ => none)
    | _ => none)
  | .min1d => (match ds with
    | [.lst _ xs, d] => (match allInt xs with
      | some (i :: r) => some (.int (minL i r))
      | some [] => some d
      | _ => none)
    | _ => none)
  | .max1d => (match ds with
    | [.lst _ xs, d] => (match allInt xs with
      | some (i :: r) => some (.int (maxL i r))
      | some [] => some d
      | _ => none)
    | _ => none)
  | .sum => (match ds with
    | [.lst _ xs] => (allInt xs).map fun l => .int l.sum
    | _ => none)
  | .all => (match ds with
    | [.lst _ xs] => (allBl xs).map fun l => .bl (l.all id)
    | _ => none)
  | .any => (match ds with
    | [.lst _ xs] => (allBl xs).map fun l => .bl (l.any id)
    | _ => none)
  | .isT n => (match ds with
    | [d] => (tyD d).map fun t => .bl (t == n || (n == 2 && t == 1))
    | _ => none)
  | .cutLU => (match ds with
    | [d, .int l, .int u] => cutD (some l) (some u) d
    | _ => none)
  | .cutL => (match ds with
    | [d, .int l] => cutD (some l) none d
    | _ => none)
  | .cutU => (match ds with
    | [d, .int u] => cutD none (some u) d
    | _ => none)
  | .rev => (match ds with
    | [.lst _ xs] => some (.lst true xs.reverse)
    | [.str xs] => if xs.length ≤ sizeL then some (.str xs.reverse) else none
    | _ => none)
  | _ => none
def lenD : D → Option Nat
  | .str s => if s.length ≤ sizeL then some s.length else none
  | .lst _ xs => some xs.length
  | .tup xs => some xs.length
  | .scr ns => some ns.length
  | _ => none
/-- a child of what is looked at -/
def kidT (t : T) (s : Stp) (d : D) : T := if d.own then (match t with
  | .ref j p => .ref j (p ++ [s])
  | .val _ => .val d.frz) else .val d
/-- an item of what is read, with its place -/
def idxT (t : T) (k : D) (e : Env) : Option T := match peek t e with
  | some (.lst o xs) => match k with
    | .int i => match ixOf xs.length i with
      | some n => match xs[n]? with
        | some d => some (kidT t (.ix n) d)
        | none => none
      | none => none
    | _ => none
  | some (.scr ns) => match k with
    | .int i => match ixOf ns.length i with
      | some n => (ns[n]?).map fun n => .val (.int n)
      | none => none
    | _ => none
  | some (.tup xs) => match k with
    | .int i => match ixOf xs.length i with
      | some n => (xs[n]?).map .val
      | none => none
    | _ => none
  | some (.str s) => match k with
    | .int i => if s.length ≤ sizeL then (match ixOf s.length i with
      | some n => (s[n]?).map fun c => .val (.str [c])
      | none => none) else none
    | _ => none
  | some (.dic _ ks vs) => if okKey k ks then (dget ks vs k).map .val else none
  | _ => none
/-- a class of exceptions: 0 all of the program's own, 10 ValueError, else itself -/
def catches (c k : Nat) : Bool := c == 0 || c == 10 || c == k
def fldT (t : T) (f : Cs) (e : Env) : Option T := match peek t e with
  | some (.ins _ _ fs vs) => match fieldAt f fs vs with
    | some d => if d.own then (match t with
      | .ref j p => some (.ref j (p ++ [.fl f]))
      | .val _ => none) else some (.val d)
    | none => none
  | _ => none
def mutL : Mu → List D → List D → Option (D × List D)
  | .append, xs, ds => match ds with
    | [d] => if xs.length < sizeL then some (.non, xs ++ [d]) else none
    | _ => none
  | .extend, xs, ds => match ds with
    | [.lst _ ys] => if xs.length + ys.length ≤ sizeL then some (.non, xs ++ ys) else none
    | _ => none
  | .pop, xs, ds => match ds with
    | [] => match xs.getLast? with
      | some d => if d.own then none else some (d, xs.dropLast)
      | none => none
    | _ => none
  | .clear, xs, ds => match ds with
    | [] => some (.non, [])
    | _ => none
  | .reverse, xs, ds => match ds with
    | [] => some (.non, xs.reverse)
    | _ => none
  | .update, _, _ => none
def mutop (m : Mu) (d : D) (ds : List D) : Option (D × D) := match d with
  | .lst true xs => (mutL m xs ds).map fun r => (r.1, .lst true r.2)
  | _ => none
end LT
/-! LtB: what expressions and statements come to. -/
namespace LT
/-- what a call comes to: its value, and the arguments' data behind it -/
inductive CR where
  | ret (d : D) (outs : List D) | exc (x : D) (outs : List D) | err
/-- what a statement comes to -/
inductive F where
  | nx (e : Env) | ret (d : D) (e : Env) | brk (e : Env) | cnt (e : Env) | exc (x : D) (e : Env) | err
def R.go (r : R D) (f : D → Env → F) : F := match r with
  | .ok a e => f a e
  | .exc x e => .exc x e
  | .err => .err
@[simp] theorem R.go_ok (a : D) (e : Env) (f : D → Env → F) : (R.ok a e).go f = f a e := id rfl
@[simp] theorem R.go_exc (x : D) (e : Env) (f : D → Env → F) : (R.exc x e).go f = .exc x e := id rfl
@[simp] theorem R.go_err (f : D → Env → F) : (R.err : R D).go f = .err := id rfl
def R.got {α : Type} (r : R α) (f : α → Env → F) : F := match r with
  | .ok a e => f a e
  | .exc x e => .exc x e
  | .err => .err
@[simp] theorem R.got_ok {α : Type} (a : α) (e : Env) (f : α → Env → F) : (R.ok a e).got f = f a e := id rfl
@[simp] theorem R.got_exc {α : Type} (x : D) (e : Env) (f : α → Env → F) : (R.exc x e : R α).got f = .exc x e := id rfl
@[simp] theorem R.got_err {α : Type} (f : α → Env → F) : (R.err : R α).got f = .err := id rfl
/-- then -/
def F.bind (r : F) (f : Env → F) : F := match r with
  | .nx e => f e
  | r => r
@[simp] theorem F.bind_nx (e : Env) (f : Env → F) : (F.nx e).bind f = f e := id rfl
@[simp] theorem F.bind_ret (d : D) (e : Env) (f : Env → F) : (F.ret d e).bind f = .ret d e := id rfl
@[simp] theorem F.bind_brk (e : Env) (f : Env → F) : (F.brk e).bind f = .brk e := id rfl
@[simp] theorem F.bind_cnt (e : Env) (f : Env → F) : (F.cnt e).bind f = .cnt e := id rfl
@[simp] theorem F.bind_exc (d : D) (e : Env) (f : Env → F) : (F.exc d e).bind f = .exc d e := id rfl
@[simp] theorem F.bind_err (f : Env → F) : F.err.bind f = .err := id rfl

mutual
/-- nothing is written by it -/
def E.simple : E → Bool
  | .var _ => true
  | .con _ => true
  | .bin _ a b => a.simple && b.simple
  | .neg a => a.simple
  | .len a => a.simple
  | .idx a b => a.simple && b.simple
  | .fld a _ => a.simple
  | .tupE as => as.simple
  | .bi _ as => as.simple
  | _ => false
def Es.simple : Es → Bool
  | .nil => true
  | .cons e es => e.simple && es.simple
end

/-- the arguments are handed over: what stands in a slot is lent -/
def lend : List T → Env → Option (List D × Env)
  | [], e => some ([], e)
  | .val d :: ts, e => (lend ts e).map fun r => (d :: r.1, r.2)
  | .ref i p :: ts, e => if p.isEmpty then (match e[i]?.getD none with
    | some d => (lend ts (e.set i none)).map fun r => (d :: r.1, r.2)
    | none => none) else none
/-- .. and comes back -/
def back : List T → List D → Env → Env
  | .ref i _ :: ts, d :: ds, e => back ts ds (e.set i (some d))
  | .val _ :: ts, _ :: ds, e => back ts ds e
  | _, _, e => e
/-- read alone by a call: what it comes to holds nothing of it -/
def borrow : List T → Env → Option (List D)
  | [], _ => some []
  | .val d :: ts, e => if d.own then none else (borrow ts e).map (d :: ·)
  | .ref i p :: ts, e => match e.at i p with
    | some d => (borrow ts e).map (d.frz :: ·)
    | none => none
def D.atom : D → Bool
  | .non => true
  | .bl _ => true
  | .int _ => true
  | .str _ => true
  | _ => false
/-- what stands there is as it was -/
def Held (t : T) (e e' : Env) : Prop := match t with
  | .val _ => True
  | .ref i p => e'.at i p = e.at i p
/-- a target's slots forgotten -/
def forget : Tg → Env → Env
  | .v i, e => e.set i none
  | .nil, e => e
  | .cons t ts, e => forget t (forget ts e)

def R.noX {α : Type} (r : R α) : R α := match r with
  | .ok a e => .ok a e
  | _ => .err
@[simp] theorem R.noX_ok {α : Type} (a : α) (e : Env) : (R.ok a e).noX = .ok a e := id rfl
@[simp] theorem R.noX_exc {α : Type} (x : D) (e : Env) : (R.exc x e : R α).noX = .err := id rfl
@[simp] theorem R.noX_err {α : Type} : (R.err : R α).noX = .err := id rfl
def slots : Tg → List Nat
  | .v i => [i]
  | .nil => []
  | .cons t ts => slots t ++ slots ts
def apart (ss : List T) (l : List Nat) : Bool := ss.all fun t => match t with
  | .val _ => true
  | .ref i _ => !l.contains i
def optL (o : Option D) (xs : List D) : List D := match o with
  | some x => x :: xs
  | none => xs
open Classical in
/-- a comprehension's turns -/
noncomputable def lcL (turn : D → Env → R (Option D)) (held : Env → Prop) : List D → Env → R (List D)
  | [], e => .ok [] e
  | d :: ds, e => (turn d e).noX.bind fun o e => if held e then (lcL turn held ds e).bind fun xs e => .ok (optL o xs) e else .err
open Classical in
noncomputable def forL (turn : D → Env → F) (held : Env → Prop) : List D → Env → F
  | [], e => .nx e
  | d :: ds, e => match turn d e with
    | .nx e => if held e then forL turn held ds e else .err
    | .cnt e => if held e then forL turn held ds e else .err
    | .brk e => .nx e
    | r => r
noncomputable def whL (test : Env → R Bool) (turn : Env → F) : Nat → Env → F
  | 0, _ => .err
  | n + 1, e => (test e).got fun b e => if b = true then (match turn e with
    | .nx e => whL test turn n e
    | .cnt e => whL test turn n e
    | .brk e => .nx e
    | r => r) else .nx e
def rngL (lo c : Int) (n : Nat) : List D := (List.range n).map fun (i : Nat) => .int (lo + (i : Int) * c)
def rngOk (i j k : Int) : Bool := decide (k ≠ 0) && decide (k.natAbs < 1073741824) && PySem.Builtin.Range.small i j k && decide (0 ≤ PySem.Builtin.Range.rangeSize i j k)
def smallR (i : Int) : Bool := decide (-(2 ^ 62) ≤ i) && decide (i < 2 ^ 62)
/-- the items of what is walked -/
def itemsOf : D → Option (List D)
  | .lst _ xs => some xs
  | .tup xs => some xs
  | .scr ns => some (ns.map .int)
  | .str s => some (s.map fun c => .str [c])
  | _ => none
/-- how it is walked: a list, a tuple, a text -/
def knd : D → Nat
  | .lst _ _ => 0
  | .scr _ => 0
  | .tup _ => 1
  | _ => 2
/-- what is walked: its items, and the thing to be kept -/
def src (t : T) (e : Env) : R (Nat × List D × T) := match t with
  | .val d => match itemsOf d.frz with
    | some xs => .ok (knd d, xs, .val d.frz) e
    | none => .err
  | .ref i p => match e.at i p with
    | none => .err
    | some d => if p.isEmpty then (if d.plain then (match itemsOf d with
        | some xs => .ok (knd d, xs, .ref i p) e
        | none => .err) else match itemsOf d.frz with
        | some xs => .ok (knd d, xs, .val d.frz) (e.set i (some d.frz))
        | none => .err) else .err
def rngT (n : Nat) (ts : List T) (e : Env) : R (List D × List T) := match n, ts with
  | 1, [.val (.int j)] => if smallR j then .ok (rngL 0 1 j.toNat, []) e else .err
  | 2, [.val (.int i), .val (.int j)] => if smallR i && smallR j then .ok (rngL i 1 (j - i).toNat, []) e else .err
  | 3, [.val (.int i), .val (.int j), .val (.int k)] => if rngOk i j k then .ok (rngL i k (PySem.Builtin.Range.rangeSize i j k).toNat, []) e else .err
  | _, _ => .err
def enumT (ts : List T) (e : Env) : R (List D × List T) := match ts with
  | [t] => (src t e).bind fun r e => .ok (r.2.1.zipIdx.map fun p => .tup [.int p.2, p.1], [r.2.2]) e
  | _ => .err
def zipT (ts : List T) (e : Env) : R (List D × List T) := match ts with
  | [t, u] => (src t e).bind fun r e => (src u e).bind fun r' e => .ok ((r.2.1.zip r'.2.1).map fun p => .tup [p.1, p.2], [r.2.2, r'.2.2]) e
  | _ => .err
def bool1 (t : T) : Option Bool := match t with
  | .val (.bl b) => some b
  | _ => none
def int1 (t : T) : Option Int := match t with
  | .val (.int b) => some b
  | _ => none
def negT (t : T) (e : Env) : R T := match int1 t with
  | some i => .ok (.val (.int (-i))) e
  | none => .err
def notT (t : T) (e : Env) : R T := match bool1 t with
  | some b => .ok (.val (.bl (!b))) e
  | none => .err
/-- list(range(n)) -/
def isDic : Option D → Bool
  | some (.dic _ _ _) => true
  | _ => false
/-- d.get(k, x) -/
def getT (t u w : T) (e : Env) : R T := match u, w with
  | .val kd, .val dd => (match peek t e with
    | some (.dic _ ks vs) => if okKey kd ks && !dd.own then .ok (.val ((dget ks vs kd).getD dd)) e else .err
    | _ => .err)
  | _, _ => .err
/-- {k: v} -/
def dic1T (t u : T) (e : Env) : R T := match t with
  | .val kd => (escF u e).bind fun vd e => if okKey kd [] then .ok (.val (.dic true [kd] [vd])) e else .err
  | _ => .err
def lrngT (t : T) (e : Env) : R T := match int1 t with
  | some j => if smallR j && decide (j.toNat ≤ sizeL) then .ok (.val (.lst true (rngL 0 1 j.toNat))) e else .err
  | none => .err
def lenT (t : T) (e : Env) : R T := match (peek t e).bind lenD with
  | some n => .ok (.val (.int n)) e
  | none => .err

/-- slots that must not be bound anew -/
def srcs : List T → List Nat → List Nat
  | .ref i _ :: ts, l => i :: srcs ts l
  | .val _ :: ts, l => srcs ts l
  | [], l => l
/-- a slot that is not lent takes it -/
def asgD (ln : List Nat) (i : Nat) (d : D) (e : Env) : F := if ln.contains i then .err else .nx (e.set i (some d))
def asgTD (ln : List Nat) : Tg → D → Env → F
  | .v i, d, e => asgD ln i d e
  | .nil, .tup [], e => .nx e
  | .cons t ts, .tup (d :: ds), e => (asgTD ln t d e).bind (asgTD ln ts (.tup ds))
  | _, _, _ => .err
/-- .. each its own, from the right -/
def asgL (ln : List Nat) : List Nat → List D → Env → F
  | [], [], e => .nx e
  | i :: is, d :: ds, e => (asgL ln is ds e).bind fun e => asgD ln i d e
  | _, _, _ => .err
def F.nxR (r : F) : R Unit := match r with
  | .nx e => .ok () e
  | _ => .err
@[simp] theorem F.nxR_nx (e : Env) : (F.nx e).nxR = .ok () e := id rfl
@[simp] theorem F.nxR_err : F.err.nxR = .err := id rfl
def isL : Option D → Bool
  | some (.lst true _) => true
  | _ => false
/-- a list at its place is written by its method -/
def mutT (m : Mu) (t : T) (ts : List T) (e : Env) : R T := match t with
    | .val _ => .err
    | .ref i p => (escL ts e).bind fun ds e => match e.at i p with
      | none => .err
      | some d => match mutop m d ds with
        | none => .err
        | some (x, d') => .ok (.val x) (e.put i p d')
section
variable (cl : Nat → List D → CR) (N : Nat)
def callB (j : Nat) (ds : List D) (e : Env) : R T := match cl j ds with
  | .ret d _ => if d.atom then .ok (.val d) e else .err
  | .exc x _ => .exc x e
  | .err => .err
def callT (j : Nat) (ts : List T) (e : Env) : R T := match lend ts e with
  | none => (match borrow ts e with
    | none => .err
    | some ds => callB cl j ds e)
  | some r => match cl j r.1 with
    | .ret d outs => .ok (.val d) (back ts outs r.2)
    | .exc x outs => .exc x (back ts outs r.2)
    | .err => .err
open Classical in
mutual
noncomputable def evE : E → Env → R T
  | .var i, e => match e[i]?.getD none with
    | some d => .ok (if d.own then .ref i [] else .val d) e
    | none => .err
  | .con d, e => .ok (.val d) e
  | .bin o a b, e => (evE a e).bind fun t e => if t.root || b.simple then (evE b e).bind fun u e => (rs t e).bind fun x e => (rs u e).bind fun y e => (R.of (binop o x y) e).bind fun z e => .ok (.val z) e else .err
  | .neg a, e => (evE a e).bind negT
  | .not a, e => (evE a e).bind notT
  | .cmp c a b, e => (evE a e).bind fun t e => if t.root || b.simple then (evE b e).bind fun u e => (rs t e).bind fun x e => (rs u e).bind fun y e => (R.of ((cmpop c x y).map .bl) e).bind fun z e => .ok (.val z) e else .err
  | .cmp2 c1 c2 a b c, e => (evE a e).bind fun t e => if t.root then (evE b e).bind fun u e => match int1 t, int1 u with
    | some x, some y => (R.of (cmpop c1 (.int x) (.int y)) e).bind fun z e => if z = true then (evE c e).bind fun w e => match int1 w with
      | some x' => (R.of ((cmpop c2 (.int y) (.int x')).map .bl) e).bind fun z' e => .ok (.val z') e
      | none => .err else .ok (.val (.bl false)) e
    | _, _ => .err else .err
  | .and a b, e => (evE a e).bind fun t e => match bool1 t with
    | some true => evE b e
    | some false => .ok (.val (.bl false)) e
    | none => .err
  | .or a b, e => (evE a e).bind fun t e => match bool1 t with
    | some true => .ok (.val (.bl true)) e
    | some false => evE b e
    | none => .err
  | .ite t a b, e => (evE t e).bind fun t e => match bool1 t with
    | some true => evE a e
    | some false => evE b e
    | none => .err
  | .call j as, e => (evEs as e).bind fun ts e => callT cl j ts e
  | .len a, e => (evE a e).bind lenT
  | .bi p as, e => (evEs as e).bind fun ts e => (rsL ts e).bind fun ds e => (R.of (bi p ds) e).bind fun z e => .ok (.val z) e
  | .mut m r as, e => (evE r e).bind fun t e => if (t.root || as.simple) && isL (peek t e) then (evEs as e).bind (mutT m t) else .err
  | .idx a b, e => (evE a e).bind fun t e => if t.root || b.simple then (evE b e).bind fun u e => (match u with
    | .val k => match idxT t k e with
      | some r => .ok r e
      | none => .err
    | _ => .err) else .err
  | .fld a f, e => (evE a e).bind fun t e => match fldT t f e with
    | some r => .ok r e
    | none => .err
  | .tupE as, e => (evEs as e).bind fun ts e => (escL ts e).bind fun ds e => .ok (.val (.tup (frzs ds))) e
  | .lstE as, e => (evEs as e).bind fun ts e => (escL ts e).bind fun ds e => .ok (.val (.lst true ds)) e
  | .dicE ks vs, e => match ks, vs with
    | .nil, .nil => .ok (.val (.dic true [] [])) e
    | _, _ => .err
  | .lc elt tg it c, e => (evI it e).bind fun r e => if apart r.2 (slots tg) then (lcL (fun d e => ((asgTD (srcs r.2 []) tg d e).nxR).bind fun _ e => (evE c e).bind fun t e => match bool1 t with
        | some true => (evE elt e).bind fun t e => (esc t e).bind fun d e => .ok (some d) (forget tg e)
        | some false => .ok none (forget tg e)
        | none => .err) (fun e' => ∀ t ∈ r.2, Held t e e') r.1 (forget tg e)).bind fun xs e => if xs.length ≤ sizeL then .ok (.val (.lst true xs)) e else .err else .err
  | .cut a l u, e => (evE a e).bind fun t e => if t.root then (evE l e).bind fun tl e => match int1 tl with
    | some i => (evE u e).bind fun tu e => match int1 tu with
      | some j => (rs t e).bind fun d e => (R.of (cutD (some i) (some j) d) e).bind fun z e => .ok (.val z) e
      | none => .err
    | none => .err else .err
  | .mth m o as, e => (evE o e).bind fun t e => if (t.root || as.simple) && meOk m (peek t e) then (evEs as e).bind fun ts e => (rsL (t :: ts) e).bind fun ds e => (R.of (bi (.me m) ds) e).bind fun z e => .ok (.val z) e else .err
  | .isE a cs, e => (evE a e).bind fun t e => match t with
    | .val (.exn k _) => .ok (.val (.bl (cs.any fun c => catches c k))) e
    | _ => .err
  | .lrng a, e => (evE a e).bind lrngT
  | .dic1 a b, e => (evE a e).bind fun t e => if t.root then (evE b e).bind fun u e => dic1T t u e else .err
  | .get1 o a, e => (evE o e).bind fun t e => if (t.root || a.simple) && isDic (peek t e) then (evE a e).bind fun u e => getT t u (.val .non) e else .err
  | .get2 o a b, e => (evE o e).bind fun t e => if (t.root || (a.simple && b.simple)) && isDic (peek t e) then (evE a e).bind fun u e => if u.root then (evE b e).bind fun w e => getT t u w e else .err else .err
  | .never, _ => .err
noncomputable def evEs : Es → Env → R (List T)
  | .nil, e => .ok [] e
  | .cons a as, e => (evE a e).bind fun t e => if t.root || as.simple then (evEs as e).bind fun ts e => .ok (t :: ts) e else .err
/-- the items, and the things that they stand in -/
noncomputable def evI : It → Env → R (List D × List T)
  | .seq a, e => (evE a e).bind fun t e => (src t e).bind fun r e => .ok (r.2.1, [r.2.2]) e
  | .rng n as, e => (evEs as e).bind (rngT n)
  | .enum as, e => (evEs as e).bind enumT
  | .zip as, e => (evEs as e).bind zipT
end
noncomputable def evT (a : E) (e : Env) : R Bool := (evE cl a e).bind fun t e => match bool1 t with
  | some b => .ok b e
  | none => .err
def setD (o : D) (k v : D) : Option D := match o with
  | .lst true xs => match k with
    | .int i => match ixOf xs.length i with
      | some n => some (.lst true (xs.set n v))
      | none => none
    | _ => none
  | .dic true ks vs => if okKey k ks && decide (ks.length < sizeL) then some (.dic true (dputs ks vs k v.frz).1 (dputs ks vs k v.frz).2) else none
  | _ => none
def setF (o : D) (f : Cs) (v : D) : Option D := match o with
  | .ins true c fs vs => if fs.length < 1000 then some (.ins true c (fieldPut f v fs vs).1 (fieldPut f v fs vs).2) else none
  | _ => none
def putT (t : T) (g : D → Option D) (e : Env) : F := match t with
  | .val _ => .err
  | .ref i p => match (e.at i p).bind g with
    | some d => .nx (e.put i p d)
    | none => .err
/-- behind an except suite -/
def noXF : F → F
  | .exc _ _ => .err
  | r => r
def clrF (i : Nat) : F → F
  | .nx e => .nx (e.set i none)
  | .brk e => .brk (e.set i none)
  | .cnt e => .cnt (e.set i none)
  | .ret d e => .ret d e
  | _ => .err
def sufK (x : Option Nat) (ln : List Nat) (h : Env → F) (d : D) (e : Env) : F := match x with
  | none => noXF (h e)
  | some i => if ln.contains i then .err else clrF i (h (e.set i (some d)))
/-- behind a try's body -/
def tryK (c : Nat) (x : Option Nat) (ln : List Nat) (h : Env → F) : F → F
  | .exc (.exn k fs) e => if catches c k = true then sufK x ln h (.exn k fs) e else .exc (.exn k fs) e
  | .exc _ _ => .err
  | r => r
mutual
noncomputable def evS : S → List Nat → Env → F
  | .asg i a, ln, e => ((evE cl a e).bind esc).go fun d e => asgD ln i d e
  | .asgT t a, ln, e => ((evE cl a e).bind esc).go fun d e => asgTD ln t d e
  | .seti o k a, ln, e => if o.simple && k.simple then (((evE cl a e).bind esc).go fun d e => (evE cl o e).got fun t e => (evE cl k e).got fun u e => (rs u e).got fun x e => putT t (fun o => setD o x d) e) else .err
  | .setf o f a, ln, e => if o.simple then (((evE cl a e).bind esc).go fun d e => (evE cl o e).got fun t e => putT t (fun o => setF o f d) e) else .err
  | .asgP is as, ln, e => ((evEs cl as e).bind escL).got fun ds e => asgL ln is ds e
  | .aug i a, ln, e => match e[i]?.getD none with
    | some (.int x) => (evE cl a e).got fun t e => match t with
      | .val (.int y) => asgD ln i (.int (x + y)) e
      | _ => .err
    | _ => .err
  | .augf o f a, ln, e => if o.simple && a.simple then (evE cl o e).got fun t e => match (fldT t f e) with
    | some (.val (.int x)) => (evE cl a e).got fun u e => (match u with
      | .val (.int y) => putT t (fun o => setF o f (.int (x + y))) e
      | _ => .err)
    | _ => .err else .err
  | .ex a, ln, e => (evE cl a e).got fun _ e => .nx e
  | .ifS t a b, ln, e => (evT cl t e).got fun c e => if c = true then evSs a ln e else evSs b ln e
  | .forS tg it b, ln, e => (evI cl it e).got fun r e => forL (fun d e => (asgTD (srcs r.2 ln) tg d e).bind fun e => evSs b (srcs r.2 ln) e) (fun e' => ∀ t ∈ r.2, Held t e e') r.1 e
  | .whl t b, ln, e => whL (fun e => evT cl t e) (fun e => evSs b ln e) N e
  | .ret a, ln, e => (evE cl a e).got fun t e => match t with
    | .val d => .ret d e
    | .ref i p => match e.at i p with
      | none => .err
      | some d => if p.isEmpty then (if ln.contains i then .ret d.frz (e.set i (some d.frz)) else .ret d (e.set i none)) else .err
  | .brk, ln, e => .brk e
  | .cnt, ln, e => .cnt e
  | .pass, ln, e => .nx e
  | .rais c as, ln, e => match as with
    | .nil => .exc (.exn c []) e
    | _ => .err
  | .tryS b c x h, ln, e => tryK c x ln (evSs h ln) (evSs b ln e)
  | .never, _, _ => .err
noncomputable def evSs : Ss → List Nat → Env → F
  | .nil, ln, e => .nx e
  | .cons s ss, ln, e => (evS s ln e).bind fun e => evSs ss ln e
end
end
/-- a def: how many parameters, how many slots, its body -/
structure Fn where
  np : Nat
  ns : Nat
  body : Ss
/-- the slots of the arguments that are lent -/
def lentIx : Nat → List D → List Nat
  | _, [] => []
  | n, d :: ds => if d.own then n :: lentIx (n + 1) ds else lentIx (n + 1) ds
def outs : List D → Env → Option (List D)
  | [], _ => some []
  | d :: ds, o :: e => if d.own then (match o with
    | some x => (outs ds e).map (x :: ·)
    | none => none) else (outs ds e).map (d :: ·)
  | _ :: _, [] => none
def CR.of (o : Option (List D)) (f : List D → CR) : CR := match o with
  | some l => f l
  | none => .err
/-- a body's end as the call's -/
def F.fin (ds : List D) : F → CR
  | .nx e => CR.of (outs ds e) fun l => .ret .non l
  | .ret d e => CR.of (outs ds e) fun l => .ret d l
  | .exc x e => CR.of (outs ds e) fun l => .exc x l
  | _ => .err
noncomputable def runF (cl : Nat → List D → CR) (N : Nat) (f : Fn) (ds : List D) : CR :=
  if ds.length = f.np then F.fin ds (evSs cl N f.body (lentIx 0 ds) (ds.map some ++ List.replicate (f.ns - f.np) none)) else .err
noncomputable def call (N : Nat) (fns : Nat → Option Fn) : Nat → Nat → List D → CR
  | 0, _, _ => .err
  | n + 1, j, ds => match fns j with
    | some f => runF (call N fns n) N f ds
    | none => .err
end LT
/-! LtC: rules of evaluation. -/
namespace LT
variable {α β : Type}
@[simp] theorem R.bind_ite (c : Prop) [Decidable c] (a b : R α) (f : α → Env → R β) : (if c then a else b).bind f = if c then a.bind f else b.bind f := by split <;> rfl
@[simp] theorem R.got_ite (c : Prop) [Decidable c] (a b : R α) (f : α → Env → F) : (if c then a else b).got f = if c then a.got f else b.got f := by split <;> rfl
@[simp] theorem R.go_ite (c : Prop) [Decidable c] (a b : R D) (f : D → Env → F) : (if c then a else b).go f = if c then a.go f else b.go f := by split <;> rfl
@[simp] theorem F.bind_ite (c : Prop) [Decidable c] (a b : F) (f : Env → F) : (if c then a else b).bind f = if c then a.bind f else b.bind f := by split <;> rfl
@[simp] theorem R.of_ite (c : Prop) [Decidable c] (a b : Option α) (e : Env) : R.of (if c then a else b) e = if c then R.of a e else R.of b e := by split <;> rfl
@[simp] theorem own_non : D.non.own = false := id rfl
@[simp] theorem own_bl (b) : (D.bl b).own = false := id rfl
@[simp] theorem own_int (b) : (D.int b).own = false := id rfl
@[simp] theorem own_str (b) : (D.str b).own = false := id rfl
@[simp] theorem own_tup (b) : (D.tup b).own = false := id rfl
@[simp] theorem own_lst (b o) : (D.lst o b).own = o := id rfl
@[simp] theorem frz_non : D.non.frz = .non := id rfl
@[simp] theorem frz_bl (b) : (D.bl b).frz = .bl b := id rfl
@[simp] theorem frz_int (b) : (D.int b).frz = .int b := id rfl
@[simp] theorem frz_str (b) : (D.str b).frz = .str b := id rfl
@[simp] theorem frz_tup (b) : (D.tup b).frz = .tup b := id rfl
@[simp] theorem frz_lstF (b) : (D.lst false b).frz = .lst false b := id rfl
@[simp] theorem frz_lstT (b) : (D.lst true b).frz = .lst false (frzs b) := id rfl
@[simp] theorem root_val (d) : (T.val d).root = true := id rfl
@[simp] theorem root_ref (i) : (T.ref i []).root = true := id rfl
@[simp] theorem bool1_bl (b) : bool1 (.val (.bl b)) = some b := id rfl
@[simp] theorem rs_val (d e) : rs (.val d) e = .ok d.frz e := id rfl
@[simp] theorem esc_val (d e) : esc (.val d) e = .ok d e := id rfl
@[simp] theorem peek_val (d e) : peek (.val d) e = some d := id rfl
@[simp] theorem peek_ref (i p e) : peek (.ref i p) e = Env.at e i p := id rfl
@[simp] theorem at_nil (e : Env) (i) : e.at i [] = e[i]?.getD none := by unfold Env.at; cases e[i]?.getD none <;> rfl
section
variable (cl : Nat → List D → CR) (N : Nat) (ln : List Nat)
@[simp] theorem evE_con (d e) : evE cl (.con d) e = .ok (.val d) e := by rw [evE]
theorem evE_var_of {i : Nat} {e : Env} {d : D} (h : e[i]?.getD none = some d) : evE cl (.var i) e = .ok (if d.own then .ref i [] else .val d) e := by rw [evE]; simp only [h]
end
end LT
/-! LtNk: keys that are tuples, nested. -/
namespace LT
open PySem L2
def sOf (s : Cs) : PySem.Str := ⟨s.toArray⟩
mutual
def toNk : D → NestedKey
  | .int i => .num i
  | .str s => .text (sOf s)
  | .tup ds => .tup (toNks ds)
  | _ => .none
def toNks : List D → List NestedKey
  | [] => []
  | d :: ds => toNk d :: toNks ds
end
/-! keys and what stands for them -/
mutual
def NkV (K : PySem.W.Frag) (H : Hp) : NestedKey → V → Prop
  | .none, v => v = .non
  | .num i, v => v = .int i
  | .text x, v => v = .str x
  | .tup ks, v => ∃ a vs, v = .ref a ∧ SqT K H a vs ∧ NkVs K H ks vs
def NkVs (K : PySem.W.Frag) (H : Hp) : List NestedKey → List V → Prop
  | [], vs => vs = []
  | k :: ks, vs => ∃ v vs', vs = v :: vs' ∧ NkV K H k v ∧ NkVs K H ks vs'
end
section
variable {X : Cx} {pins : List (Addr × Obj)} {σ : L2.St} {H : Hp} {s : Shared}
mutual
theorem NkV.is (I : Inv X pins σ H s) : ∀ (k : NestedKey) (v : V) (u : Value), NkV X.K H k v → RelV v u → NestedIs s.heap k u
  | .none, v, u, h, r => by
    simp only [NkV] at h
    subst h
    cases (show u = Value.none from r)
    exact .none
  | .num i, v, u, h, r => by
    simp only [NkV] at h
    subst h
    obtain ⟨t, rfl⟩ := (show ∃ t, u = Value.int i t from r)
    exact .int i t
  | .text x, v, u, h, r => by
    simp only [NkV] at h
    subst h
    obtain ⟨t, rfl⟩ := (show ∃ t, u = Value.str x t from r)
    exact .text x t
  | .tup ks, v, u, h, r => by
    simp only [NkV] at h
    obtain ⟨a, vs, rfl, h1, h2⟩ := h
    cases (show u = Value.ref a from r)
    obtain ⟨its, rv, ⟨o, e1, e2, n, e3⟩, _⟩ := I.tuple h1
    exact .tup e1 e2 e3 (by simpa using NkVs.is I ks vs its h2 rv)
theorem NkVs.is (I : Inv X pins σ H s) : ∀ (ks : List NestedKey) (vs : List V) (us : List Value), NkVs X.K H ks vs → Vals vs us → NestedAll s.heap ks us
  | [], vs, us, h, r => by
    simp only [NkVs] at h
    subst h
    cases r
    exact .nil
  | k :: ks, vs, us, h, r => by
    simp only [NkVs] at h
    obtain ⟨v, vs', rfl, h1, h2⟩ := h
    cases r with
    | cons r1 r2 => exact .cons (NkV.is I k v _ h1 r1) (NkVs.is I ks vs' _ h2 r2)
end
end
mutual
theorem nk_depth : ∀ (n : Nat) (d : D), d.nk n = true → (toNk d).depth ≤ n
  | _, .non, h => by simp [toNk, NestedKey.depth]
  | _, .int i, h => by simp [toNk, NestedKey.depth]
  | _, .str s, h => by simp [toNk, NestedKey.depth]
  | n + 1, .tup ds, h => by
    simp only [D.nk] at h
    have := nks_depth n ds h
    simp only [toNk, NestedKey.depth]
    omega
  | 0, .tup ds, h => by simp [D.nk] at h
  | _, .bl b, h => by simp [D.nk] at h
  | _, .lst o b, h => by simp [D.nk] at h
  | _, .scr b, h => by simp [D.nk] at h
  | _, .dic _ _ _, h => by simp [D.nk] at h
  | _, .ins _ _ _ _, h => by simp [D.nk] at h
  | _, .exn _ _, h => by simp [D.nk] at h
theorem nks_depth : ∀ (n : Nat) (ds : List D), nks n ds = true → NestedKey.depthAll (toNks ds) ≤ n
  | _, [], h => by simp [toNks, NestedKey.depthAll]
  | n, d :: ds, h => by
    simp only [nks, Bool.and_eq_true] at h
    have h1 := nk_depth n d h.1
    have h2 := nks_depth n ds h.2
    simp only [toNks, NestedKey.depthAll]
    omega
end
mutual
theorem nk_eqv : ∀ (n m : Nat) (a b : D), a.nk n = true → b.nk m = true → a.eqv b = NestedKey.beq (toNk a) (toNk b)
  | n, m, .non, b, h, h' => by cases b <;> first | rfl | simp [D.nk] at h'
  | n, m, .int i, b, h, h' => by
    cases b with
    | int j => simp only [D.eqv, toNk, NestedKey.beq]; rw [Bool.eq_iff_iff]; simp
    | bl _ => simp [D.nk] at h'
    | _ => first | rfl | simp [D.nk] at h'
  | n, m, .str s, b, h, h' => by
    cases b with
    | str t =>
      simp only [D.eqv, toNk, NestedKey.beq]
      rw [Bool.eq_iff_iff]
      simp only [beq_iff_eq, decide_eq_true_eq, sOf, PySem.Str.mk.injEq]
      constructor
      · intro e; rw [e]
      · intro e; simpa using congrArg Array.toList e
    | _ => first | rfl | simp [D.nk] at h'
  | n + 1, m, .tup ds, b, h, h' => by
    cases b with
    | tup es =>
      cases m with
      | zero => simp [D.nk] at h'
      | succ m =>
        simp only [D.nk] at h h'
        simp only [D.eqv, toNk, NestedKey.beq]
        exact nks_eqv n m ds es h h'
    | _ => first | rfl | simp [D.nk] at h'
  | 0, m, .tup ds, b, h, h' => by simp [D.nk] at h
  | _, m, .bl _, b, h, h' => by simp [D.nk] at h
  | _, m, .lst o _, b, h, h' => by simp [D.nk] at h
  | _, m, .scr _, b, h, h' => by simp [D.nk] at h
  | _, m, .dic _ _ _, b, h, h' => by simp [D.nk] at h
  | _, m, .ins _ _ _ _, b, h, h' => by simp [D.nk] at h
  | _, m, .exn _ _, b, h, h' => by simp [D.nk] at h
theorem nks_eqv : ∀ (n m : Nat) (as bs : List D), nks n as = true → nks m bs = true → eqvs as bs = NestedKey.beqAll (toNks as) (toNks bs)
  | n, m, [], [], h, h' => rfl
  | n, m, [], b :: bs, h, h' => rfl
  | n, m, a :: as, [], h, h' => rfl
  | n, m, a :: as, b :: bs, h, h' => by
    simp only [nks, Bool.and_eq_true] at h h'
    simp only [eqvs, toNks, NestedKey.beqAll]
    rw [nk_eqv n m a b h.1 h'.1, nks_eqv n m as bs h.2 h'.2]
end
theorem nk_eqv' {n m : Nat} {a b : D} (h : a.nk n = true) (h' : b.nk m = true) : a.eqv b = decide (toNk a = toNk b) := by
  rw [nk_eqv n m a b h h', NestedKey.decide_eq]
/-! the tables -/
abbrev NkT := List (NestedKey × Addr × V)
def valX (xs : NkT) (k : NestedKey) : Option V := (xs.find? fun x => decide (x.1 = k)).map (·.2.2)
def putX (k : NestedKey) (v : V) (x : NestedKey × Addr × V) : NestedKey × Addr × V := if x.1 = k then (x.1, x.2.1, v) else x
def storedX (xs : NkT) (k : NestedKey) (a : Addr) (v : V) : NkT := if (valX xs k).isSome then xs.map (putX k v) else xs ++ [(k, a, v)]
abbrev NkR : NkT → List (NestedKey × Addr × Value) → Prop := Paired fun p q => p.1 = q.1 ∧ p.2.1 = q.2.1 ∧ RelV p.2.2 q.2.2
theorem NkR.val {xs : NkT} {ys : List (NestedKey × Addr × Value)} (r : NkR xs ys) (k : NestedKey) : RelO (valX xs k) ((atKey ys k).map (·.2)) := by
  induction r with
  | nil => exact True.intro
  | @cons p q ps qs h t ih =>
    obtain ⟨h1, h2, h3⟩ := h
    by_cases e : p.1 = k
    · have e' : q.1 = k := h1.symm.trans e
      have a : valX (p :: ps) k = some p.2.2 := by simp [valX, List.find?_cons, e]
      have b : atKey (q :: qs) k = some q.2 := by simp [atKey, List.find?_cons, e']
      rw [a, b]; exact h3
    · have e' : ¬ q.1 = k := fun z => e (h1.trans z)
      have a : valX (p :: ps) k = valX ps k := by simp [valX, List.find?_cons, e]
      have b : atKey (q :: qs) k = atKey qs k := by simp [atKey, List.find?_cons, e']
      rw [a, b]; exact ih
theorem NkR.map {xs : NkT} {ys : List (NestedKey × Addr × Value)} (r : NkR xs ys) (k : NestedKey) {v : V} {u : Value} (rv : RelV v u) : NkR (xs.map (putX k v)) (ys.map (putAt k u)) := by
  induction r with
  | nil => exact .nil
  | @cons p q ps qs h t ih =>
    obtain ⟨h1, h2, h3⟩ := h
    rw [List.map_cons, List.map_cons]
    refine .cons ?_ ih
    by_cases e : p.1 = k
    · have e' : q.1 = k := h1.symm.trans e
      rw [putX, if_pos e, putAt, if_pos e']
      exact ⟨h1, h2, rv⟩
    · have e' : ¬ q.1 = k := fun z => e (h1.trans z)
      rw [putX, if_neg e, putAt, if_neg e']
      exact ⟨h1, h2, h3⟩
theorem NkR.put {xs : NkT} {ys : List (NestedKey × Addr × Value)} (r : NkR xs ys) (k : NestedKey) (a : Addr) {v : V} {u : Value} (rv : RelV v u) : NkR (storedX xs k a v) (storedH ys k a u) := by
  have hs := (r.val k).isSome_eq
  rw [Option.isSome_map] at hs
  unfold storedX storedH
  rw [hs]
  by_cases e : (atKey ys k).isSome = true
  · rw [if_pos e, if_pos e]; exact r.map k rv
  · rw [if_neg e, if_neg e]; exact Paired.snoc r ⟨rfl, rfl, rv⟩
theorem NkR.mem {xs : NkT} {ys : List (NestedKey × Addr × Value)} (r : NkR xs ys) : ∀ y ∈ ys, ∃ x ∈ xs, x.1 = y.1 ∧ x.2.1 = y.2.1 := by
  induction r with
  | nil => intro y h; exact nomatch h
  | @cons p q ps qs h t ih =>
    intro y hy
    rcases List.mem_cons.mp hy with e | hy
    · subst e; exact ⟨p, List.mem_cons_self, h.1, h.2.1⟩
    · obtain ⟨x, hx, e⟩ := ih y hy
      exact ⟨x, List.mem_cons_of_mem _ hx, e⟩
theorem stored_len (xs : NkT) (k a v) : (storedX xs k a v).length ≤ xs.length + 1 := by
  unfold storedX; split <;> simp
theorem stored_ne (xs : NkT) (k a v) : storedX xs k a v ≠ [] := by
  unfold storedX
  split
  · rename_i h
    intro e
    rw [List.map_eq_nil_iff] at e
    subst e
    simp [valX] at h
  · simp
/-- a dict of such keys at a, by its own object -/
def NkPhi (w : World) (a : Addr) (xs : NkT) (h : Heap) : Prop := xs.length ≤ sizeLine ∧ (a == sysModules) = false ∧ ∃ ys, NkR xs ys ∧
  ∃ o es ep, h.get? a = some o ∧ o.ExactDict ∧ o.data = .dict es ep ∧ es.toList = ys.map (fun x => (⟨x.1.hash w, .ref x.2.1, x.2.2⟩ : DictEntry)) ∧ (ys.map (·.1)).Nodup
theorem NkPhi.ok {P : Program} {w : World} {H : Hp} {h : Heap} {a : Addr} {xs : NkT} (x : NkPhi w a xs h) : ObjOk P w H h a (.ext (NkPhi w a xs)) := by
  refine ⟨x, ?_, fun h1 h2 p q => ?_⟩
  · obtain ⟨_, _, _, _, o, _, _, e, _⟩ := x; exact ⟨o, e⟩
  · obtain ⟨p1, p2, ys, p3, o, es, ep, p4, p5⟩ := p
    exact ⟨p1, p2, ys, p3, o, es, ep, q _ p4, p5⟩
/-- what the dict at a holds at the key y, a tuple -/
def NGet (K : PySem.W.Frag) (w : World) (H : Hp) (a : Addr) (y : V) (r : Option V) : Prop := ∃ (xs : NkT) (k : NestedKey) (b : Addr), (H a = some (.ext (NkPhi w a xs)) ∨ (xs = [] ∧ H a = some (.dK []))) ∧
  y = .ref b ∧ NkV K H k y ∧ k.depth ≤ 8 ∧ (∀ x ∈ xs, NkV K H x.1 (.ref x.2.1) ∧ x.1.depth ≤ 8) ∧ r = valX xs k
def XGet (K : PySem.W.Frag) (w : World) (H : Hp) (a : Addr) (y : V) (r : Option V) : Prop := DGet H a y r ∨ NGet K w H a y r
/-- behind a[y] = v -/
def NPut (K : PySem.W.Frag) (w : World) (H : Hp) (a : Addr) (y v : V) (H' : Hp) : Prop := ∃ (xs : NkT) (k : NestedKey) (b : Addr), (H a = some (.ext (NkPhi w a xs)) ∨ (xs = [] ∧ H a = some (.dK []))) ∧
  y = .ref b ∧ NkV K H k y ∧ k.depth ≤ 8 ∧ (∀ x ∈ xs, NkV K H x.1 (.ref x.2.1) ∧ x.1.depth ≤ 8) ∧ xs.length < sizeLine ∧ H' = upd H a (.ext (NkPhi w a (storedX xs k b v)))
def XPut (K : PySem.W.Frag) (w : World) (H : Hp) (a : Addr) (y v : V) (H' : Hp) : Prop := DPut H a y v H' ∨ NPut K w H a y v H'
section
open PySem.Spec PyProof.Rows
variable {X : Cx} {pins : List (Addr × Obj)} {σ : L2.St} {H : Hp} {s : Shared} {a : Addr} {y v : V} {u r : Value} {o : Option V} {A : Around} {E : Value → Shared → Prop}
theorem nk_held {xs : NkT} (I : Inv X pins σ H s) (e : H a = some (.ext (NkPhi X.w a xs)) ∨ (xs = [] ∧ H a = some (.dK []))) (hx : ∀ x ∈ xs, NkV X.K H x.1 (.ref x.2.1) ∧ x.1.depth ≤ 8) :
    xs.length ≤ sizeLine ∧ (a == sysModules) = false ∧ ∃ ys, NkR xs ys ∧ s.heap.DictOfH (nestedKind X.prog X.w) a ys := by
  rcases e with e | ⟨rfl, e⟩
  · obtain ⟨⟨p1, p2, ys, p3, o, es, ep, p4, p5, p6, p7, p8⟩, _⟩ := (show ObjOk X.prog X.w H s.heap a (.ext (NkPhi X.w a xs)) from I.hok a _ e)
    refine ⟨p1, p2, ys, p3, o, es, ep, p4, p5, p6, p7, fun y hy => ?_, p8⟩
    obtain ⟨x, hm, e1, e2⟩ := p3.mem y hy
    obtain ⟨q1, q2⟩ := hx x hm
    rw [← e1, ← e2]
    exact ⟨NkV.is I _ _ _ q1 rfl, q2⟩
  · obtain ⟨z, hd, vs, rel, dd⟩ := dk_of I.hok e
    cases rel
    obtain ⟨o, es, ep, p4, p5, p6, p7⟩ := dd
    have pe : es.toList = [] := by
      have q := p7.2.1.length
      exact List.length_eq_zero_iff.mp q
    exact ⟨by simp, hd, [], .nil, o, es, ep, p4, p5, p6, by rw [pe]; rfl, fun y hy => (nomatch hy), by simp⟩
theorem x_getItem {Q : Value → Shared → Prop} (hu : A.units + 9 < cLine) (I : Inv X pins σ H s) (g : XGet X.K X.w H a y (some v)) (ry : RelV y u) (h : ∀ w' s', Inv X pins σ H s' → RelV v w' → Q w' s') :
    wpAny (model X.prog X.w) A (getItem (.ref a) u) Q E s := by
  rcases g with g | ⟨xs, k, b, e, ey, hk, hd8, hx, l⟩
  · exact d_getItem (by omega) I g ry h
  · obtain ⟨z, hd, ys, rel, dd⟩ := nk_held I e hx
    subst ey
    cases (show u = Value.ref b from ry)
    obtain ⟨w', hw, rw'⟩ := RelO.some_of (v := v) (o := (atKey ys k).map (·.2)) (by rw [l]; exact rel.val k)
    obtain ⟨p, hp, hp2⟩ := Option.map_eq_some_iff.mp hw
    refine wpAny_getItem_heap (knd := nestedKind X.prog X.w) (by show A.units + 1 + 8 < cLine; omega) ⟨NkV.is I _ _ _ hk rfl, hd8⟩ dd hp ?_
    rw [hp2]
    exact h w' _ (I.tok _) rw'
theorem x_in {Q : Value → Shared → Prop} (hu : A.units + 9 < cLine) (I : Inv X pins σ H s) (g : XGet X.K X.w H a y o) (ry : RelV y u) (h : ∀ s', Inv X pins σ H s' → Q (.bool o.isSome) s') :
    wpAny (model X.prog X.w) A (compareOp .In u (.ref a)) Q E s := by
  rcases g with g | ⟨xs, k, b, e, ey, hk, hd8, hx, l⟩
  · exact d_in (by omega) I g ry h
  · obtain ⟨z, hd, ys, rel, dd⟩ := nk_held I e hx
    subst ey
    cases (show u = Value.ref b from ry)
    refine wpAny_in_heap (knd := nestedKind X.prog X.w) (by show A.units + 1 + 8 < cLine; omega) ⟨NkV.is I _ _ _ hk rfl, hd8⟩ hd dd ?_
    have q := (rel.val k).isSome_eq
    rw [Option.isSome_map] at q
    rw [← q, ← l]
    exact h _ (I.tok _)
theorem x_notIn {Q : Value → Shared → Prop} (hu : A.units + 9 < cLine) (I : Inv X pins σ H s) (g : XGet X.K X.w H a y o) (ry : RelV y u) (h : ∀ s', Inv X pins σ H s' → Q (.bool (!o.isSome)) s') :
    wpAny (model X.prog X.w) A (compareOp .NotIn u (.ref a)) Q E s := by
  rcases g with g | ⟨xs, k, b, e, ey, hk, hd8, hx, l⟩
  · exact d_notIn (by omega) I g ry h
  · obtain ⟨z, hd, ys, rel, dd⟩ := nk_held I e hx
    subst ey
    cases (show u = Value.ref b from ry)
    refine wpAny_notIn_heap (knd := nestedKind X.prog X.w) (by show A.units + 1 + 8 < cLine; omega) ⟨NkV.is I _ _ _ hk rfl, hd8⟩ hd dd ?_
    have q := (rel.val k).isSome_eq
    rw [Option.isSome_map] at q
    rw [← q, ← l]
    exact h _ (I.tok _)
theorem x_setItem {H' : Hp} {Q : Unit → Shared → Prop} (hu : A.units + 9 < cLine) (I : Inv X pins σ H s) (g : XPut X.K X.w H a y v H') (ry : RelV y u) (rv : RelV v r) (h : ∀ s', Inv X pins σ H' s' → Q () s') :
    wpAny (model X.prog X.w) A (setItem (.ref a) u r) Q E s := by
  rcases g with g | ⟨xs, k, b, e, ey, hk, hd8, hx, l, eH⟩
  · exact d_setItem (by omega) I g ry rv h
  · obtain ⟨z, hd, ys, rel, dd⟩ := nk_held I e hx
    subst ey eH
    cases (show u = Value.ref b from ry)
    have hz : ys.length ≤ sizeLine := by rw [← Paired.length rel]; exact z
    have hl : (storedX xs k b v).length ≤ sizeLine := by have := stored_len xs k b v; omega
    refine wpAny_setItem_heap (knd := nestedKind X.prog X.w) (hsz := hz) (by show A.units + 1 + 8 < cLine; omega) ⟨NkV.is I _ _ _ hk rfl, hd8⟩ dd fun h' dd' hs => h _ ?_
    obtain ⟨q, es, ep, hq, h2, h3, h4, _, h5⟩ := dd'
    refine d_write I (by rcases e with e | ⟨_, e⟩ <;> (rw [e]; exact True.intro)) hs ⟨q, hq⟩ (NkPhi.ok ⟨hl, hd, _, rel.put k b rv, q, es, ep, hq, h2, h3, h4, h5⟩)
theorem XGet.typeIs {pins : List (Addr × Obj)} {σ : L2.St} {o : Option V} (I : Inv X pins σ H s) (g : XGet X.K X.w H a y o) : s.TypeIs (.ref a) "dict" := by
  rcases g with g | ⟨xs, k, b, e, ey, hk, hd8, hx, l⟩
  · exact dict_typeIs I g
  · obtain ⟨z, hd, ys, rel, dd⟩ := nk_held I e hx
    exact dd.typeIs
end
end LT
/-! LtD: how data stand in the abstract heap. -/
namespace LT
open PySem L2
/-- what the module gives: its written part, the classes -/
structure GK where
  K : PySem.W.Frag
  cls : Nat → Addr
  ex : Nat → Addr
  tab : List (Str × Nat)
  w : World
/-- the program's own classes of exceptions -/
def GK.exIn (G : GK) (k : Nat) : Prop := ∃ x, G.tab.lookup x = some k
/-- an exception in the air -/
def GK.XR (G : GK) (x : D) (cls : Value) (dx : Option Addr) (_ : L2.Hp) : Prop := ∃ c, x = .exn c [] ∧ cls = .ref (G.ex c) ∧ dx = none ∧ G.exIn c
def exU (a : Addr) (oe : Obj) : HO := .ext fun h => h.get? a = some oe
abbrev Ad := Addr → Prop
def no : Ad := fun _ => False
/-- a list that is known to others: read, never written -/
def ScrAt (K : PySem.W.Frag) (H : Hp) (a : Addr) (xs : List V) : Prop := (∃ o, H a = some (.frz o (.lst xs))) ∨
    ∃ (o : Obj) (its : Array Value) (n : Nat), K.lookup a = some o ∧ o.cls = .type "list" ∧ o.dict = none ∧ o.data = .seq its n ∧ its.size ≤ sizeLine ∧ Vals xs its.toList
theorem ScrAt.sq {K : PySem.W.Frag} {H : Hp} {a : Addr} {xs : List V} (h : ScrAt K H a xs) : SqL K H a xs := by
  rcases h with ⟨o, h⟩ | h
  · exact .inl (.inr ⟨o, h⟩)
  · exact .inr h
/-- a dict at a: its keys, its values, in order -/
def DicAt (w : World) (H : Hp) (a : Addr) (ks : List D) (kv vs : List V) : Prop := (∃ kvs : List (Key × V), H a = some (.dK kvs) ∧ kv = kvs.map (fun p => kV p.1) ∧ vs = kvs.map (·.2)) ∨
  ∃ xs : NkT, xs ≠ [] ∧ H a = some (.ext (NkPhi w a xs)) ∧ kv = xs.map (fun x => V.ref x.2.1) ∧ vs = xs.map (·.2.2) ∧ xs.map (·.1) = ks.map toNk ∧ ∀ k ∈ ks, (k.isTup && k.nk 8) = true
theorem DicAt.ne {w : World} {H : Hp} {a : Addr} {ks : List D} {kv vs : List V} (h : DicAt w H a ks kv vs) : ¬ H a = none := by
  rcases h with ⟨kvs, e, _⟩ | ⟨xs, _, e, _⟩ <;> (rw [e]; exact fun z => by cases z)
theorem DicAt.mut {w : World} {H : Hp} {a : Addr} {ks : List D} {kv vs : List V} (h : DicAt w H a ks kv vs) : Mut (H a) := by
  rcases h with ⟨kvs, e, _⟩ | ⟨xs, _, e, _⟩ <;> (rw [e]; trivial)
theorem DicAt.of {w : World} {H H' : Hp} {a : Addr} {ks : List D} {kv vs : List V} (h : DicAt w H a ks kv vs) (e : ∀ x, H a = some x → H' a = some x) : DicAt w H' a ks kv vs := by
  rcases h with ⟨kvs, q, r⟩ | ⟨xs, r0, q, r⟩
  · exact .inl ⟨kvs, e _ q, r⟩
  · exact .inr ⟨xs, r0, e _ q, r⟩
def dKey : Key → D
  | .inl i => .int i
  | .inr s => .str s.cps.toList
mutual
/-- the datum d stands at v; what it owns is within O, what it lets others read is not in A -/
def Rep (G : GK) (H : Hp) (A : Ad) : D → V → Ad → Prop
  | .non, v, _ => v = .non
  | .bl b, v, _ => v = .bl b
  | .int i, v, _ => v = .int i
  | .str s, v, _ => v = .str (sOf s)
  | .tup ds, v, _ => ∃ a vs, v = .ref a ∧ SqT G.K H a vs ∧ Reps G H A ds vs no
  | .lst true ds, v, O => ∃ a vs O', v = .ref a ∧ H a = some (.lst vs) ∧ O a ∧ (∀ x, O' x → O x ∧ x ≠ a) ∧ Reps G H A ds vs O'
  | .lst false ds, v, _ => ∃ a vs, v = .ref a ∧ H a = some (.lst vs) ∧ ¬ A a ∧ Reps G H A ds vs no
  | .scr ns, v, _ => ∃ a, v = .ref a ∧ ScrAt G.K H a (ns.map V.int)
  | .dic true ks ds, v, O => ∃ a kv vs, v = .ref a ∧ DicAt G.w H a ks kv vs ∧ O a ∧ Reps G H A ks kv no ∧ Reps G H A ds vs no
  | .dic false ks ds, v, _ => ∃ a kv vs, v = .ref a ∧ DicAt G.w H a ks kv vs ∧ ¬ A a ∧ Reps G H A ks kv no ∧ Reps G H A ds vs no
  | .ins true c fs ds, v, O => ∃ a dx fvs O', v = .ref a ∧ H a = some (.ins (G.cls c) dx fvs) ∧ O a ∧ fs = fvs.map (fun p => .str p.1.cps.toList) ∧ (∀ x, O' x → O x ∧ x ≠ a) ∧ Reps G H A ds (fvs.map (·.2)) O'
  | .ins false c fs ds, v, _ => ∃ a dx fvs, v = .ref a ∧ H a = some (.ins (G.cls c) dx fvs) ∧ ¬ A a ∧ fs = fvs.map (fun p => .str p.1.cps.toList) ∧ Reps G H A ds (fvs.map (·.2)) no
  | .exn c fs, v, _ => ∃ a oe, v = .ref a ∧ H a = some (.frz oe (exU a oe)) ∧ oe.cls = .ref (G.ex c) ∧ oe.dict = none ∧ (∃ vs, oe.data = .fields vs) ∧ fs = [] ∧ G.exIn c
def Reps (G : GK) (H : Hp) (A : Ad) : List D → List V → Ad → Prop
  | [], vs, _ => vs = []
  | d :: ds, vs, O => ∃ v vs' O1 O2, vs = v :: vs' ∧ (∀ x, O1 x → O x) ∧ (∀ x, O2 x → O x) ∧ (∀ x, O1 x → ¬ O2 x) ∧ Rep G H A d v O1 ∧ Reps G H A ds vs' O2
end
/-- what is not written stays -/
def Kept (S : Ad) (H H' : Hp) : Prop := ∀ a x, H a = some x → ¬ S a → H' a = some x
theorem Kept.refl (H : Hp) : Kept no H H := fun _ _ h _ => h
theorem Kept.same {H H' : Hp} (h : Kept no H H') : Same H H' := fun a x e => h a x e id
theorem Kept.of {H H' : Hp} (h : Same H H') {S : Ad} : Kept S H H' := fun a x e _ => h a x e
theorem Kept.new {H : Hp} {p : Addr} {o : HO} (h : H p = none) {S : Ad} : Kept S H (upd H p o) := fun a x e _ => by rw [upd_ne (ne_of_none e h)]; exact e
theorem ne_none {H : Hp} {a : Addr} {o : HO} (h : H a = some o) : ¬ H a = none := by rw [h]; exact fun z => by cases z
section
variable {G : GK} {H H' : Hp} {A A' : Ad}
theorem sqT_kept {S : Ad} (k : Kept S H H') (hS : ∀ a, S a → Mut (H a)) {a : Addr} {vs : List V} (h : SqT G.K H a vs) : SqT G.K H' a vs := by
  rcases h with (h | ⟨o, h⟩) | h
  · exact .inl (.inl (k a _ h fun s => by have := hS a s; rw [h] at this; exact this))
  · exact .inl (.inr ⟨o, k a _ h fun s => by have := hS a s; rw [h] at this; exact this⟩)
  · exact .inr h
mutual
/-- the frame: what is neither owned nor read stays -/
theorem Rep.kept {S : Ad} (k : Kept S H H') (hS : ∀ a, S a → Mut (H a)) (hA : ∀ a, A' a → A a ∨ H a = none) (hSA : ∀ a, S a → A a) : ∀ (d : D) (v : V) (O : Ad), (∀ a, O a → ¬ S a) → Rep G H A d v O → Rep G H' A' d v O
  | .non, _, _, _, h => by simpa [Rep] using h
  | .bl _, _, _, _, h => by simpa [Rep] using h
  | .int _, _, _, _, h => by simpa [Rep] using h
  | .str _, _, _, _, h => by simpa [Rep] using h
  | .tup ds, _, _, _, h => by
    simp only [Rep] at h ⊢
    obtain ⟨a, vs, e, h1, h2⟩ := h
    exact ⟨a, vs, e, sqT_kept k hS h1, Reps.kept k hS hA hSA ds vs no (fun _ z => z.elim) h2⟩
  | .lst true ds, _, O, hO, h => by
    simp only [Rep] at h ⊢
    obtain ⟨a, vs, O', e, h1, h2, h3, h4⟩ := h
    exact ⟨a, vs, O', e, k a _ h1 (hO a h2), h2, h3, Reps.kept k hS hA hSA ds vs O' (fun x z => hO x (h3 x z).1) h4⟩
  | .lst false ds, _, _, _, h => by
    simp only [Rep] at h ⊢
    obtain ⟨a, vs, e, h1, h2, h3⟩ := h
    exact ⟨a, vs, e, k a _ h1 fun s => h2 (hSA a s), fun z => (hA a z).elim h2 (ne_none h1), Reps.kept k hS hA hSA ds vs no (fun _ z => z.elim) h3⟩
  | .scr ns, _, _, _, h => by
    simp only [Rep] at h ⊢
    obtain ⟨a, e, h1⟩ := h
    rcases h1 with ⟨o, h1⟩ | h1
    · exact ⟨a, e, .inl ⟨o, k a _ h1 fun s => by have := hS a s; rw [h1] at this; exact this⟩⟩
    · exact ⟨a, e, .inr h1⟩
  | .dic true ks ds, _, O, hO, h => by
    simp only [Rep] at h ⊢
    obtain ⟨a, kv, vs, e, h1, h2, h3, h4⟩ := h
    exact ⟨a, kv, vs, e, h1.of fun x q => k a x q (hO a h2), h2, Reps.kept k hS hA hSA ks kv no (fun _ z => z.elim) h3, Reps.kept k hS hA hSA ds vs no (fun _ z => z.elim) h4⟩
  | .dic false ks ds, _, O, hO, h => by
    simp only [Rep] at h ⊢
    obtain ⟨a, kv, vs, e, h1, h2, h3, h4⟩ := h
    exact ⟨a, kv, vs, e, h1.of fun x q => k a x q fun s => h2 (hSA a s), fun z => (hA a z).elim h2 h1.ne, Reps.kept k hS hA hSA ks kv no (fun _ z => z.elim) h3, Reps.kept k hS hA hSA ds vs no (fun _ z => z.elim) h4⟩
  | .ins true c fs ds, _, O, hO, h => by
    simp only [Rep] at h ⊢
    obtain ⟨a, dx, fvs, O', e, h1, h2, h3, h4, h5⟩ := h
    exact ⟨a, dx, fvs, O', e, k a _ h1 (hO a h2), h2, h3, h4, Reps.kept k hS hA hSA ds _ O' (fun x z => hO x (h4 x z).1) h5⟩
  | .ins false c fs ds, _, O, hO, h => by
    simp only [Rep] at h ⊢
    obtain ⟨a, dx, fvs, e, h1, h2, h3, h4⟩ := h
    exact ⟨a, dx, fvs, e, k a _ h1 fun s => h2 (hSA a s), fun z => (hA a z).elim h2 (ne_none h1), h3, Reps.kept k hS hA hSA ds _ no (fun _ z => z.elim) h4⟩
  | .exn c fs, _, _, _, h => by
    simp only [Rep] at h ⊢
    obtain ⟨a, oe, e, h1, h2⟩ := h
    exact ⟨a, oe, e, k a _ h1 fun s => by have := hS a s; rw [h1] at this; exact this, h2⟩
theorem Reps.kept {S : Ad} (k : Kept S H H') (hS : ∀ a, S a → Mut (H a)) (hA : ∀ a, A' a → A a ∨ H a = none) (hSA : ∀ a, S a → A a) : ∀ (ds : List D) (vs : List V) (O : Ad), (∀ a, O a → ¬ S a) → Reps G H A ds vs O → Reps G H' A' ds vs O
  | [], _, _, _, h => by simpa [Reps] using h
  | d :: ds, _, O, hO, h => by
    simp only [Reps] at h ⊢
    obtain ⟨v, vs', O1, O2, e, h1, h2, h3, h4, h5⟩ := h
    exact ⟨v, vs', O1, O2, e, h1, h2, h3, Rep.kept k hS hA hSA d v O1 (fun x z => hO x (h1 x z)) h4, Reps.kept k hS hA hSA ds vs' O2 (fun x z => hO x (h2 x z)) h5⟩
end
mutual
theorem Rep.mono : ∀ (d : D) (v : V) (O O' : Ad), (∀ a, O a → O' a) → Rep G H A d v O → Rep G H A d v O'
  | .non, _, _, _, _, h => by simpa [Rep] using h
  | .bl _, _, _, _, _, h => by simpa [Rep] using h
  | .int _, _, _, _, _, h => by simpa [Rep] using h
  | .str _, _, _, _, _, h => by simpa [Rep] using h
  | .tup ds, _, _, _, _, h => by simpa [Rep] using h
  | .lst true ds, _, O, O', hO, h => by
    simp only [Rep] at h ⊢
    obtain ⟨a, vs, O1, e, h1, h2, h3, h4⟩ := h
    exact ⟨a, vs, O1, e, h1, hO a h2, fun x z => ⟨hO x (h3 x z).1, (h3 x z).2⟩, h4⟩
  | .lst false ds, _, _, _, _, h => by simpa [Rep] using h
  | .scr ns, _, _, _, _, h => by simpa [Rep] using h
  | .dic true ks ds, _, O, O', hO, h => by
    simp only [Rep] at h ⊢
    obtain ⟨a, kv, vs, e, h1, h2, h3, h4⟩ := h
    exact ⟨a, kv, vs, e, h1, hO a h2, h3, h4⟩
  | .dic false ks ds, _, _, _, _, h => by simpa [Rep] using h
  | .ins true c fs ds, _, O, O', hO, h => by
    simp only [Rep] at h ⊢
    obtain ⟨a, dx, fvs, O1, e, h1, h2, h3, h4, h5⟩ := h
    exact ⟨a, dx, fvs, O1, e, h1, hO a h2, h3, fun x z => ⟨hO x (h4 x z).1, (h4 x z).2⟩, h5⟩
  | .ins false c fs ds, _, _, _, _, h => by simpa [Rep] using h
  | .exn c fs, _, _, _, _, h => by simpa [Rep] using h
end
theorem Reps.mono : ∀ {ds : List D} {vs : List V} {O O' : Ad}, (∀ a, O a → O' a) → Reps G H A ds vs O → Reps G H A ds vs O'
  | [], _, _, _, _, h => by simpa [Reps] using h
  | d :: ds, _, O, O', hO, h => by
    simp only [Reps] at h ⊢
    obtain ⟨v, vs', O1, O2, e, h1, h2, h3, h4, h5⟩ := h
    exact ⟨v, vs', O1, O2, e, fun x z => hO x (h1 x z), fun x z => hO x (h2 x z), h3, h4, h5⟩
/-- what is not owned owns nothing -/
theorem Rep.noown {d : D} {v : V} {O O' : Ad} (hd : d.own = false) (h : Rep G H A d v O) : Rep G H A d v O' := by
  cases d with
  | lst o ds => cases o with
    | true => exact absurd hd (by simp [D.own])
    | false => simpa [Rep] using h
  | dic o ks ds => cases o with
    | true => exact absurd hd (by simp [D.own])
    | false => simpa [Rep] using h
  | ins o c ks ds => cases o with
    | true => exact absurd hd (by simp [D.own])
    | false => simpa [Rep] using h
  | _ => simpa [Rep] using h
mutual
theorem Rep.frz (hA : ∀ a, A' a → A a ∨ H a = none) : ∀ (d : D) (v : V) (O : Ad), (∀ a, O a → ¬ A' a) → Rep G H A d v O → ∀ O', Rep G H A' d.frz v O'
  | .lst true ds, _, O, hO, h, O' => by
    simp only [Rep] at h
    simp only [D.frz, Rep]
    obtain ⟨a, vs, O1, e, h1, h2, h3, h4⟩ := h
    exact ⟨a, vs, e, h1, hO a h2, Reps.frz hA ds vs O1 (fun x z => hO x (h3 x z).1) h4 no⟩
  | .dic true ks ds, _, O, hO, h, O' => by
    simp only [Rep] at h
    simp only [D.frz, Rep]
    obtain ⟨a, kv, vs, e, h1, h2, h3, h4⟩ := h
    exact ⟨a, kv, vs, e, h1, hO a h2, Reps.kept (S := no) (Kept.refl H) (fun _ z => z.elim) hA (fun _ z => z.elim) ks kv no (fun _ _ z => z) h3, Reps.frz hA ds vs no (fun x z => z.elim) h4 no⟩
  | .ins true c fs ds, _, O, hO, h, O' => by
    simp only [Rep] at h
    simp only [D.frz, Rep]
    obtain ⟨a, dx, fvs, O1, e, h1, h2, h3, h4, h5⟩ := h
    exact ⟨a, dx, fvs, e, h1, hO a h2, h3, Reps.frz hA ds _ O1 (fun x z => hO x (h4 x z).1) h5 no⟩
  | .non, _, _, _, h, _ => by simpa [Rep, D.frz] using h
  | .bl _, _, _, _, h, _ => by simpa [Rep, D.frz] using h
  | .int _, _, _, _, h, _ => by simpa [Rep, D.frz] using h
  | .str _, _, _, _, h, _ => by simpa [Rep, D.frz] using h
  | .scr _, _, _, _, h, _ => by simpa [Rep, D.frz] using h
  | .exn c fs, _, _, _, h, _ => by simpa [Rep, D.frz] using h
  | .tup ds, v, O, _, h, O' => (Rep.kept (S := no) (Kept.refl H) (fun _ z => z.elim) hA (fun _ z => z.elim) (.tup ds) v O (fun _ _ z => z) h).noown rfl
  | .lst false ds, v, O, _, h, O' => (Rep.kept (S := no) (Kept.refl H) (fun _ z => z.elim) hA (fun _ z => z.elim) (.lst false ds) v O (fun _ _ z => z) h).noown rfl
  | .dic false ks ds, v, O, _, h, O' => (Rep.kept (S := no) (Kept.refl H) (fun _ z => z.elim) hA (fun _ z => z.elim) (.dic false ks ds) v O (fun _ _ z => z) h).noown rfl
  | .ins false c ks ds, v, O, _, h, O' => (Rep.kept (S := no) (Kept.refl H) (fun _ z => z.elim) hA (fun _ z => z.elim) (.ins false c ks ds) v O (fun _ _ z => z) h).noown rfl
theorem Reps.frz (hA : ∀ a, A' a → A a ∨ H a = none) : ∀ (ds : List D) (vs : List V) (O : Ad), (∀ a, O a → ¬ A' a) → Reps G H A ds vs O → ∀ O', Reps G H A' (frzs ds) vs O'
  | [], _, _, _, h, _ => by simpa [Reps, frzs] using h
  | d :: ds, _, O, hO, h, O' => by
    simp only [Reps] at h
    simp only [frzs, Reps]
    obtain ⟨v, vs', O1, O2, e, h1, h2, h3, h4, h5⟩ := h
    exact ⟨v, vs', no, no, e, fun _ z => z.elim, fun _ z => z.elim, fun _ z => z.elim, Rep.frz hA d v O1 (fun x z => hO x (h1 x z)) h4 no, Reps.frz hA ds vs' O2 (fun x z => hO x (h2 x z)) h5 no⟩
end
/-- children of which none is owned -/
theorem Reps.noown : ∀ {ds : List D} {vs : List V} {O O' : Ad}, (ds.all fun d => !d.own) = true → Reps G H A ds vs O → Reps G H A ds vs O'
  | [], _, _, _, _, h => by simpa [Reps] using h
  | d :: ds, _, O, O', hd, h => by
    simp only [Reps] at h ⊢
    simp only [List.all_cons, Bool.and_eq_true, Bool.not_eq_true'] at hd
    obtain ⟨v, vs', O1, O2, e, h1, h2, h3, h4, h5⟩ := h
    exact ⟨v, vs', no, no, e, fun _ z => z.elim, fun _ z => z.elim, fun _ z => z.elim, h4.noown hd.1, Reps.noown hd.2 h5⟩
theorem Reps.length : ∀ {ds : List D} {vs : List V} {O : Ad}, Reps G H A ds vs O → ds.length = vs.length
  | [], _, _, h => by simp only [Reps] at h; subst h; rfl
  | d :: ds, _, O, h => by
    simp only [Reps] at h
    obtain ⟨v, vs', O1, O2, e, h1, h2, h3, h4, h5⟩ := h
    rw [e, List.length_cons, List.length_cons, Reps.length h5]
theorem Reps.get : ∀ {ds : List D} {vs : List V} {O : Ad} {n : Nat} {d : D}, Reps G H A ds vs O → ds[n]? = some d → ∃ v O1, vs[n]? = some v ∧ (∀ a, O1 a → O a) ∧ Rep G H A d v O1
  | [], _, _, _, _, _, e => by simp at e
  | d :: ds, _, O, 0, x, h, q => by
    simp only [Reps] at h
    obtain ⟨v, vs', O1, O2, e, h1, h2, h3, h4, h5⟩ := h
    simp at q; subst q; subst e
    exact ⟨v, O1, rfl, h1, h4⟩
  | d :: ds, _, O, n + 1, x, h, q => by
    simp only [Reps] at h
    obtain ⟨v, vs', O1, O2, e, h1, h2, h3, h4, h5⟩ := h
    subst e
    obtain ⟨v, O3, e, h6, h7⟩ := Reps.get h5 (by simpa using q)
    exact ⟨v, O3, by simpa using e, fun a z => h2 a (h6 a z), h7⟩
theorem Reps.append : ∀ {ds es : List D} {vs ws : List V} {O O2 O' : Ad}, Reps G H A ds vs O → Reps G H A es ws O2 → (∀ a, O a → O' a) → (∀ a, O2 a → O' a) → (∀ a, O a → ¬ O2 a) → Reps G H A (ds ++ es) (vs ++ ws) O'
  | [], _, _, _, _, _, _, h, h', _, m, _ => by
    simp only [Reps] at h
    subst h
    exact Reps.mono m h'
  | d :: ds, es, _, ws, O, O2, O', h, h', m1, m2, dj => by
    simp only [Reps] at h
    obtain ⟨v, vs', P1, P2, e, h1, h2, h3, h4, h5⟩ := h
    subst e
    simp only [List.cons_append, Reps]
    refine ⟨v, vs' ++ ws, P1, fun a => P2 a ∨ O2 a, rfl, fun a z => m1 a (h1 a z), fun a z => z.elim (fun z => m1 a (h2 a z)) (m2 a), fun a z q => q.elim (h3 a z) (dj a (h1 a z)), h4, Reps.append h5 h' (fun a z => .inl z) (fun a z => .inr z) fun a z => dj a (h2 a z)⟩
/-- plain ones: any of them -/
theorem Reps.no_of {ds : List D} {vs : List V} (h : ds.length = vs.length) (f : ∀ (n : Nat) d v, ds[n]? = some d → vs[n]? = some v → Rep G H A d v no) : Reps G H A ds vs no := by
  induction ds generalizing vs with
  | nil => cases vs with
    | nil => simp [Reps]
    | cons v vs => simp at h
  | cons d ds ih => cases vs with
    | nil => simp at h
    | cons v vs =>
      simp only [Reps]
      exact ⟨v, vs, no, no, rfl, fun _ z => z, fun _ z => z, fun _ z _ => z, f 0 d v rfl rfl, ih (by simpa using h) fun n d v e e' => f (n + 1) d v (by simpa using e) (by simpa using e')⟩
/-- one child is put anew -/
theorem Reps.put : ∀ {ds : List D} {vs : List V} {O : Ad} (n : Nat) {d' : D} {v' : V} {O1 : Ad} {O' : Ad}, Reps G H A ds vs O → Rep G H A d' v' O1 → (∀ a, O a → O' a) → (∀ a, O1 a → O' a) → (∀ a, O1 a → ¬ O a) → Reps G H A (ds.set n d') (vs.set n v') O'
  | [], _, _, _, _, _, _, _, h, _, _, _, _ => by simpa [Reps] using h
  | d :: ds, _, O, 0, d', v', O1, O', h, h', m, m', dj => by
    simp only [Reps] at h
    obtain ⟨v, vs', P1, P2, e, h1, h2, h3, h4, h5⟩ := h
    subst e
    simp only [List.set_cons_zero, Reps]
    exact ⟨v', vs', O1, P2, rfl, m', fun a z => m a (h2 a z), fun a z q => dj a z (h2 a q), h', h5⟩
  | d :: ds, _, O, n + 1, d', v', O1, O', h, h', m, m', dj => by
    simp only [Reps] at h
    obtain ⟨v, vs', P1, P2, e, h1, h2, h3, h4, h5⟩ := h
    subst e
    simp only [List.set_cons_succ, Reps]
    exact ⟨v, vs'.set n v', P1, fun a => P2 a ∨ O1 a, rfl, fun a z => m a (h1 a z), fun a z => z.elim (fun z => m a (h2 a z)) (m' a), fun a z q => q.elim (h3 a z) fun q => dj a q (h1 a z), h4, Reps.put n h5 h' (fun a z => .inl z) (fun a z => .inr z) fun a z q => dj a z (h2 a q)⟩
theorem set_self {α : Type} : ∀ {l : List α} {n : Nat} {x : α}, l[n]? = some x → l.set n x = l
  | [], _, _, h => by simp at h
  | y :: ys, 0, x, h => by simp at h; subst h; rfl
  | y :: ys, n + 1, x, h => by rw [List.set_cons_succ, set_self (by simpa using h)]
theorem Rep.ref {d : D} {v : V} {O : Ad} (hd : d.own = true) (h : Rep G H A d v O) : ∃ a, v = .ref a ∧ O a := by
  cases d with
  | lst o ds => cases o with
    | true =>
      simp only [Rep] at h
      obtain ⟨a, vs, O1, e, h1, h2, h3, h4⟩ := h
      exact ⟨a, e, h2⟩
    | false => exact absurd hd (by simp [D.own])
  | dic o ks ds => cases o with
    | true =>
      simp only [Rep] at h
      obtain ⟨a, kv, vs, e, h1, h2, h3, h4⟩ := h
      exact ⟨a, e, h2⟩
    | false => exact absurd hd (by simp [D.own])
  | ins o c ks ds => cases o with
    | true =>
      simp only [Rep] at h
      obtain ⟨a, dx, fvs, O1, e, h1, h2, h3, h4, h5⟩ := h
      exact ⟨a, e, h2⟩
    | false => exact absurd hd (by simp [D.own])
  | _ => exact absurd hd (by simp [D.own])
theorem Reps.focus : ∀ {ds : List D} {vs : List V} {O : Ad} {n : Nat} {d : D}, Reps G H A ds vs O → ds[n]? = some d → ∃ (v : V) (O1 R : Ad), vs[n]? = some v ∧ (∀ a, O1 a → O a) ∧ (∀ a, R a → O a) ∧ (∀ a, O1 a → ¬ R a) ∧ Rep G H A d v O1 ∧
    ∀ (H' : Hp) (A' S : Ad) (d' : D) (v' : V) (O1' : Ad), Kept S H H' → (∀ a, S a → Mut (H a)) → (∀ a, A' a → A a ∨ H a = none) → (∀ a, S a → A a) → (∀ a, R a → ¬ S a) → Rep G H' A' d' v' O1' → (∀ a, O1' a → ¬ R a) → Reps G H' A' (ds.set n d') (vs.set n v') (fun a => R a ∨ O1' a)
  | [], _, _, _, _, _, e => by simp at e
  | d :: ds, _, O, 0, x, h, q => by
    simp only [Reps] at h
    obtain ⟨v, vs', O1, O2, e, h1, h2, h3, h4, h5⟩ := h
    simp at q; subst q; subst e
    refine ⟨v, O1, O2, rfl, h1, h2, h3, h4, fun H' A' S d' v' O1' k hS hA hSA hR h' dj => ?_⟩
    simp only [List.set_cons_zero, Reps]
    exact ⟨v', vs', O1', O2, rfl, fun a z => .inr z, fun a z => .inl z, dj, h', Reps.kept k hS hA hSA ds vs' O2 (fun a z => hR a z) h5⟩
  | d :: ds, _, O, n + 1, x, h, q => by
    simp only [Reps] at h
    obtain ⟨v, vs', O1, O2, e, h1, h2, h3, h4, h5⟩ := h
    subst e
    obtain ⟨w, P1, R, e, h6, h7, h8, h9, h10⟩ := Reps.focus h5 (by simpa using q)
    refine ⟨w, P1, fun a => R a ∨ O1 a, by simpa using e, fun a z => h2 a (h6 a z), fun a z => z.elim (fun z => h2 a (h7 a z)) (h1 a), fun a z q => q.elim (h8 a z) fun q => h3 a q (h6 a z), h9, fun H' A' S d' v' O1' k hS hA hSA hR h' dj => ?_⟩
    simp only [List.set_cons_succ, Reps]
    refine ⟨v, vs'.set n v', O1, fun a => R a ∨ O1' a, rfl, fun a z => .inl (.inr z), fun a z => z.elim (fun z => .inl (.inl z)) .inr, fun a z q => q.elim (fun q => h3 a z (h7 a q)) fun q => dj a q (.inr z), Rep.kept k hS hA hSA d v O1 (fun a z => hR a (.inr z)) h4, h10 H' A' S d' v' O1' k hS hA hSA (fun a z => hR a (.inl z)) h' fun a z q => dj a z (.inl q)⟩
def AtV (H : Hp) : List Stp → V → V → Prop
  | [], v₀, v => v = v₀
  | .ix n :: p, v₀, v => ∃ a vs v₁, v₀ = .ref a ∧ H a = some (.lst vs) ∧ vs[n]? = some v₁ ∧ AtV H p v₁ v
  | .fl f :: p, v₀, v => ∃ a C dx fvs v₁, v₀ = .ref a ∧ H a = some (.ins C dx fvs) ∧ fvs.lookup (sOf f) = some v₁ ∧ AtV H p v₁ v
theorem AtV.snoc {H : Hp} {n : Nat} : ∀ {p : List Stp} {v₀ v v' : V} {a : Addr} {vs : List V}, AtV H p v₀ v → v = .ref a → H a = some (.lst vs) → vs[n]? = some v' → AtV H (p ++ [.ix n]) v₀ v'
  | [], v₀, v, v', a, vs, h, e, h1, h2 => ⟨a, vs, v', by rw [← show v = v₀ from h]; exact e, h1, h2, rfl⟩
  | .ix n :: p, v₀, v, v', a, vs, ⟨b, ws, v₁, e1, e2, e3, h⟩, e, h1, h2 => ⟨b, ws, v₁, e1, e2, e3, AtV.snoc h e h1 h2⟩
  | .fl f :: p, v₀, v, v', a, vs, ⟨b, C, dx, fvs, v₁, e1, e2, e3, h⟩, e, h1, h2 => ⟨b, C, dx, fvs, v₁, e1, e2, e3, AtV.snoc h e h1 h2⟩
/-- a place within what is owned -/
theorem Rep.zoom : ∀ (p : List Stp) (d : D) (v : V) (O : Ad) (n : D), Rep G H A d v O → getP p d = some n → ∃ (w : V) (O1 R : Ad), AtV H p v w ∧ (∀ w', AtV H p v w' → w' = w) ∧ (∀ a, O1 a → O a) ∧ (∀ a, R a → O a) ∧ (∀ a, O1 a → ¬ R a) ∧ Rep G H A n w O1 ∧
    ∀ (H' : Hp) (A' S : Ad) (n' : D) (O1' : Ad), Kept S H H' → (∀ a, S a → Mut (H a)) → (∀ a, A' a → A a ∨ H a = none) → (∀ a, S a → A a) → (∀ a, R a → ¬ S a) → Rep G H' A' n' w O1' → (∀ a, O1' a → ¬ R a) → Rep G H' A' (setP p n' d) v (fun a => R a ∨ O1' a)
  | [], d, v, O, n, h, e => by
    simp only [getP, Option.some.injEq] at e
    subst e
    refine ⟨v, O, no, rfl, fun _ e => e, fun _ z => z, fun _ z => z.elim, fun _ _ z => z, h, fun H' A' S n' O1' _ _ _ _ _ h' _ => ?_⟩
    simp only [setP]
    exact Rep.mono n' v O1' _ (fun a z => .inr z) h'
  | .ix k :: p, .lst true xs, v, O, n, h, e => by
    simp only [getP] at e
    obtain ⟨d1, e1, e2⟩ := Option.bind_eq_some_iff.mp e
    simp only [Rep] at h
    obtain ⟨a, vs, O', ev, h1, h2, h3, h4⟩ := h
    obtain ⟨v1, P1, R1, g1, g2, g3, g4, g5, g6⟩ := Reps.focus h4 e1
    obtain ⟨w, Q1, R2, k1, k2, k3, k4, k5, k6, k7⟩ := Rep.zoom p d1 v1 P1 n g5 e2
    refine ⟨w, Q1, fun x => x = a ∨ R1 x ∨ R2 x, ⟨a, vs, v1, ev, h1, g1, k1⟩, ?_, fun x z => (h3 x (g2 x (k3 x z))).1, ?_, ?_, k6, ?_⟩
    · rintro w' ⟨a', vs', v1', q1, q2, q3, q4⟩
      rw [ev] at q1; cases q1
      rw [h1] at q2; cases q2
      rw [g1] at q3; cases q3
      exact k2 w' q4
    · rintro x (z | z | z)
      · rw [z]; exact h2
      · exact (h3 x (g3 x z)).1
      · exact (h3 x (g2 x (k4 x z))).1
    · rintro x z (q | q | q)
      · exact (h3 x (g2 x (k3 x z))).2 q
      · exact g4 x (k3 x z) q
      · exact k5 x z q
    · intro H' A' S n' O1' kk hS hA hSA hR h' dj
      have r2 := k7 H' A' S n' O1' kk hS hA hSA (fun x z => hR x (.inr (.inr z))) h' fun x z q => dj x z (.inr (.inr q))
      have r1 := g6 H' A' S _ v1 _ kk hS hA hSA (fun x z => hR x (.inr (.inl z))) r2 (fun x z q => z.elim (fun z => g4 x (k4 x z) q) fun z => dj x z (.inr (.inl q)))
      rw [set_self g1] at r1
      have e3 : xs.getD k .non = d1 := by rw [List.getD_eq_getElem?_getD, e1]; rfl
      simp only [setP, Rep]
      rw [e3]
      refine ⟨a, vs, _, ev, kk a _ h1 (hR a (.inl rfl)), .inl (.inl rfl), ?_, r1⟩
      rintro x (z | z | z)
      · exact ⟨.inl (.inr (.inl z)), (h3 x (g3 x z)).2⟩
      · exact ⟨.inl (.inr (.inr z)), (h3 x (g2 x (k4 x z))).2⟩
      · exact ⟨.inr z, fun q => dj x z (.inl q)⟩
  | .ix k :: p, .lst false xs, v, O, n, h, e => by simp [getP] at e
  | .ix k :: p, .non, v, O, n, h, e => by simp [getP] at e
  | .ix k :: p, .bl _, v, O, n, h, e => by simp [getP] at e
  | .ix k :: p, .int _, v, O, n, h, e => by simp [getP] at e
  | .ix k :: p, .str _, v, O, n, h, e => by simp [getP] at e
  | .ix k :: p, .tup _, v, O, n, h, e => by simp [getP] at e
  | .ix k :: p, .scr _, v, O, n, h, e => by simp [getP] at e
  | .ix k :: p, .dic _ _ _, v, O, n, h, e => by simp [getP] at e
  | .ix k :: p, .ins _ _ _ _, v, O, n, h, e => by simp [getP] at e
  | .ix k :: p, .exn _ _, v, O, n, h, e => by simp [getP] at e
  | .fl f :: p, d, v, O, n, h, e => by simp [getP] at e
end
end LT
/-! LtE: the state: slots and things in between, each at its datum. -/
namespace LT
open PySem L2
/-- a frame's constants: the heap at its entry, what it must not write, what it must not come to know, the lent slots -/
structure Fc where
  H0 : Hp
  nw : Ad
  hid : Ad
  ln : List (Nat × V)
  hn : ∀ a, hid a → nw a
  nt : ∀ a, nw a → H0 a ≠ none
def te (p : V × T) : Option D × Option V := match p.2 with
  | .val d => (some d, some p.1)
  | .ref _ _ => (none, none)
abbrev Tm := List (V × T)
def ents (σ : St) (tm : Tm) (env : Env) : List (Option D × Option V) := env.zip σ ++ tm.map te
def RepO (G : GK) (H : Hp) (A : Ad) : Option D → Option V → Ad → Prop
  | some d, some v, O => Rep G H A d v O
  | some _, none, _ => False
  | none, _, _ => True
def RepL (G : GK) (H : Hp) (A : Ad) : List (Option D × Option V) → Ad → Prop
  | [], _ => True
  | e :: l, O => ∃ O1 O2 : Ad, (∀ x, O1 x → O x) ∧ (∀ x, O2 x → O x) ∧ (∀ x, O1 x → ¬ O2 x) ∧ RepO G H A e.1 e.2 O1 ∧ RepL G H A l O2
section
variable {G : GK} {H H' : Hp} {A A' : Ad}
theorem RepO.kept {S : Ad} (k : Kept S H H') (hS : ∀ a, S a → Mut (H a)) (hA : ∀ a, A' a → A a ∨ H a = none) (hSA : ∀ a, S a → A a) {d : Option D} {v : Option V} {O : Ad} (hO : ∀ a, O a → ¬ S a) (h : RepO G H A d v O) : RepO G H' A' d v O := by
  cases d with
  | none => trivial
  | some d => cases v with
    | none => exact h
    | some v => exact Rep.kept k hS hA hSA d v O hO h
theorem RepL.kept {S : Ad} (k : Kept S H H') (hS : ∀ a, S a → Mut (H a)) (hA : ∀ a, A' a → A a ∨ H a = none) (hSA : ∀ a, S a → A a) : ∀ {l : List (Option D × Option V)} {O : Ad}, (∀ a, O a → ¬ S a) → RepL G H A l O → RepL G H' A' l O
  | [], _, _, _ => trivial
  | e :: l, O, hO, ⟨O1, O2, h1, h2, h3, h4, h5⟩ => ⟨O1, O2, h1, h2, h3, h4.kept k hS hA hSA fun a z => hO a (h1 a z), RepL.kept k hS hA hSA (fun a z => hO a (h2 a z)) h5⟩
theorem RepL.mono : ∀ {l : List (Option D × Option V)} {O O' : Ad}, (∀ a, O a → O' a) → RepL G H A l O → RepL G H A l O'
  | [], _, _, _, _ => trivial
  | e :: l, O, O', m, ⟨O1, O2, h1, h2, h3, h4, h5⟩ => ⟨O1, O2, fun a z => m a (h1 a z), fun a z => m a (h2 a z), h3, h4, h5⟩
theorem RepL.append : ∀ {l l' : List (Option D × Option V)} {O O' P : Ad}, RepL G H A l O → RepL G H A l' O' → (∀ a, O a → P a) → (∀ a, O' a → P a) → (∀ a, O a → ¬ O' a) → RepL G H A (l ++ l') P
  | [], _, _, _, _, _, h', _, m', _ => RepL.mono m' h'
  | e :: l, l', O, O', P, ⟨O1, O2, h1, h2, h3, h4, h5⟩, h', m, m', dj => ⟨O1, fun a => O2 a ∨ O' a, fun a z => m a (h1 a z), fun a z => z.elim (fun z => m a (h2 a z)) (m' a), fun a z q => q.elim (h3 a z) (dj a (h1 a z)), h4,
      RepL.append h5 h' (fun _ z => .inl z) (fun _ z => .inr z) fun a z => dj a (h2 a z)⟩
theorem RepL.split : ∀ {l l' : List (Option D × Option V)} {P : Ad}, RepL G H A (l ++ l') P → ∃ O O' : Ad, RepL G H A l O ∧ RepL G H A l' O' ∧ (∀ a, O a → P a) ∧ (∀ a, O' a → P a) ∧ (∀ a, O a → ¬ O' a)
  | [], l', P, h => ⟨no, P, trivial, h, fun _ z => z.elim, fun _ z => z, fun _ z => z.elim⟩
  | e :: l, l', P, ⟨O1, O2, h1, h2, h3, h4, h5⟩ => by
    obtain ⟨Q, Q', k1, k2, k3, k4, k5⟩ := RepL.split h5
    exact ⟨fun a => O1 a ∨ Q a, Q', ⟨O1, Q, fun _ z => .inl z, fun _ z => .inr z, fun a z q => h3 a z (k3 a q), h4, k1⟩, k2, fun a z => z.elim (h1 a) fun z => h2 a (k3 a z), fun a z => h2 a (k4 a z), fun a z q => z.elim (fun z => h3 a z (k4 a q)) fun z => k5 a z q⟩
theorem RepL.focus : ∀ {l : List (Option D × Option V)} {O : Ad} {n : Nat} {d : D} {v : Option V}, RepL G H A l O → l[n]? = some (some d, v) → ∃ (w : V) (O1 R : Ad), v = some w ∧ (∀ a, O1 a → O a) ∧ (∀ a, R a → O a) ∧ (∀ a, O1 a → ¬ R a) ∧ Rep G H A d w O1 ∧
    ∀ (H' : Hp) (A' S : Ad) (e' : Option D × Option V) (O1' : Ad), Kept S H H' → (∀ a, S a → Mut (H a)) → (∀ a, A' a → A a ∨ H a = none) → (∀ a, S a → A a) → (∀ a, R a → ¬ S a) → RepO G H' A' e'.1 e'.2 O1' → (∀ a, O1' a → ¬ R a) → RepL G H' A' (l.set n e') (fun a => R a ∨ O1' a)
  | [], _, _, _, _, _, e => by simp at e
  | e :: l, O, 0, d, v, ⟨O1, O2, h1, h2, h3, h4, h5⟩, q => by
    simp at q; subst q
    cases v with
    | none => exact h4.elim
    | some w =>
      refine ⟨w, O1, O2, rfl, h1, h2, h3, h4, fun H' A' S e' O1' k hS hA hSA hR h' dj => ?_⟩
      exact ⟨O1', O2, fun a z => .inr z, fun a z => .inl z, dj, h', RepL.kept k hS hA hSA (fun a z => hR a z) h5⟩
  | e :: l, O, n + 1, d, v, ⟨O1, O2, h1, h2, h3, h4, h5⟩, q => by
    obtain ⟨w, P1, R, ev, h6, h7, h8, h9, h10⟩ := RepL.focus h5 (by simpa using q)
    refine ⟨w, P1, fun a => R a ∨ O1 a, ev, fun a z => h2 a (h6 a z), fun a z => z.elim (fun z => h2 a (h7 a z)) (h1 a), fun a z q => q.elim (h8 a z) fun q => h3 a q (h6 a z), h9, fun H' A' S e' O1' k hS hA hSA hR h' dj => ?_⟩
    exact ⟨O1, fun a => R a ∨ O1' a, fun a z => .inl (.inr z), fun a z => z.elim (fun z => .inl (.inl z)) .inr, fun a z q => q.elim (fun q => h3 a z (h7 a q)) fun q => dj a q (.inr z), h4.kept k hS hA hSA (fun a z => hR a (.inr z)), h10 H' A' S e' O1' k hS hA hSA (fun a z => hR a (.inl z)) h' fun a z q => dj a z (.inl q)⟩
end

/-- a place of a slot -/
def PlaceV (H : Hp) (σ : St) (i : Nat) (p : List Stp) (v : V) : Prop := ∃ v₀, σ[i]? = some (some v₀) ∧ AtV H p v₀ v
/-- THE STATE: O holds all that the frame owns -/
structure FRo (G : GK) (C : Fc) (σ : St) (tm : Tm) (env : Env) (H : Hp) (O : Ad) : Prop where
  len : σ.length = env.length
  rep : RepL G H (fun a => O a ∨ C.hid a) (ents σ tm env) O
  nw : ∀ a, O a → ¬ C.nw a
  mu : ∀ a, O a → Mut (H a)
  refs : ∀ v i p, (v, T.ref i p) ∈ tm → PlaceV H σ i p v
  kept : ∀ a x, C.H0 a = some x → C.nw a → H a = some x
  lent : ∀ p ∈ C.ln, σ[p.1]? = some (some p.2)
def FR (G : GK) (C : Fc) (σ : St) (tm : Tm) (env : Env) (H : Hp) : Prop := ∃ O, FRo G C σ tm env H O
/-- a thing to look at: its children know nothing of B -/
def Vw (G : GK) (H : Hp) (B : Ad) : D → V → Prop
  | .lst _ ds, v => ∃ a vs, v = .ref a ∧ H a = some (.lst vs) ∧ Reps G H B ds vs no
  | .dic _ ks ds, v => ∃ a kv vs, v = .ref a ∧ DicAt G.w H a ks kv vs ∧ Reps G H B ks kv no ∧ Reps G H B ds vs no
  | .ins _ c fs ds, v => ∃ a dx fvs, v = .ref a ∧ H a = some (.ins (G.cls c) dx fvs) ∧ fs = fvs.map (fun p => .str p.1.cps.toList) ∧ Reps G H B ds (fvs.map (·.2)) no
  | d, v => Rep G H B d v no
theorem Vw.of {G : GK} {H : Hp} {B : Ad} {d : D} {v : V} {O : Ad} (hd : d.own = false) (h : Rep G H B d v O) : Vw G H B d v := by
  have h := h.noown (O' := no) hd
  cases d with
  | lst o ds => cases o with
    | true => exact absurd hd (by simp [D.own])
    | false =>
      simp only [Rep] at h
      obtain ⟨a, vs, e, h1, h2, h3⟩ := h
      exact ⟨a, vs, e, h1, h3⟩
  | dic o ks ds => cases o with
    | true => exact absurd hd (by simp [D.own])
    | false =>
      simp only [Rep] at h
      obtain ⟨a, kv, vs, e, h1, h2, h3, h4⟩ := h
      exact ⟨a, kv, vs, e, h1, h3, h4⟩
  | ins o c ks ds => cases o with
    | true => exact absurd hd (by simp [D.own])
    | false =>
      simp only [Rep] at h
      obtain ⟨a, dx, fvs, e, h1, h2, h3, h4⟩ := h
      exact ⟨a, dx, fvs, e, h1, h3, h4⟩
  | _ => exact h
theorem Vw.flat {G : GK} {H : Hp} {B : Ad} {d : D} {v : V} {O : Ad} (hp : d.plain = true) (h : Rep G H B d v O) : Vw G H B d.flat v := by
  cases d with
  | lst o ds => cases o with
    | true =>
      simp only [Rep] at h
      obtain ⟨a, vs, O1, e, h1, h2, h3, h4⟩ := h
      exact ⟨a, vs, e, h1, h4.noown hp⟩
    | false => exact Vw.of rfl h
  | dic o ks ds => cases o with
    | true =>
      simp only [Rep] at h
      obtain ⟨a, kv, vs, e, h1, h2, h3, h4⟩ := h
      exact ⟨a, kv, vs, e, h1, h3, h4⟩
    | false => exact Vw.of rfl h
  | ins o c ks ds => cases o with
    | true =>
      simp only [Rep] at h
      obtain ⟨a, dx, fvs, O1, e, h1, h2, h3, h4, h5⟩ := h
      exact ⟨a, dx, fvs, e, h1, h3, h5.noown hp⟩
    | false => exact Vw.of rfl h
  | non => exact Vw.of rfl h
  | bl _ => exact Vw.of rfl h
  | int _ => exact Vw.of rfl h
  | str _ => exact Vw.of rfl h
  | tup _ => exact Vw.of rfl h
  | scr _ => exact Vw.of rfl h
  | exn _ _ => exact Vw.of rfl h
theorem own_frz (d : D) : d.frz.own = false := by
  cases d with
  | lst o ds => cases o <;> rfl
  | dic o ks ds => cases o <;> rfl
  | ins o c ks ds => cases o <;> rfl
  | _ => rfl
theorem Vw.mono {G : GK} {H : Hp} {B B' : Ad} (m : ∀ a, B' a → B a) {d : D} {v : V} (h : Vw G H B d v) : Vw G H B' d v := by
  have r1 : ∀ {ds vs}, Reps G H B ds vs no → Reps G H B' ds vs no := fun {ds vs} h => Reps.kept (S := no) (Kept.refl H) (fun _ z => z.elim) (fun a z => .inl (m a z)) (fun _ z => z.elim) ds vs no (fun _ _ z => z) h
  have r2 : ∀ {d v}, Rep G H B d v no → Rep G H B' d v no := fun {ds vs} h => Rep.kept (S := no) (Kept.refl H) (fun _ z => z.elim) (fun a z => .inl (m a z)) (fun _ z => z.elim) ds vs no (fun _ _ z => z) h
  cases d with
  | lst o ds => obtain ⟨a, vs, e, h1, h2⟩ := h; exact ⟨a, vs, e, h1, r1 h2⟩
  | dic o ks ds => obtain ⟨a, kv, vs, e, h1, h2, h3⟩ := h; exact ⟨a, kv, vs, e, h1, r1 h2, r1 h3⟩
  | ins o c fs ds => obtain ⟨a, dx, fvs, e, h1, h2, h3⟩ := h; exact ⟨a, dx, fvs, e, h1, h2, r1 h3⟩
  | non => exact r2 h
  | bl _ => exact r2 h
  | int _ => exact r2 h
  | str _ => exact r2 h
  | tup _ => exact r2 h
  | scr _ => exact r2 h
  | exn _ _ => exact r2 h
section
variable {G : GK} {C : Fc} {σ : St} {tm : Tm} {env : Env} {H H' : Hp} {O : Ad}
theorem FRo.hidO (F : FRo G C σ tm env H O) : ∀ a, O a → ¬ C.hid a := fun a z q => F.nw a z (C.hn a q)
theorem FRo.tracked (F : FRo G C σ tm env H O) {a : Addr} (h : H a = none) : ¬ C.nw a := fun q => by
  cases e : C.H0 a with
  | none => exact C.nt a q e
  | some x => rw [F.kept a x e q] at h; cases h
theorem AtV.kept {S : Ad} (k : Kept S H H') : ∀ {p : List Stp} {v₀ v : V}, (∀ a, ¬ S a) → AtV H p v₀ v → AtV H' p v₀ v
  | [], _, _, _, h => h
  | .ix n :: p, _, _, hS, ⟨a, vs, v₁, e1, e2, e3, h⟩ => ⟨a, vs, v₁, e1, k a _ e2 (hS a), e3, AtV.kept k hS h⟩
  | .fl f :: p, _, _, hS, ⟨a, C, dx, fvs, v₁, e1, e2, e3, h⟩ => ⟨a, C, dx, fvs, v₁, e1, k a _ e2 (hS a), e3, AtV.kept k hS h⟩
/-- the heap has grown -/
theorem FRo.same (F : FRo G C σ tm env H O) (s : Same H H') : FRo G C σ tm env H' O where
  len := F.len
  rep := RepL.kept (S := no) (Kept.of s) (fun _ z => z.elim) (fun a z => .inl z) (fun _ z => z.elim) (fun _ _ z => z) F.rep
  nw := F.nw
  mu := fun a z => by
    have := F.mu a z
    cases e : H a with
    | none => rw [e] at this; exact this.elim
    | some x => rw [s a x e, ← e]; exact this
  refs := fun v i p m => let ⟨v₀, e, h⟩ := F.refs v i p m; ⟨v₀, e, AtV.kept (S := no) (Kept.of s) (fun _ z => z) h⟩
  kept := fun a x e z => s a x (F.kept a x e z)
  lent := F.lent
/-- a new thing in between -/
theorem FRo.push (F : FRo G C σ tm env H O) (s : Same H H') {d : D} {v : V} {O1 : Ad} (r : Rep G H' (fun a => (O a ∨ O1 a) ∨ C.hid a) d v O1) (hn : ∀ a, O1 a → H a = none) (hm : ∀ a, O1 a → Mut (H' a)) : FRo G C σ (tm ++ [(v, .val d)]) env H' (fun a => O a ∨ O1 a) where
  len := F.len
  rep := by
    unfold ents
    rw [List.map_append, ← List.append_assoc]
    refine RepL.append (O := O) (O' := O1) ?_ ⟨O1, no, fun _ z => z, fun _ z => z.elim, fun _ _ z => z, r, trivial⟩ (fun _ z => .inl z) (fun _ z => .inr z) fun a z q => ?_
    · refine RepL.kept (S := no) (Kept.of s) (fun _ z => z.elim) (fun a z => ?_) (fun _ z => z.elim) (fun _ _ z => z) F.rep
      rcases z with (z | z) | z
      · exact .inl (.inl z)
      · exact .inr (hn a z)
      · exact .inl (.inr z)
    · have := F.mu a z
      rw [hn a q] at this
      exact this
  nw := fun a z => z.elim (F.nw a) fun z => F.tracked (hn a z)
  mu := fun a z => z.elim ((F.same s).mu a) (hm a)
  refs := fun w i p m => by
    rcases List.mem_append.mp m with m | m
    · exact (F.same s).refs w i p m
    · simp at m
  kept := (F.same s).kept
  lent := F.lent
/-- .. that owns nothing -/
theorem FRo.push0 (F : FRo G C σ tm env H O) (s : Same H H') {d : D} {v : V} {O1 : Ad} (hd : d.own = false) (r : Rep G H' (fun a => O a ∨ C.hid a) d v O1) : FRo G C σ (tm ++ [(v, .val d)]) env H' O := by
  have h := F.push s (O1 := no) (d := d) (v := v) ((Rep.kept (S := no) (Kept.refl H') (fun _ z => z.elim) (fun a z => .inl (z.elim (fun z => z.elim .inl fun z => z.elim) .inr)) (fun _ z => z.elim) d v O1 (fun _ _ z => z) r).noown hd) (fun _ z => z.elim) (fun _ z => z.elim)
  have e : (fun a => O a ∨ no a) = O := by
    funext a
    exact propext ⟨fun z => z.elim id fun z => z.elim, .inl⟩
  rw [e] at h
  exact h
theorem FRo.pushRef (F : FRo G C σ tm env H O) {i : Nat} {p : List Stp} {v : V} (h : PlaceV H σ i p v) : FRo G C σ (tm ++ [(v, .ref i p)]) env H O where
  len := F.len
  rep := by
    unfold ents
    rw [List.map_append, ← List.append_assoc]
    exact RepL.append (O := O) (O' := no) F.rep ⟨no, no, fun _ z => z, fun _ z => z, fun _ _ z => z, trivial, trivial⟩ (fun _ z => z) (fun _ z => z.elim) fun _ _ z => z
  nw := F.nw
  mu := F.mu
  refs := fun w j q m => by
    rcases List.mem_append.mp m with m | m
    · exact F.refs w j q m
    · simp at m
      obtain ⟨rfl, rfl, rfl⟩ := m
      exact h
  kept := F.kept
  lent := F.lent
theorem FRo.pop (F : FRo G C σ (tm ++ tm') env H O) : FRo G C σ tm env H O where
  len := F.len
  rep := by
    have h := F.rep
    unfold ents at h ⊢
    rw [List.map_append, ← List.append_assoc] at h
    obtain ⟨P, P', h1, h2, h3, h4, h5⟩ := RepL.split h
    exact RepL.mono h3 h1
  nw := F.nw
  mu := F.mu
  refs := fun w j q m => F.refs w j q (List.mem_append_left _ m)
  kept := F.kept
  lent := F.lent
theorem FR.pop {tm' : Tm} (F : FR G C σ (tm ++ tm') env H) : FR G C σ tm env H := let ⟨O, F⟩ := F; ⟨O, F.pop⟩
/-- what stands in a slot -/
theorem FRo.slot (F : FRo G C σ tm env H O) {i : Nat} {d : D} (h : env[i]?.getD none = some d) : ∃ v O1, σ[i]? = some (some v) ∧ (∀ a, O1 a → O a) ∧ Rep G H (fun a => O a ∨ C.hid a) d v O1 := by
  have hi : env[i]? = some (some d) := by
    cases e : env[i]? with
    | none => rw [e] at h; cases h
    | some x => rw [e] at h; exact congrArg some h
  have lt : i < env.length := (List.getElem?_eq_some_iff.mp hi).1
  obtain ⟨sv, hs⟩ : ∃ sv, σ[i]? = some sv := ⟨σ[i]'(by rw [F.len]; exact lt), List.getElem?_eq_getElem (by rw [F.len]; exact lt)⟩
  have he : (ents σ tm env)[i]? = some (some d, sv) := by
    unfold ents
    rw [List.getElem?_append_left (by rw [List.length_zip, F.len]; omega)]
    rw [(List.getElem?_zip_eq_some (z := (some d, sv))).mpr ⟨hi, hs⟩]
  obtain ⟨w, O1, R, e, h1, h2, h3, h4, _⟩ := RepL.focus F.rep he
  exact ⟨w, O1, by rw [hs, e], h1, h4⟩
/-- a slot of which nothing is owned, its datum in between too -/
theorem FRo.var0 (F : FRo G C σ tm env H O) {i : Nat} {d : D} (h : env[i]?.getD none = some d) (hd : d.own = false) : ∃ v, σ[i]? = some (some v) ∧ FRo G C σ (tm ++ [(v, .val d)]) env H O := by
  obtain ⟨v, O1, e, _, r⟩ := F.slot h
  exact ⟨v, e, F.push0 (fun _ _ z => z) hd r⟩
theorem FRo.varO (F : FRo G C σ tm env H O) {i : Nat} {d : D} (h : env[i]?.getD none = some d) : ∃ v, σ[i]? = some (some v) ∧ FRo G C σ (tm ++ [(v, .ref i [])]) env H O := by
  obtain ⟨v, O1, e, _, r⟩ := F.slot h
  exact ⟨v, e, F.pushRef ⟨v, e, rfl⟩⟩
theorem ents_get {σ : St} {tm : Tm} {env : Env} (hl : σ.length = env.length) {i : Nat} {d : D} (h : env[i]?.getD none = some d) : ∃ sv, σ[i]? = some sv ∧ (ents σ tm env)[i]? = some (some d, sv) ∧ i < env.length := by
  have hi : env[i]? = some (some d) := by
    cases e : env[i]? with
    | none => rw [e] at h; cases h
    | some x => rw [e] at h; exact congrArg some h
  have lt : i < env.length := (List.getElem?_eq_some_iff.mp hi).1
  obtain ⟨sv, hs⟩ : ∃ sv, σ[i]? = some sv := ⟨σ[i]'(by rw [hl]; exact lt), List.getElem?_eq_getElem (by rw [hl]; exact lt)⟩
  refine ⟨sv, hs, ?_, lt⟩
  unfold ents
  rw [List.getElem?_append_left (by rw [List.length_zip, hl]; omega)]
  rw [(List.getElem?_zip_eq_some (z := (some d, sv))).mpr ⟨hi, hs⟩]
theorem zip_set {α β : Type} : ∀ {l : List α} {m : List β} {i : Nat} {x : α} {y : β}, m[i]? = some y → (l.set i x).zip m = (l.zip m).set i (x, y)
  | [], m, i, x, y, h => by simp
  | a :: l, [], i, x, y, h => by simp at h
  | a :: l, b :: m, 0, x, y, h => by simp at h; subst h; simp
  | a :: l, b :: m, i + 1, x, y, h => by
    rw [List.set_cons_succ, List.zip_cons_cons, List.zip_cons_cons, List.set_cons_succ, zip_set (by simpa using h)]
theorem ents_set {σ : St} {tm : Tm} {env : Env} {i : Nat} {o : Option D} {sv : Option V} (hs : σ[i]? = some sv) (lt : i < (env.zip σ).length) : ents σ tm (env.set i o) = (ents σ tm env).set i (o, sv) := by
  unfold ents
  rw [zip_set hs, List.set_append_left _ _ lt]
theorem FRo.alter (F : FRo G C σ tm env H O) {i : Nat} {p : List Stp} {n : D} (h : env.at i p = some n) : ∃ (w : V) (O1 R : Ad), PlaceV H σ i p w ∧ (∀ w', PlaceV H σ i p w' → w' = w) ∧ (∀ a, O1 a → O a) ∧ (∀ a, R a → O a) ∧ (∀ a, O1 a → ¬ R a) ∧ Rep G H (fun a => O a ∨ C.hid a) n w O1 ∧
    ∀ (H' : Hp) (S : Ad) (n' : D) (O1' : Ad), Kept S H H' → (∀ a, S a → O1 a) → Rep G H' (fun a => (R a ∨ O1' a) ∨ C.hid a) n' w O1' → (∀ a, O1' a → ¬ R a) → (∀ a, O1' a → O1 a ∨ H a = none) → (∀ a, O1' a → Mut (H' a)) →
      (∀ v j q, (v, T.ref j q) ∈ tm → PlaceV H' σ j q v) → FRo G C σ tm (env.put i p n') H' (fun a => R a ∨ O1' a) := by
  unfold Env.at at h
  obtain ⟨d, e1, e2⟩ := Option.bind_eq_some_iff.mp h
  obtain ⟨sv, hs, he, lt⟩ := ents_get (tm := tm) F.len e1
  obtain ⟨v₀, P1, R1, ev, g1, g2, g3, g4, g5⟩ := RepL.focus F.rep he
  subst ev
  obtain ⟨w, O1, R2, k1, k2, k3, k4, k5, k6, k7⟩ := Rep.zoom p d v₀ P1 n g4 e2
  refine ⟨w, O1, fun a => R1 a ∨ R2 a, ⟨v₀, hs, k1⟩, ?_, fun a z => g1 a (k3 a z), fun a z => z.elim (g2 a) fun z => g1 a (k4 a z), fun a z q => q.elim (g3 a (k3 a z)) (k5 a z), k6, ?_⟩
  · rintro w' ⟨v', e, q⟩
    rw [hs] at e; cases e
    exact k2 w' q
  intro H' S n' O1' kk hS r dj hn hm hr
  have sMut : ∀ a, S a → Mut (H a) := fun a z => F.mu a (g1 a (k3 a (hS a z)))
  have hA : ∀ a, ((R1 a ∨ R2 a) ∨ O1' a) ∨ C.hid a → (O a ∨ C.hid a) ∨ H a = none := by
    rintro a ((z | z) | z)
    · exact .inl (.inl (z.elim (g2 a) fun z => g1 a (k4 a z)))
    · exact (hn a z).elim (fun z => .inl (.inl (g1 a (k3 a z)))) .inr
    · exact .inl (.inr z)
  have hSA : ∀ a, S a → O a ∨ C.hid a := fun a z => .inl (g1 a (k3 a (hS a z)))
  have r1 := k7 H' _ S n' O1' kk sMut hA hSA (fun a z q => k5 a (hS a q) z) r fun a z q => dj a z (.inr q)
  have r2 := g5 H' _ S (some (setP p n' d), some v₀) _ kk sMut hA hSA (fun a z q => g3 a (k3 a (hS a q)) z) r1 fun a z q => z.elim (fun z => g3 a (k4 a z) q) fun z => dj a z (.inl q)
  have ep : env.put i p n' = env.set i (some (setP p n' d)) := by unfold Env.put; rw [e1]; rfl
  have live : ∀ a, O a → ¬ S a → Mut (H' a) := fun a z q => by
    have m := F.mu a z
    cases e : H a with
    | none => rw [e] at m; exact m.elim
    | some x => rw [kk a x e q, ← e]; exact m
  refine ⟨by rw [ep, List.length_set]; exact F.len, ?_, ?_, ?_, hr, ?_, F.lent⟩
  · rw [ep, ents_set hs (by rw [List.length_zip, F.len]; omega)]
    exact RepL.mono (fun a z => z.elim (fun z => .inl (.inl z)) fun z => z.elim (fun z => .inl (.inr z)) .inr) r2
  · rintro a (z | z)
    · exact F.nw a (z.elim (g2 a) fun z => g1 a (k4 a z))
    · exact (hn a z).elim (fun z => F.nw a (g1 a (k3 a z))) F.tracked
  · rintro a (z | z)
    · exact live a (z.elim (g2 a) fun z => g1 a (k4 a z)) fun q => z.elim (g3 a (k3 a (hS a q))) (k5 a (hS a q))
    · exact hm a z
  · intro a x e z
    exact kk a x (F.kept a x e z) fun q => F.nw a (g1 a (k3 a (hS a q))) z
/-- the slot is let go -/
theorem FRo.frz (F : FRo G C σ tm env H O) {i : Nat} {d : D} (h : env.at i [] = some d) : ∃ v O', σ[i]? = some (some v) ∧ (∀ a, O' a → O a) ∧ FRo G C σ tm (env.set i (some d.frz)) H O' ∧ Rep G H (fun a => O' a ∨ C.hid a) d.frz v no := by
  obtain ⟨w, O1, R, ⟨v₀, e, q⟩, _, h1, h2, h3, r, k⟩ := F.alter h
  obtain rfl : w = v₀ := q
  have r' : Rep G H (fun a => (R a ∨ no a) ∨ C.hid a) d.frz w no := Rep.frz (fun a z => .inl (z.elim (fun z => .inl (z.elim (h2 a) fun z => z.elim)) .inr)) d w O1 (fun a z q => q.elim (fun q => q.elim (h3 a z) fun q => q) fun q => F.hidO a (h1 a z) q) r no
  have ep : env.put i [] d.frz = env.set i (some d.frz) := by
    unfold Env.put Env.at at *
    obtain ⟨d', e1, e2⟩ := Option.bind_eq_some_iff.mp h
    rw [e1]
    rfl
  have z := k H no d.frz no (Kept.refl H) (fun _ z => z.elim) r' (fun _ z => z.elim) (fun _ z => z.elim) (fun _ z => z.elim) F.refs
  rw [ep] at z
  exact ⟨w, _, e, fun a z => z.elim (h2 a) fun z => z.elim, z, r'⟩
/-- something in between is used up -/
theorem FRo.take {tm₁ tm₂ : Tm} {v : V} {t : T} (F : FRo G C σ (tm₁ ++ (v, t) :: tm₂) env H O) : ∃ O1 O' : Ad, (∀ a, O1 a → O a) ∧ (∀ a, O' a → O a) ∧ (∀ a, O1 a → ¬ O' a) ∧ RepO G H (fun a => O a ∨ C.hid a) (te (v, t)).1 (te (v, t)).2 O1 ∧ FRo G C σ (tm₁ ++ tm₂) env H O' := by
  have h := F.rep
  unfold ents at h
  rw [List.map_append, List.map_cons, ← List.append_assoc] at h
  obtain ⟨P, Q, h1, ⟨O1, O2, g1, g2, g3, g4, g5⟩, h3, h4, h5⟩ := RepL.split h
  refine ⟨O1, fun a => P a ∨ O2 a, fun a z => h4 a (g1 a z), fun a z => z.elim (h3 a) fun z => h4 a (g2 a z), fun a z q => q.elim (fun q => h5 a q (g1 a z)) (g3 a z), g4, ?_⟩
  refine ⟨F.len, ?_, fun a z => F.nw a (z.elim (h3 a) fun z => h4 a (g2 a z)), fun a z => F.mu a (z.elim (h3 a) fun z => h4 a (g2 a z)), fun w j q m => F.refs w j q ?_, F.kept, F.lent⟩
  · unfold ents
    rw [List.map_append, ← List.append_assoc]
    have r := RepL.append h1 g5 (P := fun a => P a ∨ O2 a) (fun a z => .inl z) (fun a z => .inr z) fun a z q => h5 a z (g2 a q)
    exact RepL.kept (S := no) (Kept.refl H) (fun _ z => z.elim) (fun a z => .inl (z.elim (fun z => .inl (z.elim (h3 a) fun z => h4 a (g2 a z))) .inr)) (fun _ z => z.elim) (fun _ _ z => z) r
  · rcases List.mem_append.mp m with m | m
    · exact List.mem_append_left _ m
    · exact List.mem_append_right _ (List.mem_cons_of_mem _ m)
theorem FRo.ref_at (F : FRo G C σ tm env H O) {v : V} {i : Nat} {p : List Stp} (m : (v, T.ref i p) ∈ tm) : PlaceV H σ i p v := F.refs v i p m
/-- rs: looked at, and used up -/
theorem FRo.rs {tm₁ tm₂ : Tm} {v : V} {t : T} {d : D} {e' : Env} (F : FRo G C σ (tm₁ ++ (v, t) :: tm₂) env H O) (h : LT.rs t env = .ok d e') : ∃ O', (∀ a, O' a → O a) ∧ FRo G C σ (tm₁ ++ tm₂) e' H O' ∧ Vw G H (fun a => O' a ∨ C.hid a) d v := by
  cases t with
  | val d₀ =>
    simp only [rs_val, R.ok.injEq] at h
    obtain ⟨rfl, rfl⟩ := h
    obtain ⟨O1, O', h1, h2, h3, r, F'⟩ := F.take
    refine ⟨O', h2, F', Vw.of (own_frz _) (O := no) ?_⟩
    exact Rep.frz (fun a z => .inl (z.elim (fun z => .inl (h2 a z)) .inr)) d₀ v O1 (fun a z q => q.elim (h3 a z) (F.hidO a (h1 a z))) r no
  | ref i p =>
    obtain ⟨_, O', _, h2, _, _, F'⟩ := F.take
    have pv : PlaceV H σ i p v := F.refs v i p (List.mem_append_right _ List.mem_cons_self)
    unfold LT.rs at h
    dsimp only at h
    cases e : env.at i p with
    | none => rw [e] at h; cases h
    | some n =>
      rw [e] at h
      by_cases hp : n.plain = true
      · simp only [if_pos hp, R.ok.injEq] at h
        obtain ⟨rfl, rfl⟩ := h
        obtain ⟨w, O1, R, _, u, _, _, _, r, _⟩ := F'.alter e
        obtain rfl := u v pv
        exact ⟨O', h2, F', Vw.flat hp r⟩
      · simp only [if_neg hp] at h
        by_cases hq : p.isEmpty = true
        · rw [if_pos hq] at h
          simp only [R.ok.injEq] at h
          obtain ⟨rfl, rfl⟩ := h
          obtain rfl : p = [] := List.isEmpty_iff.mp hq
          obtain ⟨w, O2, e1, k1, F2, r⟩ := F'.frz e
          obtain ⟨v₀, e2, q⟩ := pv
          rw [e1] at e2; cases e2
          obtain rfl : v = w := q
          exact ⟨O2, fun a z => h2 a (k1 a z), F2, Vw.of (own_frz _) r⟩
        · rw [if_neg hq] at h; cases h
/-- esc: to be kept -/
theorem FRo.esc {tm₁ tm₂ : Tm} {v : V} {t : T} {d : D} {e' : Env} (F : FRo G C σ (tm₁ ++ (v, t) :: tm₂) env H O) (h : LT.esc t env = .ok d e') : ∃ O', (∀ a, O' a → O a) ∧ FRo G C σ (tm₁ ++ (v, .val d) :: tm₂) e' H O' := by
  cases t with
  | val d₀ =>
    simp only [esc_val, R.ok.injEq] at h
    obtain ⟨rfl, rfl⟩ := h
    exact ⟨O, fun _ z => z, F⟩
  | ref i p =>
    have pv : PlaceV H σ i p v := F.refs v i p (List.mem_append_right _ List.mem_cons_self)
    unfold LT.esc at h
    dsimp only at h
    cases e : env.at i p with
    | none => rw [e] at h; cases h
    | some n =>
      rw [e] at h
      by_cases hq : p.isEmpty = true
      · simp only [if_pos hq, R.ok.injEq] at h
        obtain ⟨rfl, rfl⟩ := h
        obtain rfl : p = [] := List.isEmpty_iff.mp hq
        obtain ⟨w, O2, e1, k1, F2, r⟩ := F.frz e
        obtain ⟨v₀, e2, q⟩ := pv
        rw [e1] at e2; cases e2
        obtain rfl : v = w := q
        refine ⟨O2, k1, F2.len, ?_, F2.nw, F2.mu, fun w j q m => F2.refs w j q ?_, F2.kept, F2.lent⟩
        · have h := F2.rep
          unfold ents at h ⊢
          rw [List.map_append, List.map_cons, ← List.append_assoc] at h ⊢
          obtain ⟨P, Q, g1, ⟨P1, P2, f1, f2, f3, f4, f5⟩, g3, g4, g5⟩ := RepL.split h
          exact RepL.append g1 (O' := Q) ⟨no, P2, fun _ z => z.elim, f2, fun _ z => z.elim, r, f5⟩ g3 g4 g5
        · rcases List.mem_append.mp m with m | m
          · exact List.mem_append_left _ m
          · rcases List.mem_cons.mp m with m | m
            · cases m
            · exact List.mem_append_right _ (List.mem_cons_of_mem _ m)
      · simp only [if_neg hq] at h; cases h
end
end LT
/-! LtF: what is wanted of an expression, as a reading. -/
namespace LT
open PySem L2
theorem rs_noexc {t : T} {e e' : Env} {x : D} (h : rs t e = .exc x e') : False := by
  cases t with
  | val d => cases h
  | ref i p =>
    unfold rs at h
    dsimp only at h
    split at h
    · cases h
    · split at h
      · cases h
      · split at h <;> cases h
def Roots (tm : Tm) : Prop := ∀ v i p, (v, T.ref i p) ∈ tm → p = []
theorem Roots.val {tm : Tm} (h : Roots tm) {v : V} {t : T} (ht : t.root = true) : Roots (tm ++ [(v, t)]) := fun w i p m => by
  rcases List.mem_append.mp m with m | m
  · exact h w i p m
  · simp at m
    obtain ⟨rfl, rfl⟩ := m
    exact List.isEmpty_iff.mp ht
section
variable (G : GK) (C : Fc) (W : WX)
/-- an end of an expression, by what stands in between -/
def Done (smp : Bool) (σ : St) (tm : Tm) (H : Hp) (Q : VK) : R T → Prop
  | .ok t env => ∀ v H', FR G C σ (tm ++ [(v, t)]) env H' → (smp = true → Same H H') → Q v H'
  | .exc x env => ∀ cls dx H', G.XR x cls dx H' → FR G C σ tm env H' → W cls dx σ H'
  | .err => False
def tE (smp : Bool) (ev : Env → R T) : TE := fun σ H Q => ∃ tm env, FR G C σ tm env H ∧ (smp = false → Roots tm) ∧ Done G C W smp σ tm H Q (ev env)
/-- .. of arguments -/
def DoneL (smp : Bool) (σ : St) (tm : Tm) (H : Hp) (Q : List V → Hp → Prop) : R (List T) → Prop
  | .ok ts env => ∀ vs H', vs.length = ts.length → FR G C σ (tm ++ vs.zip ts) env H' → (smp = true → Same H H') → Q vs H'
  | .exc x env => ∀ cls dx H', G.XR x cls dx H' → FR G C σ tm env H' → W cls dx σ H'
  | .err => False
def tEs (smp : Bool) (ev : Env → R (List T)) : TA := fun σ H Q => ∃ tm env, FR G C σ tm env H ∧ (smp = false → Roots tm) ∧ DoneL G C W smp σ tm H Q (ev env)
/-- a new datum -/
def Fresh (H H' : Hp) (B : Ad) (z : D) (v : V) : Prop := Same H H' ∧ ∃ O1, Rep G H' (fun a => B a ∨ O1 a) z v O1 ∧ (∀ a, O1 a → H a = none) ∧ (∀ a, O1 a → Mut (H' a))
def r2 (g : D → D → Option D) : R2 := fun x y H Q => ∃ B dx dy z, (∀ a, H a = none → ¬ B a) ∧ Vw G H B dx x ∧ Vw G H B dy y ∧ g dx dy = some z ∧ ∀ v H', Fresh G H H' B z v → Q v H'
end
section
variable {G : GK} {C : Fc} {W : WX} {X : Cx} {σ : St} {tm : Tm} {env : Env} {H H' : Hp} {O : Ad}
theorem PE.mono {e : Expr} {t t' : TE} (h : PE X e t) (m : ∀ σ H Q, t' σ H Q → t σ H Q) : PE X e t' := ⟨fun pins s σ H Q I hw => h.run pins s σ H Q I (m σ H Q hw)⟩
theorem PT.mono {e : Expr} {t t' : TT} (h : PT X e t) (m : ∀ σ H Q, t' σ H Q → t σ H Q) : PT X e t' := ⟨fun pins s σ H Q I hw => h.run pins s σ H Q I (m σ H Q hw)⟩
theorem PA.mono {e : List Expr} {t t' : TA} (h : PA X e t) (m : ∀ σ H Q, t' σ H Q → t σ H Q) : PA X e t' := ⟨fun pos pins s σ H Q I hw => h.run pos pins s σ H Q I (m σ H Q hw)⟩
theorem PS.mono {e : Stmt} {t t' : TS} (h : PS X e t) (m : ∀ D σ H, t' D σ H → t D σ H) : PS X e t' := ⟨fun pins s σ H D I hw => h.run pins s σ H D I (m D σ H hw)⟩
theorem PSs.mono {e : List Stmt} {t t' : TS} (h : PSs X e t) (m : ∀ D σ H, t' D σ H → t D σ H) : PSs X e t' := ⟨fun pins s σ H D I hw => h.run pins s σ H D I (m D σ H hw)⟩
/-- what is owned or hidden is there -/
theorem FRo.bad (F : FRo G C σ tm env H O) : ∀ a, H a = none → ¬ (O a ∨ C.hid a) := fun a e z => z.elim (fun z => by have := F.mu a z; rw [e] at this; exact this) fun z => F.tracked e (C.hn a z)
theorem FRo.fresh (F : FRo G C σ tm env H O) {z : D} {v : V} (h : Fresh G H H' (fun a => O a ∨ C.hid a) z v) : FR G C σ (tm ++ [(v, .val z)]) env H' := by
  obtain ⟨s, O1, r, h1, h2⟩ := h
  refine ⟨_, F.push s (O1 := O1) ?_ h1 h2⟩
  have e : (fun a => (O a ∨ O1 a) ∨ C.hid a) = (fun a => (O a ∨ C.hid a) ∨ O1 a) := by
    funext a
    exact propext ⟨fun z => z.elim (fun z => z.elim (fun z => .inl (.inl z)) .inr) fun z => .inl (.inr z), fun z => z.elim (fun z => z.elim (fun z => .inl (.inl z)) .inr) fun z => .inl (.inr z)⟩
  rw [e]
  exact r
theorem FRo.smaller {O' : Ad} {z : D} {v : V} {B : Ad} (m : ∀ a, O' a → O a) (h : Fresh G H H' (fun a => O a ∨ B a) z v) : Fresh G H H' (fun a => O' a ∨ B a) z v := by
  obtain ⟨s, O1, r, h1, h2⟩ := h
  refine ⟨s, O1, ?_, h1, h2⟩
  exact Rep.kept (S := no) (Kept.refl H') (fun _ z => z.elim) (fun a z => .inl (z.elim (fun z => .inl (z.elim (fun z => .inl (m a z)) .inr)) .inr)) (fun _ z => z.elim) z v O1 (fun _ _ z => z) r
theorem tE_op2 {g : D → D → Option D} {sa sb : Bool} {eva evb : Env → R T} (σ : St) (H : Hp) (Q : VK)
    (h : tE G C W (sa && sb) (fun e => (eva e).bind fun t e => if t.root || sb then (evb e).bind fun u e => (rs t e).bind fun x e => (rs u e).bind fun y e => (R.of (g x y) e).bind fun z e => .ok (.val z) e else .err) σ H Q) :
    tOp (r2 G g) (tE G C W sa eva) (tE G C W sb evb) σ H Q := by
  obtain ⟨tm, env, F, hr, h⟩ := h
  dsimp only at h
  refine ⟨tm, env, F, fun e => hr (by rw [e]; rfl), ?_⟩
  cases ea : eva env with
  | err => rw [ea] at h; exact h
  | exc x env1 => rw [ea] at h; exact h
  | ok t env1 =>
    rw [ea] at h
    simp only [R.bind_ok] at h
    intro x H1 F1 s1
    by_cases hc : (t.root || sb) = true
    · rw [if_pos hc] at h
      refine ⟨tm ++ [(x, t)], env1, F1, fun e => (hr (by rw [e]; simp)).val (by rw [e] at hc; simpa using hc), ?_⟩
      cases eb : evb env1 with
      | err => rw [eb] at h; exact h
      | exc x env2 =>
        rw [eb] at h
        intro cls dx H2 xr F2
        exact h cls dx H2 xr F2.pop
      | ok u env2 =>
        rw [eb] at h
        simp only [R.bind_ok] at h
        intro y H2 ⟨O2, F2⟩ s2
        cases e1 : rs t env2 with
        | err => rw [e1] at h; exact h.elim
        | exc x e' => exact (rs_noexc e1).elim
        | ok dx env3 =>
          rw [e1] at h
          simp only [R.bind_ok] at h
          rw [List.append_assoc] at F2
          obtain ⟨O3, m3, F3, v3⟩ := FRo.rs (tm₁ := tm) (tm₂ := [(y, u)]) F2 e1
          cases e2 : rs u env3 with
          | err => rw [e2] at h; exact h.elim
          | exc x e' => exact (rs_noexc e2).elim
          | ok dy env4 =>
            rw [e2] at h
            simp only [R.bind_ok] at h
            obtain ⟨O4, m4, F4, v4⟩ := FRo.rs (tm₁ := tm) (tm₂ := []) F3 e2
            rw [List.append_nil] at F4
            cases e3 : g dx dy with
            | none => rw [e3] at h; exact h.elim
            | some z =>
              rw [e3] at h
              simp only [R.of_some, R.bind_ok] at h
              refine ⟨fun a => O4 a ∨ C.hid a, dx, dy, z, F4.bad, v3.mono fun a q => q.elim (fun q => .inl (m4 a q)) .inr, v4, e3, fun v H3 fr => ?_⟩
              refine h v H3 (F4.fresh fr) fun sm => ?_
              have sm' := Bool.and_eq_true_iff.mp sm
              exact ((s1 sm'.1).trans (s2 sm'.2)).trans fr.1
    · rw [if_neg hc] at h
      exact h.elim
theorem se_con {d : D} {e : Expr} {v : V} (hd : ∀ H A, Rep G H A d v no) (hn : d.own = false) (h : PE X e (tC v)) : PE X e (tE G C W true (fun e => .ok (.val d) e)) := by
  refine PE.mono h fun σ H Q ⟨tm, env, ⟨O, F⟩, hr, k⟩ => ?_
  exact k v H ⟨O, F.push0 (fun _ _ z => z) hn (hd H _)⟩ fun _ => Same.refl H
theorem se_var {i : Nat} {e : Expr} (h : PE X e (tVar i)) : PE X e (tE G C W true (fun e => match e[i]?.getD none with
    | some d => .ok (if d.own then .ref i [] else .val d) e
    | none => .err)) := by
  refine PE.mono h fun σ H Q ⟨tm, env, ⟨O, F⟩, hr, k⟩ => ?_
  dsimp only at k
  cases e : env[i]?.getD none with
  | none => rw [e] at k; exact k.elim
  | some d =>
    rw [e] at k
    dsimp only at k
    by_cases hd : d.own = true
    · rw [if_pos hd] at k
      obtain ⟨v, e1, F'⟩ := F.varO e
      exact ⟨v, e1, k v H ⟨O, F'⟩ fun _ => Same.refl H⟩
    · rw [if_neg hd] at k
      obtain ⟨v, e1, F'⟩ := F.var0 e (by simpa using hd)
      exact ⟨v, e1, k v H ⟨O, F'⟩ fun _ => Same.refl H⟩
end
end LT
set_option exponentiation.threshold 1000000
/-! LtG: the operators keep their word. -/
namespace LT
open PySem L2
section
variable {G : GK} {H H' : Hp} {B : Ad}
theorem Fresh.bl (b : Bool) : Fresh G H H B (.bl b) (.bl b) := ⟨fun _ _ z => z, no, rfl, fun _ z => z.elim, fun _ z => z.elim⟩
theorem Fresh.int (b : Int) : Fresh G H H B (.int b) (.int b) := ⟨fun _ _ z => z, no, rfl, fun _ z => z.elim, fun _ z => z.elim⟩
theorem Fresh.str (b : Cs) : Fresh G H H B (.str b) (.str (sOf b)) := ⟨fun _ _ z => z, no, rfl, fun _ z => z.elim, fun _ z => z.elim⟩
theorem Fresh.non : Fresh G H H B .non .non := ⟨fun _ _ z => z, no, rfl, fun _ z => z.elim, fun _ z => z.elim⟩
theorem Reps.same {A A' : Ad} {ds : List D} {vs : List V} (s : Same H H') (m : ∀ a, A' a → A a ∨ H a = none) (h : Reps G H A ds vs no) : Reps G H' A' ds vs no :=
  Reps.kept (S := no) (Kept.of s) (fun _ z => z.elim) m (fun _ z => z.elim) ds vs no (fun _ _ z => z) h
theorem Same.upd {p : Addr} {o : HO} (h : H p = none) : Same H (upd H p o) := fun a x e => by rw [upd_ne (ne_of_none e h)]; exact e
theorem Fresh.tup {ds : List D} {vs : List V} {p : Addr} (h : Reps G H B ds vs no) (hp : H p = none) : Fresh G H (upd H p (.tup vs)) B (.tup ds) (.ref p) := by
  refine ⟨Same.upd hp, no, ?_, fun _ z => z.elim, fun _ z => z.elim⟩
  simp only [Rep]
  exact ⟨p, vs, rfl, .inl (.inl upd_same), Reps.same (Same.upd hp) (fun a z => .inl (z.elim id fun z => z.elim)) h⟩
theorem Fresh.lst {ds : List D} {vs : List V} {p : Addr} (h : Reps G H B ds vs no) (hp : H p = none) : Fresh G H (upd H p (.lst vs)) B (.lst true ds) (.ref p) := by
  refine ⟨Same.upd hp, fun a => a = p, ?_, fun a z => by rw [z]; exact hp, fun a z => by rw [z, upd_same]; trivial⟩
  simp only [Rep]
  exact ⟨p, vs, no, rfl, upd_same, rfl, fun _ z => z.elim, Reps.same (Same.upd hp) (fun a z => z.elim .inl fun z => by rw [z]; exact .inr hp) h⟩
theorem Fresh.old {d : D} {v : V} (hd : d.own = false) (h : Rep G H B d v no) : Fresh G H H B d v := ⟨fun _ _ z => z, no, Rep.kept (S := no) (Kept.refl H) (fun _ z => z.elim) (fun a z => .inl (z.elim id fun z => z.elim)) (fun _ z => z.elim) d v no (fun _ _ z => z) h, fun _ z => z.elim, fun _ z => z.elim⟩
theorem Vw.tup {ds : List D} {v : V} (h : Vw G H B (.tup ds) v) : ∃ a vs, v = .ref a ∧ SqT G.K H a vs ∧ Reps G H B ds vs no := by simpa [Vw, Rep] using h
theorem Vw.lst {o : Bool} {ds : List D} {v : V} (h : Vw G H B (.lst o ds) v) : ∃ a vs, v = .ref a ∧ H a = some (.lst vs) ∧ Reps G H B ds vs no := by simpa [Vw] using h
theorem Vw.int {i : Int} {v : V} (h : Vw G H B (.int i) v) : v = .int i := by simpa [Vw, Rep] using h
theorem Vw.bl {i : Bool} {v : V} (h : Vw G H B (.bl i) v) : v = .bl i := by simpa [Vw, Rep] using h
theorem Vw.str {i : Cs} {v : V} (h : Vw G H B (.str i) v) : v = .str (sOf i) := by simpa [Vw, Rep] using h
theorem Vw.non {v : V} (h : Vw G H B .non v) : v = .non := by simpa [Vw, Rep] using h
theorem sOf_len (s : Cs) : (sOf s).length = s.length := by simp [sOf, PySem.Str.length]
theorem sOf_app (a b : Cs) : sOf a ++ sOf b = sOf (a ++ b) := by
  show PySem.Str.mk _ = _
  simp [sOf]
theorem sizeL_eq : sizeL = sizeLine := by rw [sizeLine_eq]; rfl
end
section
variable {G : GK} {X : Cx}
theorem OpR.imp {f : Value → Value → Sem Value} {r r' : R2} (h : OpR X f r) (m : ∀ x y H Q, r' x y H Q → r x y H Q) : OpR X f r' := fun pins s σ H x y v u Q I rx ry q => h pins s σ H x y v u Q I rx ry (m x y H Q q)
def onI (g : Int → Int → Option D) : D → D → Option D
  | .int i, .int j => g i j
  | _, _ => none
theorem or_ints {f : Value → Value → Sem Value} {Cn : Int → Int → Prop} {g : Int → Int → Int} {gg : Int → Int → Option D} (h : OpR X f (rI Cn fun i j => .int (g i j))) (hg : ∀ i j z, gg i j = some z → Cn i j ∧ z = .int (g i j)) : OpR X f (r2 G (onI gg)) := by
  refine OpR.imp h ?_
  rintro x y H Q ⟨B, dx, dy, z, _, hx, hy, e, k⟩
  cases dx <;> cases dy <;> first | cases e | skip
  rename_i i j
  obtain ⟨c, rfl⟩ := hg i j z e
  exact ⟨i, j, hx.int, hy.int, c, k _ _ (Fresh.int _)⟩
theorem or_ints0 {f : Value → Value → Sem Value} {g : Int → Int → Int} (h : OpR X f (rI0 fun i j => .int (g i j))) : OpR X f (r2 G (onI fun i j => some (.int (g i j)))) := by
  refine OpR.imp h ?_
  rintro x y H Q ⟨B, dx, dy, z, _, hx, hy, e, k⟩
  cases dx <;> cases dy <;> first | cases e | skip
  rename_i i j
  exact ⟨i, j, hx.int, hy.int, k _ _ (Fresh.int _)⟩
theorem or_bools {f : Value → Value → Sem Value} {g : Int → Int → Bool} (h : OpR X f (rI0 fun i j => .bl (g i j))) : OpR X f (r2 G (onI fun i j => some (.bl (g i j)))) := by
  refine OpR.imp h ?_
  rintro x y H Q ⟨B, dx, dy, z, _, hx, hy, e, k⟩
  cases dx <;> cases dy <;> first | cases e | skip
  rename_i i j
  exact ⟨i, j, hx.int, hy.int, k _ _ (Fresh.bl _)⟩
/-- by cases on what comes -/
theorem or_cases {f : Value → Value → Sem Value} {g g1 g2 : D → D → Option D} (h1 : OpR X f (r2 G g1)) (h2 : OpR X f (r2 G g2)) (hg : ∀ a b z, g a b = some z → g1 a b = some z ∨ g2 a b = some z) : OpR X f (r2 G g) := by
  refine OpR.imp (OpR.or h1 h2) ?_
  rintro x y H Q ⟨B, dx, dy, z, hB, hx, hy, e, k⟩
  rcases hg dx dy z e with e | e
  · exact .inl ⟨B, dx, dy, z, hB, hx, hy, e, k⟩
  · exact .inr ⟨B, dx, dy, z, hB, hx, hy, e, k⟩
def addStr : D → D → Option D
  | .str a, .str b => if a.length + b.length ≤ sizeL then some (.str (a ++ b)) else none
  | _, _ => none
def addTup : D → D → Option D
  | .tup a, .tup b => if a.length + b.length ≤ sizeL then some (.tup (a ++ b)) else none
  | _, _ => none
def addLst : D → D → Option D
  | .lst _ a, .lst _ b => if a.length + b.length ≤ sizeL then some (.lst true (a ++ b)) else none
  | _, _ => none
theorem or_addStr : OpR X (binaryOp .Add) (r2 G addStr) := by
  refine OpR.imp op_add_str ?_
  rintro x y H Q ⟨B, dx, dy, z, _, hx, hy, e, k⟩
  cases dx <;> cases dy <;> first | cases e | skip
  rename_i a b
  simp only [addStr] at e
  split at e
  · rename_i hl
    cases e
    exact ⟨sOf a, sOf b, hx.str, hy.str, by rw [sOf_len, sOf_len, ← sizeL_eq]; exact hl, by rw [sOf_app]; exact k _ _ (Fresh.str _)⟩
  · cases e
theorem or_addTup (hK : X.K = G.K) : OpR X (binaryOp .Add) (r2 G addTup) := by
  refine OpR.imp op_catA ?_
  rintro x y H Q ⟨B, dx, dy, z, hB, hx, hy, e, k⟩
  cases dx <;> cases dy <;> first | cases e | skip
  rename_i a b
  simp only [addTup] at e
  split at e
  · rename_i hl
    cases e
    obtain ⟨p, vs, e1, h1, r1⟩ := hx.tup
    obtain ⟨q, ws, e2, h2, r2⟩ := hy.tup
    have l1 := r1.length
    have l2 := r2.length
    have r3 : Reps G H B (a ++ b) (vs ++ ws) no := Reps.append r1 r2 (fun _ z => z) (fun _ z => z) fun _ z _ => z
    refine ⟨p, q, vs, ws, e1, e2, by rw [hK]; exact h1, by rw [hK]; exact h2, by rw [← l1, ← l2, ← sizeL_eq]; exact hl, fun ev => ?_, fun _ ew => ?_, fun _ _ l hl' => ?_⟩
    · subst ev
      refine k _ _ (Fresh.old rfl ?_)
      simp only [Rep]
      exact ⟨q, ws, rfl, h2, by simpa using r3⟩
    · subst ew
      refine k _ _ (Fresh.old rfl ?_)
      simp only [Rep]
      exact ⟨p, vs, rfl, h1, by simpa using r3⟩
    · exact k _ _ (Fresh.tup r3 hl')
  · cases e
theorem or_addLst : OpR X (binaryOp .Add) (r2 G addLst) := by
  refine OpR.imp op_cat ?_
  rintro x y H Q ⟨B, dx, dy, z, hB, hx, hy, e, k⟩
  cases dx <;> cases dy <;> first | cases e | skip
  rename_i o a o' b
  simp only [addLst] at e
  split at e
  · rename_i hl
    cases e
    obtain ⟨p, vs, e1, h1, r1⟩ := hx.lst
    obtain ⟨q, ws, e2, h2, r2⟩ := hy.lst
    have l1 := r1.length
    have l2 := r2.length
    exact ⟨p, q, vs, ws, e1, e2, h1, h2, by rw [← l1, ← l2, ← sizeL_eq]; exact hl, fun l hl' => k _ _ (Fresh.lst (Reps.append r1 r2 (fun _ z => z) (fun _ z => z) fun _ z _ => z) hl')⟩
  · cases e
theorem or_add (hK : X.K = G.K) : OpR X (binaryOp .Add) (r2 G (binop .add)) := by
  refine or_cases (g1 := onI fun i j => some (.int (i + j))) (or_ints0 op_add) (g2 := fun a b => (addStr a b).or ((addTup a b).or (addLst a b))) ?_ ?_
  · refine or_cases or_addStr (g2 := fun a b => (addTup a b).or (addLst a b)) (or_cases (or_addTup hK) or_addLst ?_) ?_
    · intro a b z e
      cases h : addTup a b with
      | some y => rw [h] at e; exact .inl e
      | none => rw [h] at e; exact .inr e
    · intro a b z e
      cases h : addStr a b with
      | some y => rw [h] at e; exact .inl e
      | none => rw [h] at e; exact .inr e
  · intro a b z e
    cases a <;> cases b <;> simp_all [binop, onI, addStr, addTup, addLst]
theorem or_ints' {f : Value → Value → Sem Value} {Cn : Int → Int → Prop} {g : Int → Int → Int} (o : Op) (h : OpR X f (rI Cn fun i j => .int (g i j))) (hg : ∀ i j z, binop o (.int i) (.int j) = some z → Cn i j ∧ z = .int (g i j)) (hi : ∀ a b z, binop o a b = some z → ∃ i j, a = .int i ∧ b = .int j) : OpR X f (r2 G (binop o)) := by
  refine OpR.imp (or_ints (G := G) h hg) ?_
  rintro x y H Q ⟨B, dx, dy, z, hB, hx, hy, e, k⟩
  obtain ⟨i, j, rfl, rfl⟩ := hi dx dy z e
  exact ⟨B, _, _, z, hB, hx, hy, e, k⟩
theorem op_mulM : OpR X (binaryOp .Mult) (rI mulOk fun i j => .int (i * j)) := by
  refine OpR.imp (OpR.or op_mul op_mulW) ?_
  rintro x y H Q ⟨i, j, ex, ey, c, q⟩
  have e : big = 2 ^ 64 := by decide
  rcases c with c | c | c
  · exact .inl ⟨i, j, ex, ey, .inl (by rw [e] at c; exact c), q⟩
  · exact .inl ⟨i, j, ex, ey, .inr (by rw [e] at c; exact c), q⟩
  · exact .inr ⟨i, j, ex, ey, wide_mul c.1 c.2 (by decide) (by decide) (by decide), q⟩
noncomputable def mulInt (a b : D) : Option D := onI (fun i j => binop .mul (.int i) (.int j)) a b
def mulLst : D → D → Option D
  | .lst _ a, .int k => if -1000000000 ≤ k ∧ k ≤ 1000000000 ∧ a.length * k.toNat ≤ sizeL then some (.lst true (List.replicate k.toNat a).flatten) else none
  | _, _ => none
def mulStr : D → D → Option D
  | .str a, .int k => if -1000000000 ≤ k ∧ k ≤ 1000000000 ∧ a.length * k.toNat ≤ sizeL then some (.str (List.replicate k.toNat a).flatten) else none
  | _, _ => none
def mulTup : D → D → Option D
  | .tup a, .int k => if a ≠ [] ∧ 2 ≤ k ∧ k ≤ 1000 ∧ a.length ≤ 1000 then some (.tup (List.replicate k.toNat a).flatten) else none
  | _, _ => none
theorem reps_rep {G : GK} {H : Hp} {B : Ad} {a : List D} {vs : List V} (r : Reps G H B a vs no) : ∀ n : Nat, Reps G H B (List.replicate n a).flatten (List.replicate n vs).flatten no
  | 0 => by simp only [List.replicate_zero, List.flatten_nil, Reps]
  | n + 1 => by
    rw [List.replicate_succ, List.flatten_cons, List.replicate_succ, List.flatten_cons]
    exact Reps.append r (reps_rep r n) (fun _ z => z) (fun _ z => z) fun _ z _ => z
theorem or_mulLst : OpR X (binaryOp .Mult) (r2 G mulLst) := by
  refine OpR.imp op_rep ?_
  rintro x y H Q ⟨B, dx, dy, z, hB, hx, hy, e, k⟩
  cases dx <;> cases dy <;> first | cases e | skip
  rename_i o a m
  simp only [mulLst] at e
  split at e
  · rename_i hl
    cases e
    obtain ⟨p, vs, e1, h1, r1⟩ := hx.lst
    have l1 := r1.length
    exact ⟨p, m, vs, e1, hy.int, h1, by omega, by omega, by rw [← l1, ← sizeL_eq]; exact hl.2.2, fun l hl' => k _ _ (Fresh.lst (reps_rep r1 m.toNat) hl')⟩
  · cases e
theorem or_mulTup (hK : X.K = G.K) : OpR X (binaryOp .Mult) (r2 G mulTup) := by
  refine OpR.imp op_repT ?_
  rintro x y H Q ⟨B, dx, dy, z, hB, hx, hy, e, k⟩
  cases dx <;> cases dy <;> first | cases e | skip
  rename_i a m
  simp only [mulTup] at e
  split at e
  · rename_i hl
    cases e
    obtain ⟨p, vs, e1, h1, r1⟩ := hx.tup
    have l1 := r1.length
    refine ⟨p, m, vs, e1, hy.int, by rw [hK]; exact h1, fun ev => ?_, hl.2.1, hl.2.2.1, by rw [← l1]; exact hl.2.2.2, fun l hl' => k _ _ (Fresh.tup (reps_rep r1 m.toNat) hl')⟩
    subst ev
    exact hl.1 (List.eq_nil_of_length_eq_zero (by simpa using l1))
  · cases e
theorem foldl_repN (its : Cs) : ∀ (k : Nat) (acc : Cs), List.foldl (fun x1 x2 => x1 ++ x2) acc.toArray (List.replicate k its.toArray) = (acc ++ (List.replicate k its).flatten).toArray
  | 0, acc => by simp
  | k + 1, acc => by
    have e : acc.toArray ++ its.toArray = (acc ++ its).toArray := by simp
    have e2 : (acc ++ its) ++ (List.replicate k its).flatten = acc ++ (List.replicate (k + 1) its).flatten := by
      rw [List.replicate_succ, List.flatten_cons, List.append_assoc]
    rw [← e2, ← foldl_repN its k (acc ++ its), ← e, List.replicate_succ, List.foldl_cons]
theorem sOf_rep (a : Cs) (k : Int) : Txt.mul (sOf a) k = sOf (List.replicate k.toNat a).flatten := by
  unfold Txt.mul
  split
  · rename_i h
    rw [show k.toNat = 0 by omega]
    rfl
  · rename_i h
    split
    · rename_i h2
      rw [Bool.or_eq_true] at h2
      rcases h2 with h2 | h2
      · have : k = 1 := by simpa using h2
        subst this
        simp [sOf]
      · have : a = [] := List.eq_nil_of_length_eq_zero (by rw [← sOf_len]; simpa using h2)
        subst this
        simp [sOf]
    · show PySem.Str.mk _ = PySem.Str.mk _
      congr 1
      have := foldl_repN a k.toNat []
      simpa [sOf] using this
theorem or_mulStr : OpR X (binaryOp .Mult) (r2 G mulStr) := by
  rintro pins s σ H x y v u Q I rx ry ⟨B, dx, dy, z, hB, hx, hy, e, k⟩
  cases dx <;> cases dy <;> first | cases e | skip
  rename_i a m
  simp only [mulStr] at e
  split at e
  · rename_i hl
    cases e
    have ex := hx.str
    have ey := hy.int
    subst ex ey
    obtain ⟨t, rfl⟩ := rx
    obtain ⟨t', rfl⟩ := ry
    refine PySem.SB.mul ?_ fun t' tk => ?_
    · have hl1 : ¬ m < 1 → a.length ≤ 16777216 := fun h1 => by
        have h3 : a.length * 1 ≤ a.length * m.toNat := Nat.mul_le_mul (Nat.le_refl _) (by omega)
        have h4 := hl.2.2
        rw [show sizeL = 16777216 from rfl] at h4
        omega
      refine ⟨?_, fun h1 _ => ?_, fun h1 _ => ?_⟩
      · have c1 : ¬ m < -(2 ^ 63 : Int) := by omega
        have c2 : ¬ m ≥ 2 ^ 63 := by omega
        rw [decide_eq_false c1, decide_eq_false c2]
        rfl
      · rw [sOf_len]
        have h5 : (16777216 : Int) ≤ (2 ^ 63 - 1) / m := Int.le_ediv_of_mul_le (by omega) (by omega)
        have := hl1 h1
        omega
      · rw [sOf_len]
        unfold Builtin.Str.tooLong
        have h4 := hl.2.2
        rw [sizeL_eq] at h4
        simpa using h4
    · rw [sOf_rep]
      exact ⟨.str _, H, I.tok _, ⟨_, rfl⟩, k _ _ (Fresh.str _)⟩
  · cases e
theorem or_mul (hK : X.K = G.K) : OpR X (binaryOp .Mult) (r2 G (binop .mul)) := by
  refine or_cases (g1 := mulInt) (or_ints op_mulM fun i j z e => ?_) (g2 := fun a b => (mulStr a b).or ((mulTup a b).or (mulLst a b))) ?_ ?_
  · simp only [binop] at e
    split at e
    · rename_i c; exact ⟨c, (Option.some.inj e).symm⟩
    · cases e
  · refine or_cases or_mulStr (g2 := fun a b => (mulTup a b).or (mulLst a b)) (or_cases (or_mulTup hK) or_mulLst ?_) ?_
    · intro a b z e
      cases h : mulTup a b with
      | some y => rw [h] at e; exact .inl e
      | none => rw [h] at e; exact .inr e
    · intro a b z e
      cases h : mulStr a b with
      | some y => rw [h] at e; exact .inl e
      | none => rw [h] at e; exact .inr e
  · intro a b z e
    cases a <;> cases b <;> simp_all [binop, mulInt, onI, mulStr, mulTup, mulLst]
theorem toI {o : Op} {a b z : D} (h : binop o a b = some z) (ho : o ≠ .add) (hm : o ≠ .mul) : ∃ i j, a = .int i ∧ b = .int j := by
  cases o <;> first | exact absurd rfl ho | exact absurd rfl hm | skip
  all_goals (cases a <;> cases b <;> first | exact ⟨_, _, rfl, rfl⟩ | (simp [binop] at h))
def opOf : Operator → Option Op
  | .Add => some .add
  | .Sub => some .sub
  | .Mult => some .mul
  | .FloorDiv => some .fdiv
  | .Mod => some .mod
  | .Pow => some .pow
  | .LShift => some .shl
  | .RShift => some .shr
  | .BitAnd => some .band
  | .BitOr => some .bor
  | _ => none
theorem or_bin (hK : X.K = G.K) {op : Operator} {o : Op} (h : opOf op = some o) : OpR X (binaryOp op) (r2 G (binop o)) := by
  cases op <;> simp only [opOf, Option.some.injEq, reduceCtorEq] at h <;> subst h
  · exact or_add hK
  · exact or_ints' (Cn := fun _ _ => True) .sub (OpR.imp op_sub fun x y H Q ⟨i, j, a, b, _, q⟩ => ⟨i, j, a, b, q⟩) (fun i j z e => ⟨trivial, by simp only [binop, Option.some.injEq] at e; exact e.symm⟩) fun a b z e => toI e (fun z => by cases z) (fun z => by cases z)
  · exact or_mul hK
  · refine or_ints' .mod op_mod (fun i j z e => ?_) fun a b z e => toI e (fun z => by cases z) (fun z => by cases z)
    simp only [binop] at e
    split at e
    · rename_i c; exact ⟨c, (Option.some.inj e).symm⟩
    · cases e
  · refine or_ints' .pow op_pow (fun i j z e => ?_) fun a b z e => toI e (fun z => by cases z) (fun z => by cases z)
    simp only [binop] at e
    split at e
    · rename_i c; exact ⟨⟨c.1, c.2.1, by have := c.2.2; omega⟩, (Option.some.inj e).symm⟩
    · cases e
  · refine or_ints' .shl op_shl (fun i j z e => ?_) fun a b z e => toI e (fun z => by cases z) (fun z => by cases z)
    simp only [binop] at e
    split at e
    · rename_i c; exact ⟨⟨c.1, c.2.1, by have := c.2.2; omega⟩, (Option.some.inj e).symm⟩
    · cases e
  · refine or_ints' .shr op_shr (fun i j z e => ?_) fun a b z e => toI e (fun z => by cases z) (fun z => by cases z)
    simp only [binop] at e
    split at e
    · rename_i c; exact ⟨c, (Option.some.inj e).symm⟩
    · cases e
  · exact or_ints' (Cn := fun _ _ => True) .bor (OpR.imp op_or fun x y H Q ⟨i, j, a, b, _, q⟩ => ⟨i, j, a, b, q⟩) (fun i j z e => ⟨trivial, by simp only [binop, Option.some.injEq] at e; exact e.symm⟩) fun a b z e => toI e (fun z => by cases z) (fun z => by cases z)
  · exact or_ints' (Cn := fun _ _ => True) .band (OpR.imp op_and fun x y H Q ⟨i, j, a, b, _, q⟩ => ⟨i, j, a, b, q⟩) (fun i j z e => ⟨trivial, by simp only [binop, Option.some.injEq] at e; exact e.symm⟩) fun a b z e => toI e (fun z => by cases z) (fun z => by cases z)
  · refine or_ints' .fdiv op_fdivW (fun i j z e => ?_) fun a b z e => toI e (fun z => by cases z) (fun z => by cases z)
    simp only [binop] at e
    split at e
    · rename_i c; exact ⟨wide_div c.1 c.2 (by decide) (by decide), (Option.some.inj e).symm⟩
    · cases e
theorem se_bin {C : Fc} {W : WX} {a b : Expr} {sa sb : Bool} {eva evb : Env → R T} {op : Operator} {o : Op} {pos : Pos} (hK : X.K = G.K) (h : opOf op = some o) (ha : PE X a (tE G C W sa eva)) (hb : PE X b (tE G C W sb evb)) :
    PE X (.BinOp a op b pos) (tE G C W (sa && sb) (fun e => (eva e).bind fun t e => if t.root || sb then (evb e).bind fun u e => (rs t e).bind fun x e => (rs u e).bind fun y e => (R.of (binop o x y) e).bind fun z e => .ok (.val z) e else .err)) :=
  PE.mono (pe_op (or_bin hK h) ha hb) tE_op2
end
end LT
/-! LtCmp: < <= > >= of tuples of ints and texts. -/
namespace LT
open PySem L2
open PySem.SeqAt
section
variable {G : GK} {H : Hp} {A : Ad} {X : Cx}
/-- an item: an int, a text -/
def IsIt (d : D) (u : Value) : Prop := (∃ i t, d = .int i ∧ u = Value.int i t) ∨ ∃ s t, d = .str s ∧ u = Value.str (sOf s) t
def ItsR : List D → List Value → Prop := Paired IsIt
theorem itemOp_s {c : Cm} {x y : D} {z : Bool} (h : itemOp c x y = some z) : (∃ i j, x = .int i ∧ y = .int j) ∨ ∃ a b, x = .str a ∧ y = .str b := by
  cases x <;> cases y <;> first | exact .inl ⟨_, _, rfl, rfl⟩ | exact .inr ⟨_, _, rfl, rfl⟩ | (cases c <;> cases h)
theorem lexD_its {c : Cm} : ∀ {xs ys : List D} {z : Bool}, lexD c xs ys = some z → (∀ x ∈ xs, (∃ i, x = .int i) ∨ ∃ s, x = .str s) ∧ (∀ x ∈ ys, (∃ i, x = .int i) ∨ ∃ s, x = .str s) ∧ xs.length = ys.length
  | [], [], _, _ => ⟨fun _ h => (nomatch h), fun _ h => (nomatch h), rfl⟩
  | [], _ :: _, _, h => by simp [lexD] at h
  | _ :: _, [], _, h => by simp [lexD] at h
  | x :: xs, y :: ys, z, h => by
    simp only [lexD] at h
    split at h
    · rename_i a b e1 e2
      obtain ⟨g1, g2, g3⟩ := lexD_its e2
      have k := itemOp_s e1
      refine ⟨fun q m => ?_, fun q m => ?_, by simp [g3]⟩
      · rcases List.mem_cons.mp m with rfl | m
        · rcases k with ⟨i, j, rfl, rfl⟩ | ⟨i, j, rfl, rfl⟩
          · exact .inl ⟨i, rfl⟩
          · exact .inr ⟨i, rfl⟩
        · exact g1 q m
      · rcases List.mem_cons.mp m with rfl | m
        · rcases k with ⟨i, j, rfl, rfl⟩ | ⟨i, j, rfl, rfl⟩
          · exact .inl ⟨j, rfl⟩
          · exact .inr ⟨j, rfl⟩
        · exact g2 q m
    · cases h
theorem its_of : ∀ {ds : List D} {vs : List V} {us : List Value} {O : Ad}, (∀ x ∈ ds, (∃ i, x = .int i) ∨ ∃ s, x = .str s) → Reps G H A ds vs O → Vals vs us → ItsR ds us
  | [], vs, us, O, _, r, v => by
    simp only [Reps] at r
    subst r
    cases v
    exact .nil
  | d :: ds, vs, us, O, h, r, v => by
    simp only [Reps] at r
    obtain ⟨w, vs', O1, O2, e, _, _, _, h4, h5⟩ := r
    subst e
    cases v with
    | cons r1 r2 =>
      refine .cons ?_ (its_of (fun x m => h x (List.mem_cons_of_mem _ m)) h5 r2)
      rcases h d List.mem_cons_self with ⟨i, rfl⟩ | ⟨s, rfl⟩
      · obtain rfl : w = .int i := h4
        obtain ⟨t, rfl⟩ := r1
        exact .inl ⟨i, t, rfl, rfl⟩
      · obtain rfl : w = .str (sOf s) := h4
        obtain ⟨t, rfl⟩ := r1
        exact .inr ⟨s, t, rfl, rfl⟩
/-- what the pairs say -/
def eAt (xs ys : List D) (j : Nat) : Bool := (xs.getD j .non).eqv (ys.getD j .non)
def rAt (c : Cm) (xs ys : List D) (j : Nat) : Bool := (itemOp c (xs.getD j .non) (ys.getD j .non)).getD false
theorem lexAt_sh (e r : Nat → Bool) (z : Bool) : ∀ (k i : Nat), Ob.lexAt e r z (i + 1) k = Ob.lexAt (fun j => e (j + 1)) (fun j => r (j + 1)) z i k
  | 0, _ => rfl
  | k + 1, i => by simp only [Ob.lexAt_succ]; rw [lexAt_sh e r z k (i + 1)]
theorem lexAt_D {c : Cm} {z0 : Bool} (h0 : lexD c [] [] = some z0) : ∀ {xs ys : List D} {z : Bool}, lexD c xs ys = some z → Ob.lexAt (eAt xs ys) (rAt c xs ys) z0 0 xs.length = z
  | [], [], z, h => by rw [h0] at h; cases h; rfl
  | [], _ :: _, _, h => by simp [lexD] at h
  | _ :: _, [], _, h => by simp [lexD] at h
  | x :: xs, y :: ys, z, h => by
    simp only [lexD] at h
    split at h
    · rename_i a b e1 e2
      have ih := lexAt_D h0 e2
      cases h
      rw [List.length_cons, Ob.lexAt_succ, lexAt_sh]
      have q1 : eAt (x :: xs) (y :: ys) 0 = x.eqv y := rfl
      have q2 : rAt c (x :: xs) (y :: ys) 0 = a := by unfold rAt; simp [e1]
      have q3 : (fun j => eAt (x :: xs) (y :: ys) (j + 1)) = eAt xs ys := rfl
      have q4 : (fun j => rAt c (x :: xs) (y :: ys) (j + 1)) = rAt c xs ys := rfl
      rw [q1, q2, q3, q4, ih]
    · cases h
theorem itsR_at : ∀ {ds : List D} {us : List Value} {j : Nat} (h : j < us.length), ItsR ds us → IsIt (ds.getD j .non) us[j]
  | _, _, 0, _, .cons r _ => r
  | _, _, j + 1, h, .cons _ t => by
    have := itsR_at (j := j) (by simpa using h) t
    simpa using this
theorem itsR_len {ds : List D} {us : List Value} (r : ItsR ds us) : ds.length = us.length := Paired.length r
theorem item_eq {B : Around} {s : Shared} {x y : D} {u v : Value} (h1 : IsIt x u) (h2 : IsIt y v) {c : Cm} {z : Bool} (h : itemOp c x y = some z) : EqAt B s u v (x.eqv y) := by
  rcases itemOp_s h with ⟨i, j, rfl, rfl⟩ | ⟨a, b, rfl, rfl⟩
  · rcases h1 with ⟨_, t, e1, rfl⟩ | ⟨_, t, e1, _⟩ <;> cases e1
    rcases h2 with ⟨_, t', e2, rfl⟩ | ⟨_, t', e2, _⟩ <;> cases e2
    exact EqAt.int_int i t j t'
  · rcases h1 with ⟨_, t, e1, _⟩ | ⟨_, t, e1, rfl⟩ <;> cases e1
    rcases h2 with ⟨_, t', e2, _⟩ | ⟨_, t', e2, rfl⟩ <;> cases e2
    have := EqAt.str_str (A := B) (s := s) (sOf a) t (sOf b) t'
    have e : (sOf a == sOf b) = (D.str a).eqv (.str b) := by
      simp only [D.eqv]
      rw [Bool.eq_iff_iff]
      simp only [beq_iff_eq, sOf, PySem.Str.mk.injEq]
      constructor
      · intro e; simpa using congrArg Array.toList e
      · intro e; rw [e]
    rw [← e]
    exact this
theorem lexD_at {c : Cm} : ∀ {xs ys : List D} {z : Bool}, lexD c xs ys = some z → ∀ j, j < xs.length → ∃ z', itemOp c (xs.getD j .non) (ys.getD j .non) = some z'
  | [], _, _, _, j, hj => by simp at hj
  | _ :: _, [], _, h, _, _ => by simp [lexD] at h
  | x :: xs, y :: ys, z, h, j, hj => by
    simp only [lexD] at h
    split at h
    · rename_i a b e1 e2
      cases j with
      | zero => exact ⟨a, by simpa using e1⟩
      | succ j =>
        obtain ⟨z', q⟩ := lexD_at e2 j (by simpa using hj)
        exact ⟨z', by simpa using q⟩
    · cases h
def tcmp (c : Cm) : D → D → Option D
  | .tup a, .tup b => (lexD c a b).map .bl
  | _, _ => none
open PySem.Spec in
theorem op_tup {op : CmpOp} {c : Cm} (zz : Nat → Nat → Bool) (hz : ∀ n, lexD c [] [] = some (zz n n))
    (T : ∀ {A : Around} {s : Shared} {l b : Addr} {items items2 : Array Value} {e r : Nat → Bool}, s.heap.IsTuple l items → s.heap.IsTuple b items2 → A.units < cLine → (∀ j (h1 : j < items.size) (h2 : j < items2.size), EqAt A.in1 s items[j] items2[j] (e j)) →
      (∀ j (h1 : j < items.size) (h2 : j < items2.size), e j = false → Ob.RcOp op A.in1 s items[j] items2[j] (r j)) → Ob.RcOp op A s (.ref l) (.ref b) (Ob.lexAt e r (zz items.size items2.size) 0 (min items.size items2.size)))
    (hit : ∀ {B : Around} {s : Shared} {x y : D} {u v : Value} {z : Bool}, IsIt x u → IsIt y v → itemOp c x y = some z → Ob.RcOp op B s u v z)
    (hrc : ∀ x y, compareOp op x y = richCompare op x y) (hK : X.K = G.K) (hu : X.A.units < cLine) : OpR X (compareOp op) (r2 G (tcmp c)) := by
  intro pins s σ H x y v u Q I rx ry h
  obtain ⟨B, dx, dy, z, hB, hx, hy, e, k⟩ := h
  cases dx <;> cases dy <;> first | cases e | skip
  rename_i xs ys
  simp only [tcmp] at e
  obtain ⟨z', e', rfl⟩ := Option.map_eq_some_iff.mp e
  have hx : Rep G H B (.tup xs) x no := hx
  have hy : Rep G H B (.tup ys) y no := hy
  simp only [Rep] at hx hy
  obtain ⟨a, vs, rfl, ha, ra⟩ := hx
  obtain ⟨b, ws, rfl, hb, rb⟩ := hy
  cases rx
  cases ry
  rw [← hK] at ha hb
  obtain ⟨its, r1, p1, _⟩ := I.tuple ha
  obtain ⟨its2, r2, p2, _⟩ := I.tuple hb
  obtain ⟨t1, t2, hl⟩ := lexD_its e'
  have i1 := its_of t1 ra r1
  have i2 := its_of t2 rb r2
  have l1 := itsR_len i1
  have l2 := itsR_len i2
  have R := T (A := X.A) (s := s) (e := eAt xs ys) (r := rAt c xs ys) p1 p2 hu (fun j h1 h2 => by
    simp only [List.size_toArray] at h1 h2
    obtain ⟨z1, q1⟩ := lexD_at e' j (by omega)
    have := item_eq (B := X.A.in1) (s := s) (itsR_at h1 i1) (itsR_at h2 i2) q1
    exact this) (fun j h1 h2 _ => by
    simp only [List.size_toArray] at h1 h2
    obtain ⟨z1, q1⟩ := lexD_at e' j (by omega)
    have := hit (B := X.A.in1) (s := s) (itsR_at h1 i1) (itsR_at h2 i2) q1
    unfold rAt
    rw [q1]
    exact this)
  have e1 : its.toArray.size = xs.length := by rw [List.size_toArray]; exact l1.symm
  have e2 : its2.toArray.size = xs.length := by rw [List.size_toArray, ← l2]; exact hl.symm
  rw [e1, e2, Nat.min_self, lexAt_D (hz xs.length) e'] at R
  rw [hrc]
  exact R X.prog X.w X.xe (EP X pins σ Q) ⟨.bl _, H, I, rfl, k _ _ (Fresh.bl _)⟩
theorem itc {op : CmpOp} {c : Cm} (hi : ∀ {B : Around} {s : Shared} (i j : Int) (t u : Tok) (z : Bool), itemOp c (.int i) (.int j) = some z → Ob.RcOp op B s (.int i t) (.int j u) z)
    (hs : ∀ {B : Around} {s : Shared} (i j : Cs) (t u : Tok) (z : Bool), itemOp c (.str i) (.str j) = some z → Ob.RcOp op B s (.str (sOf i) t) (.str (sOf j) u) z)
    {B : Around} {s : Shared} {x y : D} {u v : Value} {z : Bool} (h1 : IsIt x u) (h2 : IsIt y v) (h : itemOp c x y = some z) : Ob.RcOp op B s u v z := by
  rcases itemOp_s h with ⟨i, j, rfl, rfl⟩ | ⟨a, b, rfl, rfl⟩
  · rcases h1 with ⟨_, t, e1, rfl⟩ | ⟨_, t, e1, _⟩ <;> cases e1
    rcases h2 with ⟨_, t', e2, rfl⟩ | ⟨_, t', e2, _⟩ <;> cases e2
    exact hi _ _ _ _ _ h
  · rcases h1 with ⟨_, t, e1, _⟩ | ⟨_, t, e1, rfl⟩ <;> cases e1
    rcases h2 with ⟨_, t', e2, _⟩ | ⟨_, t', e2, rfl⟩ <;> cases e2
    exact hs _ _ _ _ _ h
theorem sOf_list (s : Cs) : (sOf s).cps.toList = s := by simp [sOf]
theorem op_tupLt (hK : X.K = G.K) (hu : X.A.units < cLine) : OpR X (compareOp .Lt) (r2 G (tcmp .lt)) :=
  op_tup (fun n m => decide (n < m)) (fun n => by simp [lexD]) (fun a b c d e => Ob.RcOp.tuples_lt a b c d e) (fun h1 h2 h => itc (fun i j t u z h => by cases h; exact Ob.RcOp.lt_int i j t u) (fun i j t u z h => by
    cases h
    intro prog w E Q hq
    exact PyProof.Rows.lt_str (by rw [sOf_list, sOf_list]; exact hq)) h1 h2 h) (fun _ _ => rfl) hK hu
theorem op_tupLe (hK : X.K = G.K) (hu : X.A.units < cLine) : OpR X (compareOp .LtE) (r2 G (tcmp .le)) :=
  op_tup (fun n m => decide (n ≤ m)) (fun n => by simp [lexD]) (fun a b c d e => Ob.RcOp.tuples_le a b c d e) (fun h1 h2 h => itc (fun i j t u z h => by cases h; exact Ob.RcOp.le_int i j t u) (fun i j t u z h => by
    cases h
    intro prog w E Q hq
    exact PySem.P.le_str (by rw [sOf_list, sOf_list]; exact hq)) h1 h2 h) (fun _ _ => rfl) hK hu
theorem op_tupGt (hK : X.K = G.K) (hu : X.A.units < cLine) : OpR X (compareOp .Gt) (r2 G (tcmp .gt)) :=
  op_tup (fun n m => decide (n > m)) (fun n => by simp [lexD]) (fun a b c d e => Ob.RcOp.tuples_gt a b c d e) (fun h1 h2 h => itc (fun i j t u z h => by cases h; exact Ob.RcOp.gt_int i j t u) (fun i j t u z h => by
    cases h
    intro prog w E Q hq
    exact PySem.P.gt_str (by rw [sOf_list, sOf_list]; exact hq)) h1 h2 h) (fun _ _ => rfl) hK hu
theorem op_tupGe (hK : X.K = G.K) (hu : X.A.units < cLine) : OpR X (compareOp .GtE) (r2 G (tcmp .ge)) :=
  op_tup (fun n m => decide (n ≥ m)) (fun n => by simp [lexD]) (fun a b c d e => Ob.RcOp.tuples_ge a b c d e) (fun h1 h2 h => itc (fun i j t u z h => by cases h; exact Ob.RcOp.ge_int i j t u) (fun i j t u z h => by
    cases h
    intro prog w E Q hq
    exact PySem.P.ge_str (by rw [sOf_list, sOf_list]; exact hq)) h1 h2 h) (fun _ _ => rfl) hK hu
end
end LT
/-! LtDi: dicts. -/
namespace LT
open PySem L2
section
variable {G : GK} {H : Hp} {A : Ad}
theorem key_shape {d : D} (h : d.key = true) : (∃ i, d = .int i) ∨ ∃ s, d = .str s := by
  cases d with
  | int i => exact .inl ⟨i, rfl⟩
  | str s => exact .inr ⟨s, rfl⟩
  | _ => cases h
theorem key_kV {d : D} {v : V} (hd : d.key = true) {O : Ad} (r : Rep G H A d v O) : ∃ k : Key, v = kV k ∧ d = dKey k := by
  rcases key_shape hd with ⟨i, rfl⟩ | ⟨s, rfl⟩
  · exact ⟨.inl i, r, rfl⟩
  · refine ⟨.inr (sOf s), r, ?_⟩
    simp [dKey, sOf]
theorem kV_dKey {d : D} {k : Key} {O : Ad} (r : Rep G H A d (kV k) O) : d = dKey k := by
  cases k with
  | inl i =>
    cases d with
    | int j => have : V.int i = V.int j := r; cases this; rfl
    | non => have : V.int i = V.non := r; cases this
    | bl b => have : V.int i = V.bl b := r; cases this
    | str s => have : V.int i = V.str (sOf s) := r; cases this
    | tup ds => simp only [Rep, kV] at r; obtain ⟨a, vs, e, _⟩ := r; cases e
    | lst o ds => cases o <;> (simp only [Rep, kV] at r; obtain ⟨a, vs, r⟩ := r; first | (obtain ⟨_, e, _⟩ := r; cases e; done) | (obtain ⟨e, _⟩ := r; cases e))
    | scr ns => simp only [Rep, kV] at r; obtain ⟨a, e, _⟩ := r; cases e
    | dic o ks ds => cases o <;> (simp only [Rep, kV] at r; obtain ⟨a, kv, vs, e, _⟩ := r; cases e)
    | exn c fs => simp only [Rep, kV] at r; obtain ⟨a, oe, e, _⟩ := r; cases e
    | ins o c fs ds => cases o <;> (simp only [Rep, kV] at r; obtain ⟨a, dx, fvs, r⟩ := r; first | (obtain ⟨_, e, _⟩ := r; cases e; done) | (obtain ⟨e, _⟩ := r; cases e))
  | inr x =>
    cases d with
    | int j => have : V.str x = V.int j := r; cases this
    | non => have : V.str x = V.non := r; cases this
    | bl b => have : V.str x = V.bl b := r; cases this
    | str s => have : V.str x = V.str (sOf s) := r; cases this; simp [dKey, sOf]
    | tup ds => simp only [Rep, kV] at r; obtain ⟨a, vs, e, _⟩ := r; cases e
    | lst o ds => cases o <;> (simp only [Rep, kV] at r; obtain ⟨a, vs, r⟩ := r; first | (obtain ⟨_, e, _⟩ := r; cases e; done) | (obtain ⟨e, _⟩ := r; cases e))
    | scr ns => simp only [Rep, kV] at r; obtain ⟨a, e, _⟩ := r; cases e
    | dic o ks ds => cases o <;> (simp only [Rep, kV] at r; obtain ⟨a, kv, vs, e, _⟩ := r; cases e)
    | exn c fs => simp only [Rep, kV] at r; obtain ⟨a, oe, e, _⟩ := r; cases e
    | ins o c fs ds => cases o <;> (simp only [Rep, kV] at r; obtain ⟨a, dx, fvs, r⟩ := r; first | (obtain ⟨_, e, _⟩ := r; cases e; done) | (obtain ⟨e, _⟩ := r; cases e))
theorem dKey_eqv (a b : Key) : (dKey a).eqv (dKey b) = decide (a = b) := by
  cases a with
  | inl i => cases b with
    | inl j =>
      simp only [dKey, D.eqv]
      rw [Bool.eq_iff_iff]
      simp only [beq_iff_eq, decide_eq_true_eq, Sum.inl.injEq]
    | inr y => simp [dKey, D.eqv]
  | inr x => cases b with
    | inl j => simp [dKey, D.eqv]
    | inr y =>
      simp only [dKey, D.eqv]
      rw [Bool.eq_iff_iff]
      simp only [beq_iff_eq, decide_eq_true_eq, Sum.inr.injEq]
      constructor
      · intro h
        cases x; cases y
        simp only [PySem.Str.mk.injEq]
        exact Array.toList_inj.mp h
      · intro h; rw [h]
theorem keys_dKey : ∀ {ks : List D} {kvs : List (Key × V)}, Reps G H A ks (kvs.map fun p => kV p.1) no → ks = kvs.map fun p => dKey p.1
  | [], kvs, r => by
    simp only [Reps] at r
    cases kvs with
    | nil => rfl
    | cons p r' => simp at r
  | d :: ks, kvs, r => by
    simp only [Reps] at r
    obtain ⟨v, vs', O1, O2, e, g1, g2, _, h4, h5⟩ := r
    cases kvs with
    | nil => simp at e
    | cons p kvs =>
      simp only [List.map_cons, List.cons.injEq] at e
      obtain ⟨e1, e2⟩ := e
      subst e1 e2
      rw [List.map_cons, kV_dKey h4, ← keys_dKey (Reps.mono (O' := no) g2 h5)]
/-! look-up -/
theorem keysAny {kvs : List (Key × V)} {k : Key} : ((kvs.map fun p => dKey p.1).any fun y => y.eqv (dKey k)) = (valV kvs k).isSome := by
  rw [← valV_any, List.any_map]
  congr 1
  funext p
  simp only [Function.comp, dKey_eqv]
theorem dget_valV : ∀ {ds : List D} {kvs : List (Key × V)} {k : Key}, Reps G H A ds (kvs.map (·.2)) no → (∀ d, dget (kvs.map fun p => dKey p.1) ds (dKey k) = some d → ∃ v, valV kvs k = some v ∧ Rep G H A d v no)
  | [], kvs, k, r, d, e => by
    cases kvs <;> simp [dget] at e
  | x :: ds, kvs, k, r, d, e => by
    simp only [Reps] at r
    obtain ⟨v, vs', O1, O2, e1, g1, g2, _, h4, h5⟩ := r
    cases kvs with
    | nil => simp at e1
    | cons p kvs =>
      simp only [List.map_cons, List.cons.injEq] at e1
      obtain ⟨e2, e3⟩ := e1
      subst e2 e3
      simp only [List.map_cons, dget, dKey_eqv] at e
      by_cases q : p.1 = k
      · simp only [q, decide_true, if_true, Option.some.injEq] at e
        subst e
        exact ⟨p.2, valV_pos q, Rep.mono _ _ _ _ g1 h4⟩
      · simp only [q, decide_false, Bool.false_eq_true, if_false] at e
        obtain ⟨v, h1, h2⟩ := dget_valV (Reps.mono (O' := no) g2 h5) d e
        exact ⟨v, by rw [valV_neg q]; exact h1, h2⟩
mutual
theorem nk_rep : ∀ (n : Nat) (d : D) (v : V) (O : Ad), d.nk n = true → Rep G H A d v O → NkV G.K H (toNk d) v
  | _, .non, v, O, h, r => by simp only [toNk, NkV]; exact r
  | _, .int i, v, O, h, r => by simp only [toNk, NkV]; exact r
  | _, .str s, v, O, h, r => by simp only [toNk, NkV]; exact r
  | n + 1, .tup ds, v, O, h, r => by
    simp only [D.nk] at h
    simp only [Rep] at r
    obtain ⟨a, vs, e, h1, h2⟩ := r
    simp only [toNk, NkV]
    exact ⟨a, vs, e, h1, nks_rep n ds vs _ h h2⟩
  | 0, .tup ds, v, O, h, r => by simp [D.nk] at h
  | _, .bl b, v, O, h, r => by simp [D.nk] at h
  | _, .lst o b, v, O, h, r => by simp [D.nk] at h
  | _, .scr b, v, O, h, r => by simp [D.nk] at h
  | _, .dic _ _ _, v, O, h, r => by simp [D.nk] at h
  | _, .ins _ _ _ _, v, O, h, r => by simp [D.nk] at h
  | _, .exn _ _, v, O, h, r => by simp [D.nk] at h
theorem nks_rep : ∀ (n : Nat) (ds : List D) (vs : List V) (O : Ad), nks n ds = true → Reps G H A ds vs O → NkVs G.K H (toNks ds) vs
  | _, [], vs, O, h, r => by simp only [toNks, NkVs]; simpa [Reps] using r
  | n, d :: ds, vs, O, h, r => by
    simp only [nks, Bool.and_eq_true] at h
    simp only [Reps] at r
    obtain ⟨v, vs', O1, O2, e, _, _, _, h4, h5⟩ := r
    simp only [toNks, NkVs]
    exact ⟨v, vs', e, nk_rep n d v _ h.1 h4, nks_rep n ds vs' _ h.2 h5⟩
end
/-- what a dict at a place says of a key -/
theorem DicAt.get0 {a : Addr} {ks : List D} {kv vs : List V} {ds : List D} {x : D} {y : V} (h : ∃ kvs : List (Key × V), H a = some (.dK kvs) ∧ kv = kvs.map (fun p => kV p.1) ∧ vs = kvs.map (·.2)) (rk : Reps G H A ks kv no) (rd : Reps G H A ds vs no) (hx : x.key = true) {O : Ad} (rx : Rep G H A x y O) : ∃ o, DGet H a y o ∧ o.isSome = (ks.any fun z => z.eqv x) ∧ ∀ d, dget ks ds x = some d → ∃ v, o = some v ∧ Rep G H A d v no := by
  obtain ⟨kvs, e, rfl, rfl⟩ := h
  obtain ⟨k, rfl, rfl⟩ := key_kV hx rx
  obtain rfl := keys_dKey rk
  exact ⟨_, DGet.k e, keysAny.symm, dget_valV rd⟩
theorem dK_head {kvs : List (Key × V)} {ks : List D} (rk : Reps G H A ks (kvs.map fun p => kV p.1) no) : headT ks = false := by
  obtain rfl := keys_dKey rk
  cases kvs with
  | nil => rfl
  | cons p r => cases p.1 with
    | inl i => simp only [List.map_cons, headT]; cases p.1 <;> rfl
    | inr i => simp only [List.map_cons, headT]; cases p.1 <;> rfl
theorem okKey_s {x : D} {ks : List D} (h : okKey x ks = true) : (x.key = true ∧ headT ks = false) ∨ (x.isTup = true ∧ x.nk 8 = true ∧ (ks = [] ∨ headT ks = true)) := by
  unfold okKey at h
  rw [Bool.or_eq_true] at h
  rcases h with h | h
  · rw [Bool.and_eq_true] at h
    exact .inl ⟨h.1, by simpa using h.2⟩
  · rw [Bool.and_eq_true, Bool.and_eq_true, Bool.or_eq_true] at h
    exact .inr ⟨h.1.1, h.1.2, h.2.imp (fun q => by simpa using q) id⟩
theorem nkAll : ∀ {ks : List D} {xs : NkT}, Reps G H A ks (xs.map fun x => V.ref x.2.1) no → xs.map (·.1) = ks.map toNk → (∀ k ∈ ks, (k.isTup && k.nk 8) = true) → ∀ x ∈ xs, NkV G.K H x.1 (.ref x.2.1) ∧ x.1.depth ≤ 8
  | [], xs, r, e, _, x, m => by
    have : xs = [] := by simpa using e
    subst this
    exact nomatch m
  | k :: ks, [], r, e, _, x, m => nomatch m
  | k :: ks, z :: xs, r, e, hn, x, m => by
    simp only [Reps, List.map_cons, List.cons.injEq] at r
    obtain ⟨v, vs', O1, O2, ⟨e1, e2⟩, g1, g2, _, h4, h5⟩ := r
    simp only [List.map_cons, List.cons.injEq] at e
    have q := hn k List.mem_cons_self
    rw [Bool.and_eq_true] at q
    rcases List.mem_cons.mp m with rfl | m
    · rw [e.1, e1]
      exact ⟨nk_rep _ _ _ _ q.2 h4, nk_depth _ _ q.2⟩
    · subst e2
      exact nkAll (Reps.mono (O' := no) g2 h5) e.2 (fun k m => hn k (List.mem_cons_of_mem _ m)) x m
theorem nkAny {x : D} (hx : x.nk 8 = true) : ∀ {ks : List D} {xs : NkT}, xs.map (·.1) = ks.map toNk → (∀ k ∈ ks, (k.isTup && k.nk 8) = true) → (ks.any fun z => z.eqv x) = (valX xs (toNk x)).isSome
  | [], xs, e, _ => by
    have : xs = [] := by simpa using e
    subst this
    rfl
  | k :: ks, [], e, _ => by simp at e
  | k :: ks, z :: xs, e, hn => by
    simp only [List.map_cons, List.cons.injEq] at e
    have q := hn k List.mem_cons_self
    rw [Bool.and_eq_true] at q
    rw [List.any_cons, nkAny hx e.2 (fun k m => hn k (List.mem_cons_of_mem _ m)), nk_eqv' q.2 hx]
    by_cases h : z.1 = toNk x
    · have a : valX (z :: xs) (toNk x) = some z.2.2 := by simp [valX, List.find?_cons, h]
      rw [a, ← e.1, h]; simp
    · have a : valX (z :: xs) (toNk x) = valX xs (toNk x) := by simp [valX, List.find?_cons, h]
      rw [a, ← e.1]; simp [h]
theorem nkDget {x : D} (hx : x.nk 8 = true) : ∀ {ds ks : List D} {xs : NkT}, Reps G H A ds (xs.map (·.2.2)) no → xs.map (·.1) = ks.map toNk → (∀ k ∈ ks, (k.isTup && k.nk 8) = true) → ∀ d, dget ks ds x = some d → ∃ v, valX xs (toNk x) = some v ∧ Rep G H A d v no
  | ds, [], xs, r, e, _, d, q => by cases ds <;> simp [dget] at q
  | [], k :: ks, xs, r, e, _, d, q => by simp [dget] at q
  | y :: ds, k :: ks, [], r, e, _, d, q => by simp at e
  | y :: ds, k :: ks, z :: xs, r, e, hn, d, q => by
    simp only [Reps, List.map_cons, List.cons.injEq] at r
    obtain ⟨v, vs', O1, O2, ⟨e1, e2⟩, g1, g2, _, h4, h5⟩ := r
    simp only [List.map_cons, List.cons.injEq] at e
    have p := hn k List.mem_cons_self
    rw [Bool.and_eq_true] at p
    simp only [dget, nk_eqv' p.2 hx] at q
    by_cases h : z.1 = toNk x
    · have a : valX (z :: xs) (toNk x) = some z.2.2 := by simp [valX, List.find?_cons, h]
      rw [← e.1, h] at q
      simp only [decide_true, if_true, Option.some.injEq] at q
      subst q
      rw [a, e1]
      exact ⟨_, rfl, Rep.mono _ _ _ _ g1 h4⟩
    · have a : valX (z :: xs) (toNk x) = valX xs (toNk x) := by simp [valX, List.find?_cons, h]
      rw [← e.1] at q
      simp only [h, decide_false, Bool.false_eq_true, if_false] at q
      rw [a]
      subst e2
      exact nkDget hx (Reps.mono (O' := no) g2 h5) e.2 (fun k m => hn k (List.mem_cons_of_mem _ m)) d q
theorem isTup_s {x : D} (h : x.isTup = true) : ∃ ds, x = .tup ds := by
  cases x with
  | tup ds => exact ⟨ds, rfl⟩
  | _ => cases h
theorem tup_ref {x : D} {y : V} {O : Ad} (h : x.isTup = true) (r : Rep G H A x y O) : ∃ b, y = .ref b := by
  obtain ⟨ds, rfl⟩ := isTup_s h
  simp only [Rep] at r
  obtain ⟨a, vs, e, _⟩ := r
  exact ⟨a, e⟩
theorem DicAt.get {a : Addr} {kv vs : List V} {ks ds : List D} {x : D} {y : V} (h : DicAt G.w H a ks kv vs) (rk : Reps G H A ks kv no) (rd : Reps G H A ds vs no) (hx : okKey x ks = true) {O : Ad} (rx : Rep G H A x y O) : ∃ o, XGet G.K G.w H a y o ∧ o.isSome = (ks.any fun z => z.eqv x) ∧ ∀ d, dget ks ds x = some d → ∃ v, o = some v ∧ Rep G H A d v no := by
  rcases okKey_s hx with ⟨h1, h2⟩ | ⟨h1, h2, h3⟩
  · rcases h with h | ⟨xs, n0, e, rfl, rfl, e2, hn⟩
    · obtain ⟨o, q1, q2⟩ := DicAt.get0 h rk rd h1 rx
      exact ⟨o, .inl q1, q2⟩
    · cases ks with
      | nil => exact absurd (by simpa using e2) n0
      | cons k ks =>
        have := hn k List.mem_cons_self
        rw [Bool.and_eq_true] at this
        rw [headT, this.1] at h2
        cases h2
  · obtain ⟨b, rfl⟩ := tup_ref h1 rx
    have nx := nk_rep _ _ _ _ h2 rx
    rcases h with ⟨kvs, e, rfl, rfl⟩ | ⟨xs, n0, e, rfl, rfl, e2, hn⟩
    · rcases h3 with h3 | h3
      · subst h3
        have : kvs = [] := by
          have := keys_dKey rk
          simpa using this.symm
        subst this
        exact ⟨_, .inr ⟨[], toNk x, b, .inr ⟨rfl, e⟩, rfl, nx, nk_depth _ _ h2, fun _ m => (nomatch m), rfl⟩, rfl, fun d q => by cases ds <;> simp [dget] at q⟩
      · rw [dK_head rk] at h3
        cases h3
    · exact ⟨_, .inr ⟨xs, toNk x, b, .inl e, rfl, nx, nk_depth _ _ h2, nkAll rk e2 hn, rfl⟩, (nkAny h2 e2 hn).symm, nkDget h2 rd e2 hn⟩
theorem reps_repl {ds : List D} {kvs : List (Key × V)} {k : Key} {d : D} {v : V} (h : Reps G H A ds (kvs.map (·.2)) no) (rv : Rep G H A d v no) : Reps G H A (List.zipWith (fun k' v' => if k'.eqv (dKey k) = true then d else v') (kvs.map fun p => dKey p.1) ds) ((kvs.map fun p => if p.1 = k then (p.1, v) else p).map (·.2)) no := by
  induction ds generalizing kvs with
  | nil =>
    simp only [Reps] at h
    have : kvs = [] := by simpa using h
    subst this
    simp [Reps]
  | cons x ds ih =>
    simp only [Reps] at h
    obtain ⟨w, vs', O1, O2, e1, g1, g2, _, h4, h5⟩ := h
    cases kvs with
    | nil => simp at e1
    | cons p kvs =>
      simp only [List.map_cons, List.cons.injEq] at e1
      obtain ⟨e2, e3⟩ := e1
      subst e2 e3
      simp only [List.map_cons, List.zipWith_cons_cons, Reps]
      refine ⟨_, _, no, no, rfl, fun _ z => z, fun _ z => z, fun _ z => z.elim, ?_, ih (Reps.mono (O' := no) g2 h5)⟩
      rw [dKey_eqv]
      by_cases q : p.1 = k
      · simp only [q, decide_true, if_true]; exact rv
      · simp only [q, decide_false, Bool.false_eq_true, if_false]; exact Rep.mono _ _ _ _ g1 h4
theorem DicAt.put0 {a : Addr} {kv vs : List V} {ks ds : List D} {x d : D} {y v : V} (h : ∃ kvs : List (Key × V), H a = some (.dK kvs) ∧ kv = kvs.map (fun p => kV p.1) ∧ vs = kvs.map (·.2)) (rk : Reps G H A ks kv no) (rd : Reps G H A ds vs no) (hx : x.key = true) {O : Ad} (rx : Rep G H A x y O) (rv : Rep G H A d v no) (hz : ks.length < sizeL) :
    ∃ u kv' vs', DPut H a y v (upd H a u) ∧ Mut (some u) ∧ DicAt G.w (upd H a u) a (dputs ks ds x d).1 kv' vs' ∧ Reps G H A (dputs ks ds x d).1 kv' no ∧ Reps G H A (dputs ks ds x d).2 vs' no := by
  obtain ⟨kvs, e, rfl, rfl⟩ := h
  obtain ⟨k, rfl, rfl⟩ := key_kV hx rx
  obtain rfl := keys_dKey rk
  have hl : kvs.length < sizeLine := by rw [← sizeL_eq]; simpa using hz
  refine ⟨.dK (putK kvs k v), _, _, DPut.k e hl, trivial, .inl ⟨_, upd_same, rfl, rfl⟩, ?_⟩
  unfold dputs putK
  rw [keysAny, ← valV_any]
  by_cases q : (kvs.any fun kv => decide (kv.1 = k)) = true
  · rw [if_pos q, if_pos q]
    refine ⟨?_, reps_repl rd rv⟩
    have : ((kvs.map fun p => if p.1 = k then (p.1, v) else p).map fun p => kV p.1) = kvs.map fun p => kV p.1 := by
      rw [List.map_map]
      apply List.map_congr_left
      intro p _
      simp only [Function.comp]
      split <;> rfl
    rw [this]
    exact rk
  · rw [if_neg q, if_neg q]
    simp only [List.map_append, List.map_cons, List.map_nil]
    exact ⟨Reps.append rk (O2 := no) (by simp only [Reps]; exact ⟨_, _, no, no, rfl, fun _ z => z, fun _ z => z, fun _ z => z.elim, by cases k <;> simp [dKey, kV, Rep, sOf], rfl⟩) (fun _ z => z) (fun _ z => z) (fun _ z => z.elim), Reps.append rd (O2 := no) (by simp only [Reps]; exact ⟨_, _, no, no, rfl, fun _ z => z, fun _ z => z, fun _ z => z.elim, rv, rfl⟩) (fun _ z => z) (fun _ z => z) (fun _ z => z.elim)⟩
theorem nkRepl {x d : D} {v : V} (hx : x.nk 8 = true) (rv : Rep G H A d v no) : ∀ {ds ks : List D} {xs : NkT}, Reps G H A ds (xs.map (·.2.2)) no → xs.map (·.1) = ks.map toNk → (∀ k ∈ ks, (k.isTup && k.nk 8) = true) → Reps G H A (List.zipWith (fun k' v' => if k'.eqv x = true then d else v') ks ds) ((xs.map (putX (toNk x) v)).map (·.2.2)) no
  | ds, [], xs, r, e, _ => by
    have : xs = [] := by simpa using e
    subst this
    simp [Reps]
  | ds, k :: ks, [], r, e, _ => by simp at e
  | [], k :: ks, z :: xs, r, e, hn => by simp [Reps] at r
  | y :: ds, k :: ks, z :: xs, r, e, hn => by
    simp only [Reps, List.map_cons, List.cons.injEq] at r
    obtain ⟨w, vs', O1, O2, ⟨e1, e2⟩, g1, g2, _, h4, h5⟩ := r
    simp only [List.map_cons, List.cons.injEq] at e
    have p := hn k List.mem_cons_self
    rw [Bool.and_eq_true] at p
    subst e2
    have ih := nkRepl hx rv (Reps.mono (O' := no) g2 h5) e.2 (fun k m => hn k (List.mem_cons_of_mem _ m))
    simp only [List.map_cons, List.zipWith_cons_cons, Reps]
    refine ⟨_, _, no, no, rfl, fun _ z => z, fun _ z => z, fun _ z => z.elim, ?_, ih⟩
    rw [nk_eqv' p.2 hx, ← e.1]
    by_cases q : z.1 = toNk x
    · rw [putX, if_pos q]; simp only [q, decide_true, if_true]; exact rv
    · rw [putX, if_neg q]; simp only [q, decide_false, Bool.false_eq_true, if_false]; rw [e1]; exact Rep.mono _ _ _ _ g1 h4
theorem DicAt.put {a : Addr} {kv vs : List V} {ks ds : List D} {x d : D} {y v : V} (h : DicAt G.w H a ks kv vs) (rk : Reps G H A ks kv no) (rd : Reps G H A ds vs no) (hx : okKey x ks = true) {O : Ad} (rx : Rep G H A x y O) (rv : Rep G H A d v no) (hz : ks.length < sizeL) :
    ∃ u kv' vs', XPut G.K G.w H a y v (upd H a u) ∧ Mut (some u) ∧ DicAt G.w (upd H a u) a (dputs ks ds x d).1 kv' vs' ∧ Reps G H A (dputs ks ds x d).1 kv' no ∧ Reps G H A (dputs ks ds x d).2 vs' no := by
  rcases okKey_s hx with ⟨h1, h2⟩ | ⟨h1, h2, h3⟩
  · rcases h with h | ⟨xs, n0, e, rfl, rfl, e2, hn⟩
    · obtain ⟨u, kv', vs', q1, q2⟩ := DicAt.put0 h rk rd h1 rx rv hz
      exact ⟨u, kv', vs', .inl q1, q2⟩
    · cases ks with
      | nil => exact absurd (by simpa using e2) n0
      | cons k ks =>
        have := hn k List.mem_cons_self
        rw [Bool.and_eq_true] at this
        rw [headT, this.1] at h2
        cases h2
  · obtain ⟨b, rfl⟩ := tup_ref h1 rx
    have nx := nk_rep _ _ _ _ h2 rx
    obtain ⟨xs, e, rfl, rfl, e2, hn⟩ : ∃ xs : NkT, (H a = some (.ext (NkPhi G.w a xs)) ∨ (xs = [] ∧ H a = some (.dK []))) ∧ kv = xs.map (fun x => V.ref x.2.1) ∧ vs = xs.map (·.2.2) ∧ xs.map (·.1) = ks.map toNk ∧ ∀ k ∈ ks, (k.isTup && k.nk 8) = true := by
      rcases h with ⟨kvs, e, rfl, rfl⟩ | ⟨xs, n0, e, q⟩
      · rcases h3 with h3 | h3
        · subst h3
          have : kvs = [] := by
            have := keys_dKey rk
            simpa using this.symm
          subst this
          exact ⟨[], .inr ⟨rfl, e⟩, rfl, rfl, rfl, fun _ m => nomatch m⟩
        · rw [dK_head rk] at h3
          cases h3
      · exact ⟨xs, .inl e, q⟩
    have hl : xs.length < sizeLine := by
      have := congrArg List.length e2
      simp at this
      rw [← sizeL_eq, this]; exact hz
    refine ⟨.ext (NkPhi G.w a (storedX xs (toNk x) b v)), _, _, .inr ⟨xs, toNk x, b, e, rfl, nx, nk_depth _ _ h2, nkAll rk e2 hn, hl, rfl⟩, trivial, .inr ⟨_, stored_ne _ _ _ _, upd_same, rfl, rfl, ?_⟩, ?_⟩
    · unfold dputs storedX
      rw [nkAny h2 e2 hn]
      by_cases q : (valX xs (toNk x)).isSome = true
      · rw [if_pos q, if_pos q]
        refine ⟨?_, hn⟩
        rw [← e2, List.map_map]
        apply List.map_congr_left
        intro p _
        simp only [Function.comp, putX]
        split <;> rfl
      · rw [if_neg q, if_neg q]
        simp only [List.map_append, List.map_cons, List.map_nil, e2, true_and]
        intro k m
        rcases List.mem_append.mp m with m | m
        · exact hn k m
        · rw [List.mem_singleton.mp m, h1, h2]; rfl
    · unfold dputs storedX
      rw [nkAny h2 e2 hn]
      by_cases q : (valX xs (toNk x)).isSome = true
      · rw [if_pos q, if_pos q]
        refine ⟨?_, nkRepl h2 rv rd e2 hn⟩
        have : ((xs.map (putX (toNk x) v)).map fun x => V.ref x.2.1) = xs.map fun x => V.ref x.2.1 := by
          rw [List.map_map]
          apply List.map_congr_left
          intro p _
          simp only [Function.comp, putX]
          split <;> rfl
        rw [this]
        exact rk
      · rw [if_neg q, if_neg q]
        simp only [List.map_append, List.map_cons, List.map_nil]
        have hxo : x.own = false := by obtain ⟨es, rfl⟩ := isTup_s h1; rfl
        exact ⟨Reps.append rk (O2 := no) (by simp only [Reps]; exact ⟨_, _, no, no, rfl, fun _ z => z, fun _ z => z, fun _ z => z.elim, rx.noown hxo, rfl⟩) (fun _ z => z) (fun _ z => z) (fun _ z => z.elim), Reps.append rd (O2 := no) (by simp only [Reps]; exact ⟨_, _, no, no, rfl, fun _ z => z, fun _ z => z, fun _ z => z.elim, rv, rfl⟩) (fun _ z => z) (fun _ z => z) (fun _ z => z.elim)⟩
end
section
open PySem.Spec PyProof.Rows
variable {X : Cx}
theorem op_dIn (hu : X.A.units + 9 < cLine) : OpR X (compareOp .In) (fun x y H Q => ∃ a o, y = .ref a ∧ XGet X.K X.w H a x o ∧ Q (.bl o.isSome) H) := by
  intro pins s σ H x y v u Q I rx ry h
  obtain ⟨a, o, rfl, g, q⟩ := h
  cases ry
  exact x_in hu I g rx fun s' I' => ⟨.bl o.isSome, H, I', rfl, q⟩
theorem op_dNotIn (hu : X.A.units + 9 < cLine) : OpR X (compareOp .NotIn) (fun x y H Q => ∃ a o, y = .ref a ∧ XGet X.K X.w H a x o ∧ Q (.bl (!o.isSome)) H) := by
  intro pins s σ H x y v u Q I rx ry h
  obtain ⟨a, o, rfl, g, q⟩ := h
  cases ry
  exact x_notIn hu I g rx fun s' I' => ⟨.bl (!o.isSome), H, I', rfl, q⟩
theorem ix_dict (hu : X.A.units + 9 < cLine) : IxR X (fun x y H Q => ∃ a v, x = .ref a ∧ XGet X.K X.w H a y (some v) ∧ Q v H) := by
  intro value slice pins s σ H x y v u Q I rx ry h hs
  obtain ⟨a, w, rfl, g, q⟩ := h
  cases rx
  exact tail_any (XGet.typeIs I g) PySem.F.slot_dict_getitem.lookup (x_getItem hu I g ry fun w' s' I' r' => ⟨w, H, I', r', q⟩) hs
/-- o[i] = v of a dict -/
def rSetX (K : PySem.W.Frag) (w : World) : TSet := fun o i v H Q => ∃ a H', o = .ref a ∧ XPut K w H a i v H' ∧ Q H'
theorem set_dictX (hu : X.A.units + 9 < cLine) : PSet X (rSetX X.K X.w) := by
  intro pins s σ H o i v ov iv u Q I ro ri rv h
  obtain ⟨a, H', eo, g, q⟩ := h
  subst eo
  cases (show ov = Value.ref a from ro)
  exact x_setItem hu I g ri rv fun s' I' => ⟨H', I', q⟩
end
end LT
/-! LtH: comparisons. -/
namespace LT
open PySem L2
mutual
/-- as the library's data -/
def pd : D → PyData
  | .non => .none
  | .bl b => .bool b
  | .int i => .int i
  | .str s => .str (sOf s)
  | .tup xs => .tuple (pds xs)
  | .lst _ xs => .list (pds xs)
  | _ => .none
def pds : List D → List PyData
  | [] => []
  | d :: ds => pd d :: pds ds
end
theorem dat_nx {n c : Nat} {fs : List D} (h : (D.exn c fs).dat n = true) : False := by
  cases n <;> simp [D.dat] at h
theorem dat_no {n : Nat} {a : D} (h : a.dat n = true) : (∀ ns, a ≠ .scr ns) ∧ (∀ o k v, a ≠ .dic o k v) ∧ ∀ o c k v, a ≠ .ins o c k v := by
  refine ⟨fun ns e => ?_, fun o k v e => ?_, fun o c k v e => ?_⟩ <;> subst e <;> cases n <;> simp [D.dat] at h
mutual
theorem pd_eqv : ∀ (n m : Nat) (a b : D), a.dat n = true → b.dat m = true → PyData.eqv (pd a) (pd b) = a.eqv b
  | n, m, .tup a, b, h, h' => by
    cases b with
    | tup b =>
      cases n <;> cases m <;> simp only [D.dat, Bool.false_eq_true] at h h'
      simp only [pd, PyData.eqv, D.eqv]
      exact pds_eqv _ _ a b h h'
    | scr ns => exact absurd rfl ((dat_no h').1 ns)
    | dic o k v => exact absurd rfl ((dat_no h').2.1 o k v)
    | ins o c k v => exact absurd rfl ((dat_no h').2.2 o c k v)
    | exn c fs => exact (dat_nx h').elim
    | _ => simp only [pd, PyData.eqv, D.eqv]
  | n, m, .lst _ a, b, h, h' => by
    cases b with
    | lst o b =>
      cases n <;> cases m <;> simp only [D.dat, Bool.false_eq_true] at h h'
      simp only [pd, PyData.eqv, D.eqv]
      exact pds_eqv _ _ a b h h'
    | scr ns => exact absurd rfl ((dat_no h').1 ns)
    | dic o k v => exact absurd rfl ((dat_no h').2.1 o k v)
    | ins o c k v => exact absurd rfl ((dat_no h').2.2 o c k v)
    | exn c fs => exact (dat_nx h').elim
    | _ => simp only [pd, PyData.eqv, D.eqv]
  | n, m, .str a, b, h, h' => by
    cases b with
    | str b =>
      simp only [pd, PyData.eqv, D.eqv, sOf]
      rw [Bool.eq_iff_iff]
      simp
    | scr ns => exact absurd rfl ((dat_no h').1 ns)
    | dic o k v => exact absurd rfl ((dat_no h').2.1 o k v)
    | ins o c k v => exact absurd rfl ((dat_no h').2.2 o c k v)
    | exn c fs => exact (dat_nx h').elim
    | _ => simp only [pd, PyData.eqv, D.eqv]
  | n, m, .non, b, h, h' => by
    cases b with
    | scr ns => exact absurd rfl ((dat_no h').1 ns)
    | dic o k v => exact absurd rfl ((dat_no h').2.1 o k v)
    | ins o c k v => exact absurd rfl ((dat_no h').2.2 o c k v)
    | exn c fs => exact (dat_nx h').elim
    | _ => simp only [pd, PyData.eqv, D.eqv]
  | n, m, .bl _, b, h, h' => by
    cases b with
    | scr ns => exact absurd rfl ((dat_no h').1 ns)
    | dic o k v => exact absurd rfl ((dat_no h').2.1 o k v)
    | ins o c k v => exact absurd rfl ((dat_no h').2.2 o c k v)
    | exn c fs => exact (dat_nx h').elim
    | _ => simp only [pd, PyData.eqv, D.eqv]
  | n, m, .int _, b, h, h' => by
    cases b with
    | scr ns => exact absurd rfl ((dat_no h').1 ns)
    | dic o k v => exact absurd rfl ((dat_no h').2.1 o k v)
    | ins o c k v => exact absurd rfl ((dat_no h').2.2 o c k v)
    | exn c fs => exact (dat_nx h').elim
    | _ => simp only [pd, PyData.eqv, D.eqv]
  | n, m, .scr ns, b, h, h' => absurd rfl ((dat_no h).1 ns)
  | n, m, .dic o k v, b, h, h' => absurd rfl ((dat_no h).2.1 o k v)
  | n, m, .ins o c k v, b, h, h' => absurd rfl ((dat_no h).2.2 o c k v)
  | n, m, .exn c fs, b, h, h' => (dat_nx h).elim
theorem pds_eqv : ∀ (n m : Nat) (a b : List D), dats n a = true → dats m b = true → PyData.eqvAll (pds a) (pds b) = eqvs a b
  | _, _, [], [], _, _ => by simp only [pds, PyData.eqvAll, eqvs]
  | _, _, [], _ :: _, _, _ => by simp only [pds, PyData.eqvAll, eqvs]
  | _, _, _ :: _, [], _, _ => by simp only [pds, PyData.eqvAll, eqvs]
  | n, m, a :: as, b :: bs, h, h' => by
    simp only [dats, Bool.and_eq_true] at h h'
    simp only [pds, PyData.eqvAll, eqvs]
    rw [pd_eqv n m a b h.1 h'.1, pds_eqv n m as bs h.2 h'.2]
end
mutual
theorem pd_lay : ∀ (n : Nat) (a : D), a.dat n = true → (pd a).canLay0 = true ∧ (pd a).depth ≤ n
  | n, .tup a, h => by
    cases n <;> simp only [D.dat, Bool.false_eq_true] at h
    have := pds_lay _ a h
    simp only [pd, PyData.canLay0, PyData.depth]
    exact ⟨this.1, by omega⟩
  | n, .lst _ a, h => by
    cases n <;> simp only [D.dat, Bool.false_eq_true] at h
    have := pds_lay _ a h
    simp only [pd, PyData.canLay0, PyData.depth]
    exact ⟨this.1, by omega⟩
  | n, .str a, h => by
    simp only [pd, PyData.canLay0, PyData.depth]
    refine ⟨?_, Nat.zero_le _⟩
    have h' : a.all (· < 1114112) = true := by cases n <;> simpa only [D.dat] using h
    show (sOf a).cps.all (· < 0x110000) = true
    simpa [sOf] using h'
  | n, .non, h => by simp [pd, PyData.canLay0, PyData.depth]
  | n, .bl _, h => by simp [pd, PyData.canLay0, PyData.depth]
  | n, .int _, h => by simp [pd, PyData.canLay0, PyData.depth]
  | n, .scr ns, h => absurd rfl ((dat_no h).1 ns)
  | n, .dic o k v, h => absurd rfl ((dat_no h).2.1 o k v)
  | n, .ins o c k v, h => absurd rfl ((dat_no h).2.2 o c k v)
  | n, .exn c fs, h => (dat_nx h).elim
theorem pds_lay : ∀ (n : Nat) (a : List D), dats n a = true → PyData.canLayAll0 (pds a) = true ∧ PyData.depthAll (pds a) ≤ n
  | _, [], _ => by simp [pds, PyData.canLayAll0, PyData.depthAll]
  | n, a :: as, h => by
    simp only [dats, Bool.and_eq_true] at h
    have h1 := pd_lay n a h.1
    have h2 := pds_lay n as h.2
    simp only [pds, PyData.canLayAll0, PyData.depthAll, Bool.and_eq_true]
    exact ⟨⟨h1.1, h2.1⟩, by omega⟩
end
theorem pd_shaped {a : D} (h : a.dat 60 = true) : SeqAt.shaped (pd a) = true := by
  have := pd_lay 60 a h
  show ((pd a).canLay0 && decide ((pd a).depth ≤ 64)) = true
  rw [this.1]
  simp
  omega
section
variable {G : GK} {H : Hp}
mutual
theorem Rep.dp {A : Ad} : ∀ (n : Nat) (d : D) (v : V) (O : Ad), d.dat n = true → Rep G H A d v O → Dp G.K H v (pd d)
  | n, .non, v, O, h, r => by
    simp only [Rep] at r; subst r; exact .non
  | n, .bl _, v, O, h, r => by
    simp only [Rep] at r; subst r; exact .bl _
  | n, .int _, v, O, h, r => by
    simp only [Rep] at r; subst r; exact .int _
  | n, .str _, v, O, h, r => by
    simp only [Rep] at r; subst r; exact .str _
  | n, .tup ds, v, O, h, r => by
    cases n <;> simp only [D.dat, Bool.false_eq_true] at h
    simp only [Rep] at r
    obtain ⟨a, vs, e, h1, h2⟩ := r
    subst e
    exact .tup h1 (Reps.dp _ ds vs no h h2)
  | n, .lst true ds, v, O, h, r => by
    cases n <;> simp only [D.dat, Bool.false_eq_true] at h
    simp only [Rep] at r
    obtain ⟨a, vs, O', e, h1, h2, h3, h4⟩ := r
    subst e
    exact .lst (.inl (.inl h1)) (Reps.dp _ ds vs O' h h4)
  | n, .lst false ds, v, O, h, r => by
    cases n <;> simp only [D.dat, Bool.false_eq_true] at h
    simp only [Rep] at r
    obtain ⟨a, vs, e, h1, h2, h3⟩ := r
    subst e
    exact .lst (.inl (.inl h1)) (Reps.dp _ ds vs no h h3)
  | n, .scr ns, v, O, h, r => absurd rfl ((dat_no h).1 ns)
  | n, .dic o k w, v, O, h, r => absurd rfl ((dat_no h).2.1 o k w)
  | n, .ins o c k w, v, O, h, r => absurd rfl ((dat_no h).2.2 o c k w)
  | n, .exn c fs, v, O, h, r => (dat_nx h).elim
theorem Reps.dp {A : Ad} : ∀ (n : Nat) (ds : List D) (vs : List V) (O : Ad), dats n ds = true → Reps G H A ds vs O → DpAll G.K H vs (pds ds)
  | _, [], _, _, _, r => by
    simp only [Reps] at r; subst r; exact .nil
  | n, d :: ds, _, O, h, r => by
    simp only [dats, Bool.and_eq_true] at h
    simp only [Reps] at r
    obtain ⟨v, vs', O1, O2, e, h1, h2, h3, h4, h5⟩ := r
    subst e
    exact .cons (Rep.dp n d v O1 h.1 h4) (Reps.dp n ds vs' O2 h.2 h5)
end
theorem Vw.dp {B : Ad} {d : D} {v : V} (h : d.dat 60 = true) (r : Vw G H B d v) : Dp G.K H v (pd d) := by
  cases d with
  | lst o ds =>
    obtain ⟨a, vs, e, h1, h2⟩ := r.lst
    subst e
    simp only [D.dat] at h
    exact .lst (.inl (.inl h1)) (Reps.dp _ ds vs no h h2)
  | scr ns => exact absurd rfl ((dat_no h).1 ns)
  | dic o k w => exact absurd rfl ((dat_no h).2.1 o k w)
  | ins o c k w => exact absurd rfl ((dat_no h).2.2 o c k w)
  | exn c fs => exact (dat_nx h).elim
  | non => exact Rep.dp (A := B) 60 _ v no h r
  | bl _ => exact Rep.dp (A := B) 60 _ v no h r
  | int _ => exact Rep.dp (A := B) 60 _ v no h r
  | str _ => exact Rep.dp (A := B) 60 _ v no h r
  | tup _ => exact Rep.dp (A := B) 60 _ v no h r
end
section
variable {G : GK} {X : Cx}
theorem or_eq (hK : X.K = G.K) (hu : X.A.units + 64 < cLine) : OpR X (compareOp .Eq) (r2 G fun a b => (cmpop .eq a b).map .bl) := by
  refine OpR.imp (op_eqD hu) ?_
  rintro x y H Q ⟨B, dx, dy, z, _, hx, hy, e, k⟩
  simp only [cmpop] at e
  split at e
  · rename_i h
    rw [Bool.and_eq_true] at h
    cases e
    refine ⟨pd dx, pd dy, by rw [hK]; exact hx.dp h.1, by rw [hK]; exact hy.dp h.2, pd_shaped h.1, pd_shaped h.2, ?_⟩
    rw [pd_eqv 60 60 dx dy h.1 h.2]
    exact k _ _ (Fresh.bl _)
  · cases e
theorem or_ne (hK : X.K = G.K) (hu : X.A.units + 64 < cLine) : OpR X (compareOp .NotEq) (r2 G fun a b => (cmpop .ne a b).map .bl) := by
  refine OpR.imp (op_neD hu) ?_
  rintro x y H Q ⟨B, dx, dy, z, _, hx, hy, e, k⟩
  simp only [cmpop] at e
  split at e
  · rename_i h
    rw [Bool.and_eq_true] at h
    cases e
    refine ⟨pd dx, pd dy, by rw [hK]; exact hx.dp h.1, by rw [hK]; exact hy.dp h.2, pd_shaped h.1, pd_shaped h.2, ?_⟩
    rw [pd_eqv 60 60 dx dy h.1 h.2]
    exact k _ _ (Fresh.bl _)
  · cases e
theorem any_eqv : ∀ (n m : Nat) (ds : List D) (x : D), dats n ds = true → x.dat m = true → ((pds ds).any fun y => PyData.eqv y (pd x)) = ds.any fun y => y.eqv x
  | _, _, [], _, _, _ => by simp [pds]
  | n, m, d :: ds, x, h, h' => by
    simp only [dats, Bool.and_eq_true] at h
    simp only [pds, List.any_cons]
    rw [pd_eqv n m d x h.1 h', any_eqv n m ds x h.2 h']
/-- in a list or a tuple of data -/
def rInS (K : PySem.W.Frag) (neg : Bool) : R2 := fun x y H Q => ∃ d ds, Dp K H x d ∧ (Dp K H y (.list ds) ∨ Dp K H y (.tuple ds)) ∧ SeqAt.shaped d = true ∧ PyData.canLayAll0 ds = true ∧ Q (.bl (if neg then !(ds.any fun z => PyData.eqv z d) else ds.any fun z => PyData.eqv z d)) H
theorem op_inS (hu : X.A.units + 65 < cLine) : OpR X (compareOp .In) (rInS X.K false) := by
  intro pins s σ H x y v u Q I rx ry h
  obtain ⟨d, ds, hd, he, sd, se, q⟩ := h
  obtain ⟨as, r1⟩ := Dp.reads I d x v hd rx
  rcases he with he | he
  · obtain ⟨bs, r2⟩ := Dp.reads I (.list ds) y u he ry
    exact SeqAt.in_list_reads r2 r1 se (SeqAt.canLay_of_shaped sd) (PyProof.Rows.room_in_shaped sd hu) ⟨.bl _, H, I, rfl, q⟩
  · obtain ⟨bs, r2⟩ := Dp.reads I (.tuple ds) y u he ry
    exact SeqAt.in_tuple_reads r2 r1 se (SeqAt.canLay_of_shaped sd) (PyProof.Rows.room_in_shaped sd hu) ⟨.bl _, H, I, rfl, q⟩
theorem op_notInS (hu : X.A.units + 65 < cLine) : OpR X (compareOp .NotIn) (rInS X.K true) := by
  intro pins s σ H x y v u Q I rx ry h
  obtain ⟨d, ds, hd, he, sd, se, q⟩ := h
  obtain ⟨as, r1⟩ := Dp.reads I d x v hd rx
  rcases he with he | he
  · obtain ⟨bs, r2⟩ := Dp.reads I (.list ds) y u he ry
    exact SeqAt.notIn_list_reads r2 r1 se (SeqAt.canLay_of_shaped sd) (PyProof.Rows.room_in_shaped sd hu) ⟨.bl _, H, I, rfl, q⟩
  · obtain ⟨bs, r2⟩ := Dp.reads I (.tuple ds) y u he ry
    exact SeqAt.notIn_tuple_reads r2 r1 se (SeqAt.canLay_of_shaped sd) (PyProof.Rows.room_in_shaped sd hu) ⟨.bl _, H, I, rfl, q⟩
def inSq (neg : Bool) : D → D → Option D
  | x, .lst _ xs => if x.dat 60 && dats 60 xs then some (.bl (if neg then !(xs.any fun y => y.eqv x) else xs.any fun y => y.eqv x)) else none
  | x, .tup xs => if x.dat 60 && dats 60 xs then some (.bl (if neg then !(xs.any fun y => y.eqv x) else xs.any fun y => y.eqv x)) else none
  | _, _ => none
def inSg (neg : Bool) : D → D → Option D
  | .str [c], .str s => some (.bl (if neg then !decide (c ∈ s) else decide (c ∈ s)))
  | _, _ => none
theorem inSq_r {neg : Bool} {x y : V} {H : Hp} {Q : VK} (h : r2 G (inSq neg) x y H Q) : rInS G.K neg x y H Q := by
  obtain ⟨B, dx, dy, z, _, hx, hy, e, k⟩ := h
  cases dy with
  | lst o xs =>
    simp only [inSq] at e
    split at e
    · rename_i h
      rw [Bool.and_eq_true] at h
      cases e
      obtain ⟨a, vs, ev, h1, h2⟩ := hy.lst
      subst ev
      refine ⟨pd dx, pds xs, hx.dp h.1, .inl (.lst (.inl (.inl h1)) (Reps.dp 60 xs vs no h.2 h2)), pd_shaped h.1, (pds_lay 60 xs h.2).1, ?_⟩
      rw [any_eqv 60 60 xs dx h.2 h.1]
      exact k _ _ (Fresh.bl _)
    · cases e
  | tup xs =>
    simp only [inSq] at e
    split at e
    · rename_i h
      rw [Bool.and_eq_true] at h
      cases e
      obtain ⟨a, vs, ev, h1, h2⟩ := hy.tup
      subst ev
      refine ⟨pd dx, pds xs, hx.dp h.1, .inr (.tup h1 (Reps.dp 60 xs vs no h.2 h2)), pd_shaped h.1, (pds_lay 60 xs h.2).1, ?_⟩
      rw [any_eqv 60 60 xs dx h.2 h.1]
      exact k _ _ (Fresh.bl _)
    · cases e
  | _ => simp [inSq] at e
theorem inSg_s {neg : Bool} {dx dy z : D} (e : inSg neg dx dy = some z) : ∃ c s, dx = .str [c] ∧ dy = .str s ∧ z = .bl (if neg then !decide (c ∈ s) else decide (c ∈ s)) := by
  unfold inSg at e
  split at e
  · cases e
    exact ⟨_, _, rfl, rfl, rfl⟩
  · cases e
theorem or_inSg : OpR X (compareOp .In) (r2 G (inSg false)) := by
  refine OpR.imp op_in_sign ?_
  rintro x y H Q ⟨B, dx, dy, z, _, hx, hy, e, k⟩
  obtain ⟨c, s, rfl, rfl, rfl⟩ := inSg_s e
  refine ⟨c, sOf s, hx.str, hy.str, ?_⟩
  have e : decide (c ∈ (sOf s).cps.toList) = decide (c ∈ s) := by rw [Bool.eq_iff_iff]; simp only [sOf, decide_eq_true_eq]; exact ⟨fun h => of_decide_eq_true h, fun h => decide_eq_true h⟩
  rw [e]
  exact k _ _ (Fresh.bl _)
theorem or_ninSg : OpR X (compareOp .NotIn) (r2 G (inSg true)) := by
  refine OpR.imp op_notIn_sign ?_
  rintro x y H Q ⟨B, dx, dy, z, _, hx, hy, e, k⟩
  obtain ⟨c, s, rfl, rfl, rfl⟩ := inSg_s e
  refine ⟨c, sOf s, hx.str, hy.str, ?_⟩
  have e : decide (c ∈ (sOf s).cps.toList) = decide (c ∈ s) := by rw [Bool.eq_iff_iff]; simp only [sOf, decide_eq_true_eq]; exact ⟨fun h => of_decide_eq_true h, fun h => decide_eq_true h⟩
  rw [e]
  exact k _ _ (Fresh.bl _)
def inDg (neg : Bool) : D → D → Option D
  | x, .dic _ ks _ => if okKey x ks then some (.bl (if neg then !(ks.any fun y => y.eqv x) else ks.any fun y => y.eqv x)) else none
  | _, _ => none
theorem inDg_s {neg : Bool} {dx dy z : D} (e : inDg neg dx dy = some z) : ∃ o ks vs, dy = .dic o ks vs ∧ okKey dx ks = true ∧ z = .bl (if neg then !(ks.any fun y => y.eqv dx) else ks.any fun y => y.eqv dx) := by
  unfold inDg at e
  split at e
  · split at e
    · rename_i h; cases e; exact ⟨_, _, _, rfl, h, rfl⟩
    · cases e
  · cases e
theorem Vw.key {B : Ad} {d : D} {ks : List D} {v : V} (hd : okKey d ks = true) (h : Vw G H B d v) : Rep G H B d v no := by
  rcases okKey_s hd with ⟨hd, _⟩ | ⟨hd, _⟩
  · rcases key_shape hd with ⟨i, rfl⟩ | ⟨s, rfl⟩ <;> exact h
  · obtain ⟨ds, rfl⟩ := isTup_s hd
    exact Rep.noown (O := no) rfl h
theorem or_inDg (hK : X.K = G.K) (hw : X.w = G.w) (hu : X.A.units + 65 < cLine) : OpR X (compareOp .In) (r2 G (inDg false)) := by
  refine OpR.imp (op_dIn (by omega)) ?_
  rintro x y H Q ⟨B, dx, dy, z, _, hx, hy, e, k⟩
  obtain ⟨o, ks, vs, rfl, hk, rfl⟩ := inDg_s e
  obtain ⟨a, kv, ws, rfl, h1, h2, h3⟩ := hy
  obtain ⟨ov, g, hs, _⟩ := h1.get h2 h3 hk (hx.key hk)
  refine ⟨a, ov, rfl, by rw [hK, hw]; exact g, ?_⟩
  rw [hs]
  exact k _ _ (Fresh.bl _)
theorem or_ninDg (hK : X.K = G.K) (hw : X.w = G.w) (hu : X.A.units + 65 < cLine) : OpR X (compareOp .NotIn) (r2 G (inDg true)) := by
  refine OpR.imp (op_dNotIn (by omega)) ?_
  rintro x y H Q ⟨B, dx, dy, z, _, hx, hy, e, k⟩
  obtain ⟨o, ks, vs, rfl, hk, rfl⟩ := inDg_s e
  obtain ⟨a, kv, ws, rfl, h1, h2, h3⟩ := hy
  obtain ⟨ov, g, hs, _⟩ := h1.get h2 h3 hk (hx.key hk)
  refine ⟨a, ov, rfl, by rw [hK, hw]; exact g, ?_⟩
  rw [hs]
  exact k _ _ (Fresh.bl _)
theorem in_cases (a b z : D) (e : (cmpop .inn a b).map D.bl = some z) : inSq false a b = some z ∨ ((inSg false a b).or (inDg false a b)) = some z := by
  simp only [cmpop, inop] at e
  cases b <;> simp only [Option.map_none, reduceCtorEq] at e
  · split at e
    · exact .inr (by simpa [inSg] using e)
    · cases e
  · rename_i xs
    split at e
    · rename_i h; exact .inl (by simp only [inSq, h]; simpa using e)
    · cases e
  · rename_i o xs
    split at e
    · rename_i h; exact .inl (by simp only [inSq, h]; simpa using e)
    · cases e
  · split at e
    · rename_i h; exact .inr (by simp only [inDg, h]; cases a <;> simpa [inSg] using e)
    · cases e
theorem nin_cases (a b z : D) (e : (cmpop .nin a b).map D.bl = some z) : inSq true a b = some z ∨ ((inSg true a b).or (inDg true a b)) = some z := by
  simp only [cmpop, inop] at e
  cases b <;> simp only [Option.map_none, reduceCtorEq] at e
  · split at e
    · exact .inr (by simpa [inSg] using e)
    · cases e
  · rename_i xs
    split at e
    · rename_i h; exact .inl (by simp only [inSq, h]; simpa using e)
    · cases e
  · rename_i o xs
    split at e
    · rename_i h; exact .inl (by simp only [inSq, h]; simpa using e)
    · cases e
  · split at e
    · rename_i h; exact .inr (by simp only [inDg, h]; cases a <;> simpa [inSg] using e)
    · cases e
theorem or_in (hK : X.K = G.K) (hw : X.w = G.w) (hu : X.A.units + 65 < cLine) : OpR X (compareOp .In) (r2 G fun a b => (cmpop .inn a b).map .bl) :=
  or_cases (OpR.imp (op_inS hu) fun x y H Q h => by rw [hK]; exact inSq_r h) (or_cases or_inSg (or_inDg hK hw hu) fun a b z e => by cases h : inSg false a b <;> simp [h] at e <;> simp [e]) in_cases
theorem or_nin (hK : X.K = G.K) (hw : X.w = G.w) (hu : X.A.units + 65 < cLine) : OpR X (compareOp .NotIn) (r2 G fun a b => (cmpop .nin a b).map .bl) :=
  or_cases (OpR.imp (op_notInS hu) fun x y H Q h => by rw [hK]; exact inSq_r h) (or_cases or_ninSg (or_ninDg hK hw hu) fun a b z e => by cases h : inSg true a b <;> simp [h] at e <;> simp [e]) nin_cases
theorem Vw.isNon {B : Ad} {d : D} {v : V} (h : Vw G H B d v) : d.isNon = decide (v = .non) := by
  have aux : ∀ a, (false : Bool) = decide (V.ref a = V.non) := fun a => (decide_eq_false (by intro z; cases z)).symm
  cases d with
  | non => rw [h.non]; rfl
  | bl b => rw [h.bl]; rfl
  | int b => rw [h.int]; rfl
  | str b => rw [h.str]; rfl
  | tup b => obtain ⟨a, vs, e, _⟩ := h.tup; rw [e]; rfl
  | lst o b => obtain ⟨a, vs, e, _⟩ := h.lst; rw [e]; rfl
  | scr b => simp only [Vw, Rep] at h; obtain ⟨a, e, _⟩ := h; rw [e]; rfl
  | dic o k b => simp only [Vw] at h; obtain ⟨a, kv, vs, e, _⟩ := h; rw [e]; rfl
  | ins o c k b => simp only [Vw] at h; obtain ⟨a, vs, _, e, _⟩ := h; rw [e]; rfl
  | exn c b => simp only [Vw, Rep] at h; obtain ⟨a, _, e, _⟩ := h; rw [e]; rfl
def cmOf : CmpOp → Option Cm
  | .Eq => some .eq
  | .NotEq => some .ne
  | .Lt => some .lt
  | .LtE => some .le
  | .Gt => some .gt
  | .GtE => some .ge
  | .Is => some .isN
  | .IsNot => some .notN
  | .In => some .inn
  | .NotIn => some .nin
theorem cmp_cases {c : Cm} {g : Int → Int → Bool} (h1 : ∀ i j, cmpop c (.int i) (.int j) = some (g i j)) (hc : c = .lt ∨ c = .le ∨ c = .gt ∨ c = .ge) (a b z : D) (e : (cmpop c a b).map D.bl = some z) : onI (fun i j => some (.bl (g i j))) a b = some z ∨ tcmp c a b = some z := by
  cases a <;> cases b <;> first | (left; rw [h1] at e; exact e) | (right; rcases hc with rfl | rfl | rfl | rfl <;> exact e) | (exfalso; rcases hc with rfl | rfl | rfl | rfl <;> simp [cmpop] at e)
def isNg (neg : Bool) : D → D → Option D
  | a, .non => some (.bl (if neg then !a.isNon else a.isNon))
  | _, _ => none
def isBg (neg : Bool) : D → D → Option D
  | .bl a, .bl b => some (.bl (if neg then !decide (a = b) else decide (a = b)))
  | _, _ => none
theorem isg_cases (c : Cm) (neg : Bool) (hc : c = .isN ∧ neg = false ∨ c = .notN ∧ neg = true) (a b z : D) (e : (cmpop c a b).map D.bl = some z) : isNg neg a b = some z ∨ isBg neg a b = some z := by
  rcases hc with ⟨rfl, rfl⟩ | ⟨rfl, rfl⟩ <;> cases b <;> first | (left; simpa [cmpop, isNg] using e) | (right; cases a <;> simp [cmpop] at e; simp [isBg, ← e]; try rfl) | (simp [cmpop] at e)
theorem or_cmp (hK : X.K = G.K) (hw : X.w = G.w) (hu : X.A.units + 65 < cLine) {op : CmpOp} {c : Cm} (h : cmOf op = some c) : OpR X (compareOp op) (r2 G fun a b => (cmpop c a b).map .bl) := by
  cases op <;> simp only [cmOf, Option.some.injEq] at h <;> subst h
  · exact or_eq hK (by omega)
  · exact or_ne hK (by omega)
  · exact or_cases (or_bools op_lt) (op_tupLt hK (by omega)) (cmp_cases (fun i j => rfl) (by simp))
  · exact or_cases (or_bools op_le) (op_tupLe hK (by omega)) (cmp_cases (fun i j => rfl) (by simp))
  · exact or_cases (or_bools op_gt) (op_tupGt hK (by omega)) (cmp_cases (fun i j => rfl) (by simp))
  · exact or_cases (or_bools op_ge) (op_tupGe hK (by omega)) (cmp_cases (fun i j => rfl) (by simp))
  · refine or_cases (g1 := isNg false) (g2 := isBg false) ?_ ?_ (isg_cases .isN false (.inl ⟨rfl, rfl⟩))
    · refine OpR.imp op_isN ?_
      rintro x y H Q ⟨B, dx, dy, z, hB, hx, hy, e, k⟩
      cases dy <;> simp only [isNg, reduceCtorEq, Option.some.injEq] at e
      subst e
      refine ⟨hy.non, ?_⟩
      rw [← hx.isNon]
      exact k _ _ (Fresh.bl _)
    · refine OpR.imp op_isBl ?_
      rintro x y H Q ⟨B, dx, dy, z, hB, hx, hy, e, k⟩
      cases dx <;> cases dy <;> first | cases e | skip
      rename_i a b
      exact ⟨a, b, hx.bl, hy.bl, k _ _ (Fresh.bl _)⟩
  · refine or_cases (g1 := isNg true) (g2 := isBg true) ?_ ?_ (isg_cases .notN true (.inr ⟨rfl, rfl⟩))
    · refine OpR.imp op_notN ?_
      rintro x y H Q ⟨B, dx, dy, z, hB, hx, hy, e, k⟩
      cases dy <;> simp only [isNg, reduceCtorEq, Option.some.injEq] at e
      subst e
      refine ⟨hy.non, ?_⟩
      rw [← hx.isNon]
      exact k _ _ (Fresh.bl _)
    · refine OpR.imp op_notBl ?_
      rintro x y H Q ⟨B, dx, dy, z, hB, hx, hy, e, k⟩
      cases dx <;> cases dy <;> first | cases e | skip
      rename_i a b
      exact ⟨a, b, hx.bl, hy.bl, k _ _ (Fresh.bl _)⟩
  · exact or_in hK hw hu
  · exact or_nin hK hw hu
end
end LT
/-! LtI: expressions, one by one. -/
namespace LT
open PySem L2
section
variable {G : GK} {C : Fc} {W : WX} {X : Cx} {a b c : Expr} {sa sb sc : Bool} {eva evb evc : Env → R T} {pos : Pos}
theorem FR.top {σ : St} {tm : Tm} {env : Env} {H : Hp} {v : V} {d : D} (F : FR G C σ (tm ++ [(v, .val d)]) env H) : ∃ O O1, FRo G C σ (tm ++ [(v, .val d)]) env H O ∧ Rep G H (fun a => O a ∨ C.hid a) d v O1 := by
  obtain ⟨O, F⟩ := F
  have h := F.rep
  unfold ents at h
  rw [List.map_append, ← List.append_assoc] at h
  obtain ⟨P, Q, h1, ⟨O1, O2, g1, g2, g3, g4, g5⟩, h3, h4, h5⟩ := RepL.split h
  exact ⟨O, O1, F, g4⟩
theorem FR.int {σ : St} {tm : Tm} {env : Env} {H : Hp} {v : V} {i : Int} (F : FR G C σ (tm ++ [(v, .val (.int i))]) env H) : v = .int i := by
  obtain ⟨O, O1, _, r⟩ := F.top
  simpa [Rep] using r
theorem FR.bl {σ : St} {tm : Tm} {env : Env} {H : Hp} {v : V} {i : Bool} (F : FR G C σ (tm ++ [(v, .val (.bl i))]) env H) : v = .bl i := by
  obtain ⟨O, O1, _, r⟩ := F.top
  simpa [Rep] using r
/-- the first part of an expression -/
theorem tE_bind {smp : Bool} {k : T → Env → R T} {σ : St} {H : Hp} {Q Q' : VK} (hs : smp = true → sa = true) (h : tE G C W smp (fun e => (eva e).bind k) σ H Q)
    (hQ : ∀ tm v t env H1, FR G C σ (tm ++ [(v, t)]) env H1 → (smp = false → Roots tm) → (smp = true → Same H H1) → Done G C W smp σ tm H Q (k t env) → Q' v H1) : tE G C W sa eva σ H Q' := by
  obtain ⟨tm, env, F, hr, h⟩ := h
  dsimp only at h
  have hr' : sa = false → Roots tm := fun e => hr (by cases smp with | false => rfl | true => rw [hs rfl] at e; cases e)
  refine ⟨tm, env, F, hr', ?_⟩
  cases ea : eva env with
  | err => rw [ea] at h; exact h
  | exc x env1 => rw [ea] at h; exact h
  | ok t env1 =>
    rw [ea] at h
    simp only [R.bind_ok] at h
    intro v H1 F1 s1
    exact hQ tm v t env1 H1 F1 hr (fun e => s1 (hs e)) h
/-- a scalar in its place -/
theorem Done.scal {smp : Bool} {σ : St} {tm : Tm} {H H1 : Hp} {Q : VK} {t : T} {env : Env} {v w : V} {d : D} (F : FR G C σ (tm ++ [(v, t)]) env H1) (s : smp = true → Same H H1) (k : Done G C W smp σ tm H Q (.ok (.val d) env)) (hd : d.own = false) (r : ∀ A, Rep G H1 A d w no) : Q w H1 := by
  obtain ⟨O, F⟩ := F.pop
  exact k w H1 ⟨O, F.push0 (fun _ _ z => z) hd (r _)⟩ s
theorem se_neg (ha : PE X a (tE G C W sa eva)) : PE X (.UnaryOp .USub a pos) (tE G C W sa (fun e => (eva e).bind negT)) := by
  refine PE.mono (pe_un un_neg ha) fun σ H Q h => ?_
  refine tE_bind id h fun tm v t env H1 F hr s k => ?_
  unfold negT at k
  cases t with
  | ref i p => exact k.elim
  | val d => cases d with
    | int i =>
      refine ⟨i, F.int, ?_⟩
      exact Done.scal F s k rfl fun A => rfl
    | _ => exact k.elim
theorem se_not (ha : PE X a (tE G C W sa eva)) : PE X (.UnaryOp .Not a pos) (tE G C W sa (fun e => (eva e).bind notT)) := by
  refine PE.mono (pe_not ha) fun σ H Q h => ?_
  refine tE_bind id h fun tm v t env H1 F hr s k => ?_
  unfold notT at k
  cases t with
  | ref i p => exact k.elim
  | val d => cases d with
    | bl i =>
      refine ⟨i, F.bl, ?_⟩
      exact Done.scal F s k rfl fun A => rfl
    | _ => exact k.elim
theorem se_cmp (hK : X.K = G.K) (hw : X.w = G.w) (hu : X.A.units + 65 < cLine) {op : CmpOp} {c : Cm} (h : cmOf op = some c) (hm : behindInMarks op b = false) (ha : PE X a (tE G C W sa eva)) (hb : PE X b (tE G C W sb evb)) :
    PE X (.Compare a [op] [b] pos) (tE G C W (sa && sb) (fun e => (eva e).bind fun t e => if t.root || sb then (evb e).bind fun u e => (rs t e).bind fun x e => (rs u e).bind fun y e => (R.of ((cmpop c x y).map .bl) e).bind fun z e => .ok (.val z) e else .err)) :=
  PE.mono (pe_cmpR (or_cmp hK hw hu h) ha hb hm) (tE_op2 (g := fun x y => (cmpop c x y).map .bl))
theorem se_and {rest : List Expr} (ha : PE X a (tE G C W sa eva)) (hb : PE X (.BoolOp .And (b :: rest) pos) (tE G C W sb evb)) :
    PE X (.BoolOp .And (a :: b :: rest) pos) (tE G C W (sa && sb) (fun e => (eva e).bind fun t e => match bool1 t with
      | some true => evb e
      | some false => .ok (.val (.bl false)) e
      | none => .err)) := by
  refine PE.mono (pe_and ha hb) fun σ H Q h => ?_
  refine tE_bind (fun e => (Bool.and_eq_true_iff.mp e).1) h fun tm v t env H1 F hr s k => ?_
  cases t with
  | ref i p => exact k.elim
  | val d => cases d with
    | bl i =>
      refine ⟨i, F.bl, ?_⟩
      cases i with
      | false =>
        rw [if_neg (by decide)]
        exact Done.scal F s k rfl fun A => rfl
      | true =>
        rw [if_pos rfl]
        refine ⟨tm, env, F.pop, fun e => hr (by rw [e]; simp), ?_⟩
        simp only [bool1] at k
        cases eb : evb env with
        | err => rw [eb] at k; exact k
        | exc x e' => rw [eb] at k; exact k
        | ok t e' =>
          rw [eb] at k
          exact fun w H2 F2 s2 => k w H2 F2 fun e => (s e).trans (s2 (Bool.and_eq_true_iff.mp e).2)
    | _ => exact k.elim
theorem se_or {rest : List Expr} (ha : PE X a (tE G C W sa eva)) (hb : PE X (.BoolOp .Or (b :: rest) pos) (tE G C W sb evb)) :
    PE X (.BoolOp .Or (a :: b :: rest) pos) (tE G C W (sa && sb) (fun e => (eva e).bind fun t e => match bool1 t with
      | some true => .ok (.val (.bl true)) e
      | some false => evb e
      | none => .err)) := by
  refine PE.mono (pe_or ha hb) fun σ H Q h => ?_
  refine tE_bind (fun e => (Bool.and_eq_true_iff.mp e).1) h fun tm v t env H1 F hr s k => ?_
  cases t with
  | ref i p => exact k.elim
  | val d => cases d with
    | bl i =>
      refine ⟨i, F.bl, ?_⟩
      cases i with
      | true =>
        rw [if_pos rfl]
        exact Done.scal F s k rfl fun A => rfl
      | false =>
        rw [if_neg (by decide)]
        refine ⟨tm, env, F.pop, fun e => hr (by rw [e]; simp), ?_⟩
        simp only [bool1] at k
        cases eb : evb env with
        | err => rw [eb] at k; exact k
        | exc x e' => rw [eb] at k; exact k
        | ok t e' =>
          rw [eb] at k
          exact fun w H2 F2 s2 => k w H2 F2 fun e => (s e).trans (s2 (Bool.and_eq_true_iff.mp e).2)
    | _ => exact k.elim
/-- weaker about what is written -/
theorem tE_weak {s s' : Bool} {ev : Env → R T} {σ : St} {H : Hp} {Q : VK} (h : tE G C W s ev σ H Q) (hs : s = true → s' = true) (hr : s' = false → ∀ tm env, FR G C σ tm env H → Roots tm) : True := trivial

/-! ### tests -/
def DoneB (G : GK) (C : Fc) (W : WX) (smp : Bool) (σ : St) (tm : Tm) (H : Hp) (Q : Bool → Hp → Prop) : R Bool → Prop
  | .ok b env => ∀ H', FR G C σ tm env H' → (smp = true → Same H H') → Q b H'
  | .exc x env => ∀ cls dx H', G.XR x cls dx H' → FR G C σ tm env H' → W cls dx σ H'
  | .err => False
def tT (G : GK) (C : Fc) (W : WX) (smp : Bool) (ev : Env → R Bool) : TT := fun σ H Q => ∃ tm env, FR G C σ tm env H ∧ (smp = false → Roots tm) ∧ DoneB G C W smp σ tm H Q (ev env)
/-- a value as a test -/
def asT (ev : Env → R T) : Env → R Bool := fun e => (ev e).bind fun t e => match bool1 t with
  | some b => .ok b e
  | none => .err
theorem tT_val {σ : St} {H : Hp} {Q : Bool → Hp → Prop} (h : tT G C W sa (asT eva) σ H Q) : tE G C W sa eva σ H fun x H1 => ∃ c, x = .bl c ∧ Q c H1 := by
  obtain ⟨tm, env, F, hr, h⟩ := h
  refine ⟨tm, env, F, hr, ?_⟩
  unfold asT at h
  cases ea : eva env with
  | err => rw [ea] at h; exact h
  | exc x env1 => rw [ea] at h; exact h
  | ok t env1 =>
    rw [ea] at h
    simp only [R.bind_ok] at h
    intro v H1 F1 s1
    cases t with
    | ref i p => exact h.elim
    | val d => cases d with
      | bl i => exact ⟨i, F1.bl, h H1 F1.pop s1⟩
      | _ => exact h.elim
theorem st_val (ha : PE X a (tE G C W sa eva)) (he : ∀ whole, isTrue a X.env whole = (do let v ← whole; standAt a.pos; holding [v] (truthy v))) : PT X a (tT G C W sa (asT eva)) :=
  PT.mono (pt_val ha he) fun _ _ _ h => tT_val h
theorem st_cmp (hK : X.K = G.K) (hw : X.w = G.w) (hu : X.A.units + 65 < cLine) {op : CmpOp} {c : Cm} (h : cmOf op = some c) (hm : behindInMarks op b = false) (ha : PE X a (tE G C W sa eva)) (hb : PE X b (tE G C W sb evb)) :
    PT X (.Compare a [op] [b] pos) (tT G C W (sa && sb) (asT fun e => (eva e).bind fun t e => if t.root || sb then (evb e).bind fun u e => (rs t e).bind fun x e => (rs u e).bind fun y e => (R.of ((cmpop c x y).map .bl) e).bind fun z e => .ok (.val z) e else .err)) :=
  PT.mono (pt_cmpR (or_cmp hK hw hu h) ha hb hm) fun σ H Q h => tE_op2 (g := fun x y => (cmpop c x y).map .bl) σ H _ (tT_val h)
def thenB (f g : Env → R Bool) : Env → R Bool := fun e => (f e).bind fun b e => if b = true then g e else .ok false e
def elseB (f g : Env → R Bool) : Env → R Bool := fun e => (f e).bind fun b e => if b = true then .ok true e else g e
variable {ta tb : Env → R Bool}
theorem st_not (ha : PT X a (tT G C W sa ta)) : PT X (.UnaryOp .Not a pos) (tT G C W sa (fun e => (ta e).bind fun b e => .ok (!b) e)) := by
  refine PT.mono (pt_not ha) fun σ H Q ⟨tm, env, F, hr, h⟩ => ⟨tm, env, F, hr, ?_⟩
  dsimp only at h
  cases ea : ta env with
  | err => rw [ea] at h; exact h
  | exc x env1 => rw [ea] at h; exact h
  | ok t env1 => rw [ea] at h; exact h
theorem st_and {rest : List Expr} (ha : PT X a (tT G C W sa ta)) (hb : PW X (.BoolOp .And (b :: rest) pos) (tT G C W sb tb)) : PW X (.BoolOp .And (a :: b :: rest) pos) (tT G C W (sa && sb) (thenB ta tb)) := by
  have m : ∀ σ H Q, tT G C W (sa && sb) (thenB ta tb) σ H Q → tAnd (tT G C W sa ta) (tT G C W sb tb) σ H Q := by
    rintro σ H Q ⟨tm, env, F, hr, h⟩
    refine ⟨tm, env, F, fun e => hr (by rw [e]; rfl), ?_⟩
    unfold thenB at h
    cases ea : ta env with
    | err => rw [ea] at h; exact h
    | exc x env1 => rw [ea] at h; exact h
    | ok t env1 =>
      rw [ea] at h
      simp only [R.bind_ok] at h
      intro H1 F1 s1
      cases t with
      | false =>
        rw [if_neg (by decide)] at h ⊢
        exact h H1 F1 fun e => s1 (Bool.and_eq_true_iff.mp e).1
      | true =>
        rw [if_pos rfl] at h ⊢
        refine ⟨tm, env1, F1, fun e => hr (by rw [e]; simp), ?_⟩
        cases eb : tb env1 with
        | err => rw [eb] at h; exact h
        | exc x e' => rw [eb] at h; exact h
        | ok t e' =>
          rw [eb] at h
          exact fun H2 F2 s2 => h H2 F2 fun e => (s1 (Bool.and_eq_true_iff.mp e).1).trans (s2 (Bool.and_eq_true_iff.mp e).2)
  exact ⟨fun wh pins s σ H Q I h => (pw_and ha hb).run wh pins s σ H Q I (m σ H Q h)⟩
theorem st_or {rest : List Expr} (ha : PT X a (tT G C W sa ta)) (hb : PW X (.BoolOp .Or (b :: rest) pos) (tT G C W sb tb)) : PW X (.BoolOp .Or (a :: b :: rest) pos) (tT G C W (sa && sb) (elseB ta tb)) := by
  have m : ∀ σ H Q, tT G C W (sa && sb) (elseB ta tb) σ H Q → tOr (tT G C W sa ta) (tT G C W sb tb) σ H Q := by
    rintro σ H Q ⟨tm, env, F, hr, h⟩
    refine ⟨tm, env, F, fun e => hr (by rw [e]; rfl), ?_⟩
    unfold elseB at h
    cases ea : ta env with
    | err => rw [ea] at h; exact h
    | exc x env1 => rw [ea] at h; exact h
    | ok t env1 =>
      rw [ea] at h
      simp only [R.bind_ok] at h
      intro H1 F1 s1
      cases t with
      | true =>
        rw [if_pos rfl] at h ⊢
        exact h H1 F1 fun e => s1 (Bool.and_eq_true_iff.mp e).1
      | false =>
        rw [if_neg (by decide)] at h ⊢
        refine ⟨tm, env1, F1, fun e => hr (by rw [e]; simp), ?_⟩
        cases eb : tb env1 with
        | err => rw [eb] at h; exact h
        | exc x e' => rw [eb] at h; exact h
        | ok t e' =>
          rw [eb] at h
          exact fun H2 F2 s2 => h H2 F2 fun e => (s1 (Bool.and_eq_true_iff.mp e).1).trans (s2 (Bool.and_eq_true_iff.mp e).2)
  exact ⟨fun wh pins s σ H Q I h => (pw_or ha hb).run wh pins s σ H Q I (m σ H Q h)⟩
theorem se_ite {st : Bool} (ht : PT X c (tT G C W st (asT evc))) (ha : PE X a (tE G C W sa eva)) (hb : PE X b (tE G C W sb evb)) : PE X (.IfExp c a b pos) (tE G C W false (fun e => (evc e).bind fun t e => match bool1 t with
    | some true => eva e
    | some false => evb e
    | none => .err)) := by
  refine PE.mono (pe_ifExp ht ha hb) fun σ H Q ⟨tm, env, F, hr, h⟩ => ?_
  refine ⟨tm, env, F, fun _ => hr rfl, ?_⟩
  dsimp only at h
  unfold asT
  cases ea : evc env with
  | err => rw [ea] at h; exact h
  | exc x env1 => rw [ea] at h; exact h
  | ok t env1 =>
    rw [ea] at h
    simp only [R.bind_ok] at h ⊢
    cases t with
    | ref i p => exact h.elim
    | val d => cases d with
      | bl i =>
        cases i with
        | true =>
          intro H1 F1 s1
          rw [if_pos rfl]
          refine ⟨tm, env1, F1, fun _ => hr rfl, ?_⟩
          simp only [bool1] at h
          cases eb : eva env1 with
          | err => rw [eb] at h; exact h
          | exc x e' => rw [eb] at h; exact h
          | ok t e' => rw [eb] at h; exact fun w H2 F2 s2 => h w H2 F2 fun e => by cases e
        | false =>
          intro H1 F1 s1
          rw [if_neg (by decide)]
          refine ⟨tm, env1, F1, fun _ => hr rfl, ?_⟩
          simp only [bool1] at h
          cases eb : evb env1 with
          | err => rw [eb] at h; exact h
          | exc x e' => rw [eb] at h; exact h
          | ok t e' => rw [eb] at h; exact fun w H2 F2 s2 => h w H2 F2 fun e => by cases e
      | _ => exact h.elim
end
end LT
/-! LtJ: arguments, builtins, items. -/
namespace LT
open PySem L2
def Vws (G : GK) (H : Hp) (B : Ad) : List D → List V → Prop
  | [], vs => vs = []
  | d :: ds, vs => ∃ v vs', vs = v :: vs' ∧ Vw G H B d v ∧ Vws G H B ds vs'
theorem Vws.mono {G : GK} {H : Hp} {B B' : Ad} (m : ∀ a, B' a → B a) : ∀ {ds : List D} {vs : List V}, Vws G H B ds vs → Vws G H B' ds vs
  | [], _, h => h
  | d :: ds, _, ⟨v, vs', e, h1, h2⟩ => ⟨v, vs', e, h1.mono m, Vws.mono m h2⟩
def rB (G : GK) (g : List D → Option D) : List V → Hp → VK → Prop := fun xs H Q => ∃ B ds z, (∀ a, H a = none → ¬ B a) ∧ Vws G H B ds xs ∧ g ds = some z ∧ ∀ v H', Fresh G H H' B z v → Q v H'
section
variable {G : GK} {C : Fc} {W : WX} {X : Cx} {a b c : Expr} {sa sb sc : Bool} {eva evb evc : Env → R T} {pos : Pos} {σ : St} {tm : Tm} {env : Env} {H : Hp} {O : Ad}
theorem FRo.rsL : ∀ {ts : List T} {vs : List V} {ds : List D} {env e' : Env} {O : Ad}, vs.length = ts.length → FRo G C σ (tm ++ vs.zip ts) env H O → LT.rsL ts env = .ok ds e' → ∃ O', (∀ a, O' a → O a) ∧ FRo G C σ tm e' H O' ∧ Vws G H (fun a => O' a ∨ C.hid a) ds vs
  | [], vs, ds, env, e', O, hl, F, h => by
    simp only [LT.rsL, R.ok.injEq] at h
    obtain ⟨rfl, rfl⟩ := h
    obtain rfl : vs = [] := List.length_eq_zero_iff.mp hl
    exact ⟨O, fun _ z => z, by simpa using F, rfl⟩
  | t :: ts, [], ds, env, e', O, hl, F, h => by simp at hl
  | t :: ts, v :: vs, ds, env, e', O, hl, F, h => by
    simp only [LT.rsL] at h
    cases e1 : LT.rs t env with
    | err => rw [e1] at h; cases h
    | exc x e => exact (rs_noexc e1).elim
    | ok d e2 =>
      rw [e1] at h
      simp only [R.bind_ok] at h
      cases e3 : LT.rsL ts e2 with
      | err => rw [e3] at h; cases h
      | exc x e => rw [e3] at h; cases h
      | ok ds' e4 =>
        rw [e3] at h
        simp only [R.bind_ok, R.ok.injEq] at h
        obtain ⟨rfl, rfl⟩ := h
        rw [List.zip_cons_cons] at F
        obtain ⟨O1, m1, F1, v1⟩ := F.rs e1
        obtain ⟨O2, m2, F2, v2⟩ := FRo.rsL (by simpa using hl) F1 e3
        exact ⟨O2, fun a z => m1 a (m2 a z), F2, v, vs, rfl, v1.mono fun a z => z.elim (fun z => .inl (m2 a z)) .inr, v2⟩
theorem rsL_noexc : ∀ {ts : List T} {e e' : Env} {x : D}, LT.rsL ts e = .exc x e' → False
  | [], e, e', x, h => by cases h
  | t :: ts, e, e', x, h => by
    simp only [LT.rsL] at h
    cases e1 : LT.rs t e with
    | err => rw [e1] at h; cases h
    | exc y e2 => exact rs_noexc e1
    | ok d e2 =>
      rw [e1] at h
      simp only [R.bind_ok] at h
      cases e3 : LT.rsL ts e2 with
      | err => rw [e3] at h; cases h
      | exc y e4 => exact rsL_noexc e3
      | ok ds' e4 => rw [e3] at h; cases h
theorem tE_bi {g : List D → Option D} {evas : Env → R (List T)} (σ : St) (H : Hp) (Q : VK) (h : tE G C W sa (fun e => (evas e).bind fun ts e => (rsL ts e).bind fun ds e => (R.of (g ds) e).bind fun z e => .ok (.val z) e) σ H Q) :
    tCB (rB G g) (tEs G C W sa evas) σ H Q := by
  obtain ⟨tm, env, F, hr, h⟩ := h
  refine ⟨tm, env, F, hr, ?_⟩
  dsimp only at h
  cases ea : evas env with
  | err => rw [ea] at h; exact h
  | exc x env1 => rw [ea] at h; exact h
  | ok ts env1 =>
    rw [ea] at h
    simp only [R.bind_ok] at h
    intro vs H1 hl ⟨O1, F1⟩ s1
    cases e1 : rsL ts env1 with
    | err => rw [e1] at h; exact h.elim
    | exc x e => exact (rsL_noexc e1).elim
    | ok ds env2 =>
      rw [e1] at h
      simp only [R.bind_ok] at h
      obtain ⟨O2, m2, F2, v2⟩ := FRo.rsL hl F1 e1
      cases e3 : g ds with
      | none => rw [e3] at h; exact h.elim
      | some z =>
        rw [e3] at h
        simp only [R.of_some, R.bind_ok] at h
        exact ⟨_, ds, z, F2.bad, v2, e3, fun v H3 fr => h v H3 (F2.fresh fr) fun sm => (s1 sm).trans fr.1⟩
/-- arguments -/
theorem sa_nil : PA X [] (tEs G C W true (fun e => .ok [] e)) := by
  refine PA.mono pa_nil fun σ H Q ⟨tm, env, F, hr, k⟩ => ?_
  exact k [] H rfl (by simpa using F) fun _ => Same.refl H
theorem sa_cons {e : Expr} {es : List Expr} {evs : Env → R (List T)} (ha : PE X e (tE G C W sa eva)) (hs : PA X es (tEs G C W sb evs)) (hst : starEach (e :: es) X.env = (false, eval e X.env) :: starEach es X.env) :
    PA X (e :: es) (tEs G C W (sa && sb) (fun e => (eva e).bind fun t e => if t.root || sb then (evs e).bind fun ts e => .ok (t :: ts) e else .err)) := by
  refine PA.mono (pa_cons ha hs hst) fun σ H Q ⟨tm, env, F, hr, h⟩ => ?_
  refine ⟨tm, env, F, fun e => hr (by rw [e]; rfl), ?_⟩
  dsimp only at h
  cases ea : eva env with
  | err => rw [ea] at h; exact h
  | exc x env1 => rw [ea] at h; exact h
  | ok t env1 =>
    rw [ea] at h
    simp only [R.bind_ok] at h
    intro x H1 F1 s1
    by_cases hc : (t.root || sb) = true
    · rw [if_pos hc] at h
      refine ⟨tm ++ [(x, t)], env1, F1, fun e => (hr (by rw [e]; simp)).val (by rw [e] at hc; simpa using hc), ?_⟩
      cases eb : evs env1 with
      | err => rw [eb] at h; exact h
      | exc x env2 =>
        rw [eb] at h
        intro cls dx H2 xr F2
        exact h cls dx H2 xr F2.pop
      | ok ts env2 =>
        rw [eb] at h
        simp only [R.bind_ok] at h
        intro vs H2 hl F2 s2
        refine h (x :: vs) H2 (by simpa using hl) (by rw [List.append_assoc] at F2; simpa using F2) fun e => (s1 (Bool.and_eq_true_iff.mp e).1).trans (s2 (Bool.and_eq_true_iff.mp e).2)
    · rw [if_neg hc] at h
      exact h.elim
/-- what is looked at -/
theorem FRo.look {v : V} {t : T} {d : D} (F : FRo G C σ (tm ++ [(v, t)]) env H O) (h : peek t env = some d) : ∃ O1, (∀ a, O1 a → O a) ∧ Rep G H (fun a => O a ∨ C.hid a) d v O1 := by
  cases t with
  | val d₀ =>
    cases h
    obtain ⟨O1, O', h1, h2, h3, r, F'⟩ := FRo.take (tm₂ := []) F
    exact ⟨O1, h1, r⟩
  | ref i p =>
    obtain ⟨w, O1, R, _, u, h1, _, _, r, _⟩ := F.alter (show env.at i p = some d from h)
    have pv := F.refs v i p (List.mem_append_right _ List.mem_cons_self)
    obtain rfl := u v pv
    exact ⟨O1, h1, r⟩
theorem Rep.isLst {A : Ad} {o : Bool} {ds : List D} {v : V} {O : Ad} (h : Rep G H A (.lst o ds) v O) : ∃ a vs O', v = .ref a ∧ H a = some (.lst vs) ∧ (∀ x, O' x → O x) ∧ Reps G H A ds vs O' := by
  cases o with
  | true =>
    simp only [Rep] at h
    obtain ⟨a, vs, O', e, h1, h2, h3, h4⟩ := h
    exact ⟨a, vs, O', e, h1, fun x z => (h3 x z).1, h4⟩
  | false =>
    simp only [Rep] at h
    obtain ⟨a, vs, e, h1, h2, h3⟩ := h
    exact ⟨a, vs, no, e, h1, fun _ z => z.elim, h3⟩
theorem lenV_of {A : Ad} {d : D} {v : V} {n : Nat} (h : lenD d = some n) (hd : ∀ o k w, d ≠ .dic o k w) (r : Rep G H A d v O) : LenV G.K v H n := by
  cases d with
  | str s =>
    simp only [lenD] at h
    split at h
    · rename_i hl
      cases h
      simp only [Rep] at r
      subst r
      exact ⟨by rw [sOf_len, ← sizeL_eq]; exact hl, (sOf_len s).symm⟩
    · cases h
  | lst o ds =>
    cases h
    obtain ⟨a, vs, O', e, h1, _, h2⟩ := r.isLst
    subst e
    exact .inl ⟨vs, .inl (.inl h1), h2.length⟩
  | tup ds =>
    cases h
    simp only [Rep] at r
    obtain ⟨a, vs, e, h1, h2⟩ := r
    subst e
    exact .inr ⟨vs, h1, h2.length⟩
  | scr ns =>
    cases h
    simp only [Rep] at r
    obtain ⟨a, e, h1⟩ := r
    subst e
    exact .inl ⟨_, h1.sq, by simp⟩
  | dic o k w => exact absurd rfl (hd o k w)
  | _ => cases h
theorem se_len {x : Str} {p : Pos} (hK : X.K = G.K) (hx : x = ("len" : Str)) (hg : Gl X x) (hm : X.mg x = none) (he : starEach [a] X.env = (false, eval a X.env) :: starEach [] X.env) (ha : PE X a (tE G C W sa eva)) : PE X (.Call (.Name x p) [a] [] pos) (tE G C W sa (fun e => (eva e).bind lenT)) := by
  subst hx
  refine PE.mono (pe_callB call_len hg hm boot_len (pa_cons ha pa_nil he) (by decide) (by decide) he (by rfl)) fun σ H Q h => ?_
  refine tE_bind id h fun tm v t env H1 F hr s k => ?_
  unfold lenT at k
  cases ed : peek t env with
  | none => rw [ed] at k; exact k.elim
  | some d =>
    rw [ed] at k
    simp only [Option.bind_some] at k
    obtain ⟨O, F⟩ := F
    obtain ⟨O1, _, r⟩ := F.look ed
    cases en : lenD d with
    | none => rw [en] at k; exact k.elim
    | some n =>
      rw [en] at k
      cases d with
      | dic o ks ws => cases en
      | _ => exact ⟨_, n, rfl, by rw [hK]; exact lenV_of en (fun _ _ _ z => by cases z) r, Done.scal ⟨O, F⟩ s k rfl fun A => rfl⟩
theorem ixN_of {n : Nat} {i : Int} : ixN n i = ixOf n i := rfl
theorem FRo.kidL {x : V} {t : T} {o : Bool} {ds : List D} {n : Nat} {d : D} (F : FRo G C σ (tm ++ [(x, t)]) env H O) (h : peek t env = some (.lst o ds)) (hn : ds[n]? = some d) : ∃ a vs v, x = .ref a ∧ H a = some (.lst vs) ∧ vs[n]? = some v ∧ ds.length = vs.length ∧
    FR G C σ (tm ++ [(v, kidT t (.ix n) d)]) env H := by
  unfold kidT
  by_cases hd : d.own = true
  · rw [if_pos hd]
    cases t with
    | val d₀ =>
      cases h
      obtain ⟨O1, O', h1, h2, h3, r, F'⟩ := FRo.take (tm₂ := []) F
      rw [List.append_nil] at F'
      obtain ⟨a, vs, P, e, g1, g2, g3⟩ := Rep.isLst (show Rep G H _ (.lst o ds) x O1 from r)
      obtain ⟨v, P1, g4, g5, g6⟩ := g3.get hn
      refine ⟨a, vs, v, e, g1, g4, g3.length, O', F'.push0 (fun _ _ z => z) (own_frz d) (O1 := no) ?_⟩
      exact Rep.frz (fun a z => .inl (z.elim (fun z => .inl (h2 a z)) .inr)) d v P1 (fun a z q => q.elim (h3 a (g2 a (g5 a z))) (F.hidO a (h1 a (g2 a (g5 a z))))) g6 no
    | ref i p =>
      have pv := F.refs x i p (List.mem_append_right _ List.mem_cons_self)
      obtain ⟨O1, h1, r⟩ := F.look h
      obtain ⟨a, vs, P, e, g1, g2, g3⟩ := r.isLst
      obtain ⟨v, P1, g4, g5, g6⟩ := g3.get hn
      obtain ⟨v₀, q1, q2⟩ := pv
      exact ⟨a, vs, v, e, g1, g4, g3.length, O, F.pop.pushRef ⟨v₀, q1, AtV.snoc q2 e g1 g4⟩⟩
  · rw [if_neg hd]
    obtain ⟨O1, h1, r⟩ := F.look h
    obtain ⟨a, vs, P, e, g1, g2, g3⟩ := r.isLst
    obtain ⟨v, P1, g4, g5, g6⟩ := g3.get hn
    exact ⟨a, vs, v, e, g1, g4, g3.length, O, F.pop.push0 (fun _ _ z => z) (by simpa using hd) g6⟩
theorem idx_list {x : V} {t : T} {o : Bool} {ds : List D} {i : Int} {r : T} (hK : X.K = G.K) {smp : Bool} {H0 : Hp} {Q : VK} (F : FR G C σ (tm ++ [(x, t)]) env H) (h : peek t env = some (.lst o ds)) (hr : idxT t (.int i) env = some r) (s : smp = true → Same H0 H)
    (k : Done G C W smp σ tm H0 Q (.ok r env)) : rIxL X.K x (.int i) H Q := by
  unfold idxT at hr
  rw [h] at hr
  dsimp only at hr
  cases ei : ixOf ds.length i with
  | none => rw [ei] at hr; cases hr
  | some n =>
    rw [ei] at hr
    dsimp only at hr
    cases en : ds[n]? with
    | none => rw [en] at hr; cases hr
    | some d =>
      rw [en] at hr
      dsimp only at hr
      obtain ⟨O, F⟩ := F
      obtain ⟨a, vs, v, e, g1, g2, g3, F'⟩ := F.kidL h en
      refine ⟨a, vs, i, v, e, rfl, .inl (.inl g1), ?_, ?_⟩
      · unfold atI
        rw [ixN_of, ← g3, ei]
        exact g2
      · refine k v H ?_ s
        cases hr
        exact F'
theorem Rep.isDic {A : Ad} {o : Bool} {ks ds : List D} {v : V} {O : Ad} (h : Rep G H A (.dic o ks ds) v O) : ∃ a kv vs, v = .ref a ∧ DicAt G.w H a ks kv vs ∧ Reps G H A ks kv no ∧ Reps G H A ds vs no := by
  cases o with
  | true =>
    simp only [Rep] at h
    obtain ⟨a, kv, vs, e, h1, h2, h3, h4⟩ := h
    exact ⟨a, kv, vs, e, h1, h3, h4⟩
  | false =>
    simp only [Rep] at h
    obtain ⟨a, kv, vs, e, h1, h2, h3, h4⟩ := h
    exact ⟨a, kv, vs, e, h1, h3, h4⟩
theorem Rep.noown_of {A : Ad} {d : D} {v : V} (h : Rep G H A d v no) : d.own = false := by
  cases ho : d.own with
  | false => rfl
  | true =>
    obtain ⟨a, _, q⟩ := h.ref ho
    exact q.elim
theorem se_idx (hK : X.K = G.K) (hw : X.w = G.w) (hu : X.A.units + 65 < cLine) (hs : PlainIx b) (ha : PE X a (tE G C W sa eva)) (hb : PE X b (tE G C W sb evb)) : PE X (.Subscript a b pos) (tE G C W (sa && sb) (fun e => (eva e).bind fun t e => if t.root || sb then (evb e).bind fun u e => (match u with
    | .val k => match idxT t k e with
      | some r => .ok r e
      | none => .err
    | _ => .err) else .err)) := by
  refine PE.mono (pe_ix (ix_seq.or (ix_dict (by omega))) ha hb hs) fun σ H Q h => ?_
  obtain ⟨tm, env, F, hr, h⟩ := h
  dsimp only at h
  refine ⟨tm, env, F, fun e => hr (by rw [e]; rfl), ?_⟩
  cases ea : eva env with
  | err => rw [ea] at h; exact h
  | exc x env1 => rw [ea] at h; exact h
  | ok t env1 =>
    rw [ea] at h
    simp only [R.bind_ok] at h
    intro x H1 F1 s1
    by_cases hc : (t.root || sb) = true
    · rw [if_pos hc] at h
      refine ⟨tm ++ [(x, t)], env1, F1, fun e => (hr (by rw [e]; simp)).val (by rw [e] at hc; simpa using hc), ?_⟩
      cases eb : evb env1 with
      | err => rw [eb] at h; exact h
      | exc x env2 =>
        rw [eb] at h
        intro cls dx H2 xr F2
        exact h cls dx H2 xr F2.pop
      | ok u env2 =>
        rw [eb] at h
        simp only [R.bind_ok] at h
        intro y H2 F2 s2
        have ss : (sa && sb) = true → Same H H2 := fun e => (s1 (Bool.and_eq_true_iff.mp e).1).trans (s2 (Bool.and_eq_true_iff.mp e).2)
        cases u with
        | ref j q => exact h.elim
        | val kd =>
          dsimp only at h
          cases er : idxT t kd env2 with
          | none => rw [er] at h; exact h.elim
          | some r =>
            rw [er] at h
            dsimp only at h
            cases ep : peek t env2 with
            | none => unfold idxT at er; rw [ep] at er; cases er
            | some d =>
              by_cases hdic : ∃ o ks ws, d = .dic o ks ws
              · obtain ⟨o, ks, ws, rfl⟩ := hdic
                refine .inr ?_
                obtain ⟨O3, F2⟩ := F2
                obtain ⟨O1, r1⟩ : ∃ O1, Rep G H2 (fun a => O3 a ∨ C.hid a) (.dic o ks ws) x O1 := by
                  obtain ⟨O1, _, r1⟩ := FRo.look (show FRo G C σ (tm ++ [(x, t)]) env2 H2 O3 from F2.pop) ep
                  exact ⟨O1, r1⟩
                obtain ⟨P1, _, _, _, _, rk, _⟩ := FRo.take (tm₂ := []) F2
                obtain ⟨a, kv, vs, ex, g1, g2, g3⟩ := r1.isDic
                unfold idxT at er
                rw [ep] at er
                dsimp only at er
                split at er
                · rename_i hk
                  obtain ⟨ov, g4, _, g5⟩ := g1.get g2 g3 hk (show Rep G H2 _ kd y P1 from rk)
                  obtain ⟨dd, e1, rfl⟩ := Option.map_eq_some_iff.mp er
                  obtain ⟨v, rfl, rv⟩ := g5 dd e1
                  refine ⟨a, v, ex, by rw [hK, hw]; exact g4, ?_⟩
                  exact h v H2 ⟨O3, F2.pop.pop.push0 (fun _ _ z => z) rv.noown_of rv⟩ ss
                · cases er
              refine .inl ?_
              have F3 : FR G C σ (tm ++ [(x, t)]) env2 H2 := F2.pop
              have hi : (∃ i, kd = .int i) := by
                unfold idxT at er
                rw [ep] at er
                cases d <;> (cases kd <;> first | exact ⟨_, rfl⟩ | exact (hdic ⟨_, _, _, rfl⟩).elim | (simp at er))
              · obtain ⟨i, rfl⟩ := hi
                obtain rfl := F2.int
                cases d with
                | lst o ds => exact .inl (idx_list hK F3 ep er ss h)
                | scr ns =>
                  obtain ⟨O3, F3⟩ := F3
                  obtain ⟨O1, _, r1⟩ := F3.look ep
                  simp only [Rep] at r1
                  obtain ⟨p, ex, sc⟩ := r1
                  unfold idxT at er
                  rw [ep] at er
                  dsimp only at er
                  cases ei : ixOf ns.length i with
                  | none => rw [ei] at er; cases er
                  | some n =>
                    rw [ei] at er
                    dsimp only at er
                    cases en : ns[n]? with
                    | none => rw [en] at er; cases er
                    | some m =>
                      rw [en] at er
                      cases er
                      refine .inl ⟨p, _, i, .int m, ex, rfl, by rw [hK]; exact sc.sq, ?_, Done.scal ⟨O3, F3⟩ ss h rfl fun A => rfl⟩
                      unfold atI
                      rw [ixN_of, List.length_map, ei]
                      simp [en]
                | tup ds =>
                  obtain ⟨O3, F3⟩ := F3
                  obtain ⟨O1, _, r1⟩ := F3.look ep
                  simp only [Rep] at r1
                  obtain ⟨p, vs, ex, sc, r2⟩ := r1
                  unfold idxT at er
                  rw [ep] at er
                  dsimp only at er
                  cases ei : ixOf ds.length i with
                  | none => rw [ei] at er; cases er
                  | some n =>
                    rw [ei] at er
                    dsimp only at er
                    cases en : ds[n]? with
                    | none => rw [en] at er; cases er
                    | some m =>
                      rw [en] at er
                      cases er
                      obtain ⟨v, P1, g4, g5, g6⟩ := r2.get en
                      refine .inr (.inl ⟨p, vs, i, v, ex, rfl, by rw [hK]; exact sc, ?_, ?_⟩)
                      · unfold atI
                        rw [ixN_of, ← r2.length, ei]
                        exact g4
                      · have hm : m.own = false := by
                          cases ho : m.own with
                          | false => rfl
                          | true =>
                            obtain ⟨a, _, q⟩ := g6.ref ho
                            exact (g5 a q).elim
                        exact h v H2 ⟨O3, F3.pop.push0 (fun _ _ z => z) hm g6⟩ ss
                | str s =>
                  obtain ⟨O3, F3⟩ := F3
                  obtain ⟨O1, _, r1⟩ := F3.look ep
                  simp only [Rep] at r1
                  unfold idxT at er
                  rw [ep] at er
                  dsimp only at er
                  split at er
                  · rename_i hl
                    cases ei : ixOf s.length i with
                    | none => rw [ei] at er; cases er
                    | some n =>
                      rw [ei] at er
                      dsimp only at er
                      cases en : s[n]? with
                      | none => rw [en] at er; cases er
                      | some m =>
                        rw [en] at er
                        cases er
                        refine .inr (.inr ⟨sOf s, i, m, r1, rfl, by rw [sOf_len, ← sizeL_eq]; exact hl, ?_, Done.scal ⟨O3, F3⟩ ss h rfl fun A => by simp only [Rep]; rfl⟩)
                        unfold atI
                        rw [ixN_of]
                        show (ixOf (sOf s).cps.toList.length i).bind _ = _
                        simp [sOf, ei, en]
                  · cases er
                | dic o ks ws => exact (hdic ⟨_, _, _, rfl⟩).elim
                | _ => unfold idxT at er; rw [ep] at er; cases er
    · rw [if_neg hc] at h
      exact h.elim
end
end LT
/-! LtK: displays, two comparisons in one. -/
namespace LT
open PySem L2
section
variable {G : GK} {C : Fc} {W : WX} {X : Cx} {a b c : Expr} {sa sb sc : Bool} {eva evb evc : Env → R T} {pos : Pos} {σ : St} {tm : Tm} {env : Env} {H : Hp} {O : Ad}
theorem esc_noexc {t : T} {e e' : Env} {x : D} (h : LT.esc t e = .exc x e') : False := by
  cases t with
  | val d => cases h
  | ref i p =>
    unfold LT.esc at h
    dsimp only at h
    split at h
    · cases h
    · split at h <;> cases h
theorem escL_noexc : ∀ {ts : List T} {e e' : Env} {x : D}, escL ts e = .exc x e' → False
  | [], e, e', x, h => by cases h
  | t :: ts, e, e', x, h => by
    simp only [escL] at h
    cases e1 : LT.esc t e with
    | err => rw [e1] at h; cases h
    | exc y e2 => exact esc_noexc e1
    | ok d e2 =>
      rw [e1] at h
      simp only [R.bind_ok] at h
      cases e3 : escL ts e2 with
      | err => rw [e3] at h; cases h
      | exc y e4 => exact escL_noexc e3
      | ok ds' e4 => rw [e3] at h; cases h
theorem FRo.escL : ∀ {ts : List T} {vs : List V} {ds : List D} {tm : Tm} {env e' : Env} {O : Ad}, vs.length = ts.length → FRo G C σ (tm ++ vs.zip ts) env H O → LT.escL ts env = .ok ds e' → ∃ O', (∀ a, O' a → O a) ∧ FRo G C σ (tm ++ vs.zip (ds.map T.val)) e' H O' ∧ ds.length = vs.length
  | [], vs, ds, tm, env, e', O, hl, F, h => by
    simp only [LT.escL, R.ok.injEq] at h
    obtain ⟨rfl, rfl⟩ := h
    obtain rfl : vs = [] := List.length_eq_zero_iff.mp hl
    exact ⟨O, fun _ z => z, F, rfl⟩
  | t :: ts, [], ds, tm, env, e', O, hl, F, h => by simp at hl
  | t :: ts, v :: vs, ds, tm, env, e', O, hl, F, h => by
    simp only [LT.escL] at h
    cases e1 : LT.esc t env with
    | err => rw [e1] at h; cases h
    | exc x e => exact (esc_noexc e1).elim
    | ok d e2 =>
      rw [e1] at h
      simp only [R.bind_ok] at h
      cases e3 : LT.escL ts e2 with
      | err => rw [e3] at h; cases h
      | exc x e => rw [e3] at h; cases h
      | ok ds' e4 =>
        rw [e3] at h
        simp only [R.bind_ok, R.ok.injEq] at h
        obtain ⟨rfl, rfl⟩ := h
        rw [List.zip_cons_cons] at F
        obtain ⟨O1, m1, F1⟩ := F.esc e1
        have F1' : FRo G C σ ((tm ++ [(v, .val d)]) ++ vs.zip ts) e2 H O1 := by rw [List.append_assoc]; exact F1
        obtain ⟨O2, m2, F2, l2⟩ := FRo.escL (by simpa using hl) F1' e3
        refine ⟨O2, fun a z => m1 a (m2 a z), ?_, by simp [l2]⟩
        rw [List.append_assoc] at F2
        simpa using F2
theorem reps_of {A : Ad} : ∀ {ds : List D} {vs : List V} {O : Ad}, ds.length = vs.length → RepL G H A ((vs.zip (ds.map T.val)).map te) O → Reps G H A ds vs O
  | [], [], _, _, _ => by simp [Reps]
  | [], v :: vs, _, h, _ => by simp at h
  | d :: ds, [], _, h, _ => by simp at h
  | d :: ds, v :: vs, O, hl, h => by
    simp only [List.map_cons, List.zip_cons_cons] at h
    obtain ⟨O1, O2, h1, h2, h3, h4, h5⟩ := h
    simp only [Reps]
    exact ⟨v, vs, O1, O2, rfl, h1, h2, h3, h4, reps_of (by simpa using hl) h5⟩
theorem FRo.split {tm' : Tm} (F : FRo G C σ (tm ++ tm') env H O) : ∃ P Q : Ad, RepL G H (fun a => O a ∨ C.hid a) (ents σ tm env) P ∧ RepL G H (fun a => O a ∨ C.hid a) (tm'.map te) Q ∧ (∀ a, P a → O a) ∧ (∀ a, Q a → O a) ∧ (∀ a, P a → ¬ Q a) := by
  have h := F.rep
  unfold ents at h
  rw [List.map_append, ← List.append_assoc] at h
  exact RepL.split h
/-- a new tuple of what stands in between -/
theorem FRo.mkTup {ds : List D} {vs : List V} {p : Addr} (F : FRo G C σ (tm ++ vs.zip (ds.map T.val)) env H O) (hl : ds.length = vs.length) (hp : H p = none) : FR G C σ (tm ++ [(.ref p, .val (.tup (frzs ds)))]) env (upd H p (.tup vs)) := by
  obtain ⟨P, Q, h1, h2, h3, h4, h5⟩ := F.split
  have r := reps_of hl h2
  have F' : FRo G C σ tm env H P := by
    refine ⟨F.len, RepL.kept (S := no) (Kept.refl H) (fun _ z => z.elim) (fun a z => .inl (z.elim (fun z => .inl (h3 a z)) .inr)) (fun _ z => z.elim) (fun _ _ z => z) h1, fun a z => F.nw a (h3 a z), fun a z => F.mu a (h3 a z), F.pop.refs, F.kept, F.lent⟩
  have r' : Reps G H (fun a => P a ∨ C.hid a) (frzs ds) vs no := Reps.frz (fun a z => .inl (z.elim (fun z => .inl (h3 a z)) .inr)) ds vs Q (fun a z q => q.elim (fun q => h5 a q z) (F.hidO a (h4 a z))) r no
  exact F'.fresh (Fresh.tup r' hp)
/-- a new list of it -/
theorem FRo.mkLst {ds : List D} {vs : List V} {p : Addr} (F : FRo G C σ (tm ++ vs.zip (ds.map T.val)) env H O) (hl : ds.length = vs.length) (hp : H p = none) : FR G C σ (tm ++ [(.ref p, .val (.lst true ds))]) env (upd H p (.lst vs)) := by
  obtain ⟨P, Q, h1, h2, h3, h4, h5⟩ := F.split
  have r := reps_of hl h2
  have s : Same H (upd H p (.lst vs)) := Same.upd hp
  have nO : ∀ a, O a → a ≠ p := fun a z e => by have := F.mu a z; rw [e, hp] at this; exact this
  have hA : ∀ a, (O a ∨ a = p) ∨ C.hid a → (O a ∨ C.hid a) ∨ H a = none := fun a z => z.elim (fun z => z.elim (fun z => .inl (.inl z)) fun z => .inr (by rw [z]; exact hp)) fun z => .inl (.inr z)
  refine ⟨fun a => O a ∨ a = p, F.len, ?_, fun a z => z.elim (F.nw a) fun z => F.tracked (by rw [z]; exact hp), fun a z => ?_, fun w i q m => ?_, (F.same s).kept, F.lent⟩
  · unfold ents
    rw [List.map_append, ← List.append_assoc]
    refine RepL.append (O := P) (O' := fun a => Q a ∨ a = p) (RepL.kept (S := no) (Kept.of s) (fun _ z => z.elim) hA (fun _ z => z.elim) (fun _ _ z => z) h1) ⟨fun a => Q a ∨ a = p, no, fun _ z => z, fun _ z => z.elim, fun _ _ z => z, ?_, trivial⟩ (fun a z => .inl (h3 a z)) (fun a z => z.elim (fun z => .inl (h4 a z)) .inr) fun a z q => q.elim (h5 a z) (nO a (h3 a z))
    show Rep G _ _ (.lst true ds) (.ref p) _
    simp only [Rep]
    exact ⟨p, vs, Q, rfl, upd_same, .inr rfl, fun x z => ⟨.inl z, nO x (h4 x z)⟩, Reps.kept (S := no) (Kept.of s) (fun _ z => z.elim) hA (fun _ z => z.elim) ds vs Q (fun _ _ z => z) r⟩
  · rcases z with z | z
    · exact (F.same s).mu a z
    · rw [z, upd_same]; trivial
  · rcases List.mem_append.mp m with m | m
    · exact (F.pop.same s).refs w i q m
    · simp at m
def tupK (ts : List T) (e : Env) : R T := (escL ts e).bind fun ds e => .ok (.val (.tup (frzs ds))) e
def lstK (ts : List T) (e : Env) : R T := (escL ts e).bind fun ds e => .ok (.val (.lst true ds)) e
theorem tEs_bind {smp : Bool} {evas : Env → R (List T)} {k : List T → Env → R T} {σ : St} {H : Hp} {Q : VK} {Q' : List V → Hp → Prop} (hs : smp = true → sa = true) (h : tE G C W smp (fun e => (evas e).bind k) σ H Q)
    (hQ : ∀ tm vs ts env env0 H1, evas env0 = .ok ts env → vs.length = ts.length → FR G C σ (tm ++ vs.zip ts) env H1 → (smp = false → Roots tm) → (smp = true → Same H H1) → Done G C W smp σ tm H Q (k ts env) → Q' vs H1) : tEs G C W sa evas σ H Q' := by
  obtain ⟨tm, env, F, hr, h⟩ := h
  dsimp only at h
  have hr' : sa = false → Roots tm := fun e => hr (by cases smp with | false => rfl | true => rw [hs rfl] at e; cases e)
  refine ⟨tm, env, F, hr', ?_⟩
  cases ea : evas env with
  | err => rw [ea] at h; exact h
  | exc x env1 => rw [ea] at h; exact h
  | ok t env1 =>
    rw [ea] at h
    simp only [R.bind_ok] at h
    intro v H1 hl F1 s1
    exact hQ tm v t env1 env H1 ea hl F1 hr (fun e => s1 (hs e)) h
theorem se_tup {es : List Expr} {x1 : Nat} {evas : Env → R (List T)} (hn : ∀ e ts e', evas e = .ok ts e' → ts.length ≤ sizeLine) (hs : PA X es (tEs G C W sa evas)) : PE X (.Tuple es x1 pos) (tE G C W sa (fun e => (evas e).bind tupK)) := by
  refine PE.mono (pe_tup hs) fun σ H Q h => ?_
  refine tEs_bind id h fun tm vs ts env env0 H1 h0 hl F hr s k => ?_
  refine ⟨by rw [hl]; exact hn _ _ _ h0, fun p hp => ?_⟩
  unfold tupK at k
  cases e1 : escL ts env with
  | err => rw [e1] at k; exact k.elim
  | exc x e => exact (escL_noexc e1).elim
  | ok ds e2 =>
    rw [e1] at k
    obtain ⟨O, F⟩ := F
    obtain ⟨O1, m1, F1, l1⟩ := FRo.escL hl F e1
    exact k _ _ (F1.mkTup l1 hp) fun e => (s e).trans (Same.upd hp)
theorem se_lst {es : List Expr} {evas : Env → R (List T)} (hn : ∀ e ts e', evas e = .ok ts e' → ts.length ≤ sizeLine) (hs : PA X es (tEs G C W sa evas)) : PE X (.List es pos) (tE G C W sa (fun e => (evas e).bind lstK)) := by
  refine PE.mono (pe_lst hs) fun σ H Q h => ?_
  refine tEs_bind id h fun tm vs ts env env0 H1 h0 hl F hr s k => ?_
  refine ⟨by rw [hl]; exact hn _ _ _ h0, fun p hp => ?_⟩
  unfold lstK at k
  cases e1 : escL ts env with
  | err => rw [e1] at k; exact k.elim
  | exc x e => exact (escL_noexc e1).elim
  | ok ds e2 =>
    rw [e1] at k
    obtain ⟨O, F⟩ := F
    obtain ⟨O1, m1, F1, l1⟩ := FRo.escL hl F e1
    exact k _ _ (F1.mkLst l1 hp) fun e => (s e).trans (Same.upd hp)
/-- a < b < c, of ints -/
def chain1 (c1 c2 : Cm) (evb evc : Env → R T) (sb : Bool) (t : T) (e : Env) : R T := if t.root then (evb e).bind fun u e => match int1 t, int1 u with
    | some x, some y => (R.of (cmpop c1 (.int x) (.int y)) e).bind fun z e => if z = true then (evc e).bind fun w e => match int1 w with
      | some x' => (R.of ((cmpop c2 (.int y) (.int x')).map .bl) e).bind fun z' e => .ok (.val z') e
      | none => .err else .ok (.val (.bl false)) e
    | _, _ => .err else .err
theorem int1_some {t : T} {i : Int} (h : int1 t = some i) : t = .val (.int i) := by
  unfold int1 at h
  split at h
  · cases h; rfl
  · cases h
theorem cmp2_tE {c1 c2 : Cm} (σ : St) (H : Hp) (Q : VK) (h : tE G C W false (fun e => (eva e).bind (chain1 c1 c2 evb evc sb)) σ H Q) :
    tChain (r2 G fun a b => (cmpop c1 a b).map .bl) (r2 G fun a b => (cmpop c2 a b).map .bl) (tE G C W sa eva) (tE G C W sb evb) (tE G C W sc evc) σ H Q := by
  refine tE_bind (fun e => by cases e) h fun tm x t env H1 F hr s k => ?_
  unfold chain1 at k
  by_cases hc : t.root = true
  · rw [if_pos hc] at k
    refine ⟨tm ++ [(x, t)], env, F, fun _ => (hr rfl).val hc, ?_⟩
    cases eb : evb env with
    | err => rw [eb] at k; exact k.elim
    | exc y env2 =>
      rw [eb] at k
      intro cls dx H2 xr F2
      exact k cls dx H2 xr F2.pop
    | ok u env2 =>
      rw [eb] at k
      simp only [R.bind_ok] at k
      intro y H2 F2 s2
      cases e1 : int1 t with
      | none => rw [e1] at k; exact k.elim
      | some i =>
        cases e2 : int1 u with
        | none => rw [e1, e2] at k; exact k.elim
        | some j =>
          rw [e1, e2] at k
          obtain rfl := int1_some e1
          obtain rfl := int1_some e2
          obtain rfl := F2.int
          have F2' : FR G C σ (tm ++ [(x, .val (.int i))]) env2 H2 := F2.pop
          obtain rfl := F2'.int
          obtain ⟨O2, F3⟩ := F2'.pop
          dsimp only at k
          have vI : ∀ i : Int, Vw G H2 (fun a => O2 a ∨ C.hid a) (.int i) (.int i) := fun i => rfl
          cases e3 : cmpop c1 (.int i) (.int j) with
          | none => rw [e3] at k; exact k.elim
          | some z =>
            rw [e3] at k
            simp only [R.of_some, R.bind_ok] at k
            refine ⟨_, _, _, _, F3.bad, vI i, vI j, by show (cmpop c1 (.int i) (.int j)).map D.bl = _; rw [e3]; rfl, fun v H3 fr => ?_⟩
            have ev : v = .bl z := by obtain ⟨_, O1, r, _⟩ := fr; simpa [Rep] using r
            subst ev
            refine ⟨z, rfl, ?_⟩
            have F4 : FR G C σ tm env2 H3 := (F3.fresh fr).pop
            cases z with
            | false =>
              rw [if_neg (by decide)] at k ⊢
              obtain ⟨O4, F4⟩ := F4
              exact k _ _ ⟨O4, F4.push0 (fun _ _ z => z) rfl (O1 := no) rfl⟩ fun e => by cases e
            | true =>
              rw [if_pos rfl] at k ⊢
              refine ⟨tm, env2, F4, fun _ => hr rfl, ?_⟩
              cases ec : evc env2 with
              | err => rw [ec] at k; exact k.elim
              | exc y e4 => rw [ec] at k; exact k
              | ok w env4 =>
                rw [ec] at k
                simp only [R.bind_ok] at k
                intro wv H4 F5 s5
                cases e5 : int1 w with
                | none => rw [e5] at k; exact k.elim
                | some l =>
                  rw [e5] at k
                  dsimp only at k
                  obtain rfl := int1_some e5
                  obtain rfl := F5.int
                  obtain ⟨O5, F6⟩ := F5.pop
                  cases e6 : (cmpop c2 (.int j) (.int l)).map D.bl with
                  | none => rw [e6] at k; exact k.elim
                  | some z' =>
                    rw [e6] at k
                    exact ⟨_, .int j, .int l, z', F6.bad, rfl, rfl, e6, fun v H7 fr => k v H7 (F6.fresh fr) fun e => by cases e⟩
  · rw [if_neg hc] at k; exact k.elim
theorem se_cmp2 (hK : X.K = G.K) (hw : X.w = G.w) (hu : X.A.units + 65 < cLine) {op op' : CmpOp} {c1 c2 : Cm} (h1 : cmOf op = some c1) (h2 : cmOf op' = some c2) (hm : lastMarks [op, op'] [b, c] = false) (ha : PE X a (tE G C W sa eva)) (hb : PE X b (tE G C W sb evb)) (hc : PE X c (tE G C W sc evc)) :
    PE X (.Compare a [op, op'] [b, c] pos) (tE G C W false (fun e => (eva e).bind (chain1 c1 c2 evb evc sb))) :=
  PE.mono (pe_chain (or_cmp hK hw hu h1) (or_cmp hK hw hu h2) ha hb hc hm) cmp2_tE
theorem st_cmp2 (hK : X.K = G.K) (hw : X.w = G.w) (hu : X.A.units + 65 < cLine) {op op' : CmpOp} {c1 c2 : Cm} (h1 : cmOf op = some c1) (h2 : cmOf op' = some c2) (hm : lastMarks [op, op'] [b, c] = false) (ha : PE X a (tE G C W sa eva)) (hb : PE X b (tE G C W sb evb)) (hc : PE X c (tE G C W sc evc)) :
    PT X (.Compare a [op, op'] [b, c] pos) (tT G C W false (asT fun e => (eva e).bind (chain1 c1 c2 evb evc sb))) :=
  PT.mono (pt_chain (or_cmp hK hw hu h1) (or_cmp hK hw hu h2) ha hb hc hm) fun σ H Q h => cmp2_tE σ H _ (tT_val h)
end
end LT
/-! LtL: statements. -/
namespace LT
open PySem L2
def Pend (tm : Tm) (ln : List Nat) : Prop := ∀ v i p, (v, T.ref i p) ∈ tm → p = [] ∧ i ∈ ln
def LentIn (C : Fc) (ln : List Nat) : Prop := ∀ p ∈ C.ln, p.1 ∈ ln
section
variable (G : GK) (C : Fc) (W : WX)
def DoneF (tm : Tm) (D : Ends) : F → Prop
  | .nx env => ∀ σ H, FR G C σ tm env H → D.nx σ H
  | .ret d env => ∀ v σ H, FR G C σ (tm ++ [(v, .val d)]) env H → D.rt v H
  | .brk env => ∀ σ H, FR G C σ tm env H → D.bk σ H
  | .cnt env => ∀ σ H, FR G C σ tm env H → D.ct σ H
  | .exc x env => ∀ cls dx σ H, G.XR x cls dx H → FR G C σ tm env H → W cls dx σ H
  | .err => False
def tS (ln : List Nat) (ev : Env → F) : TS := fun D σ H => ∃ tm env, FR G C σ tm env H ∧ Pend tm ln ∧ LentIn C ln ∧ DoneF G C W tm D (ev env)
end
section
variable {G : GK} {C : Fc} {W : WX} {X : Cx} {a b c : Expr} {sa sb sc : Bool} {eva evb evc : Env → R T} {pos : Pos} {σ : St} {tm : Tm} {env : Env} {H : Hp} {O : Ad} {ln : List Nat}
theorem Pend.roots (h : Pend tm ln) : Roots tm := fun v i p m => (h v i p m).1
theorem RepL.put {A : Ad} : ∀ {l : List (Option D × Option V)} {P : Ad} (n : Nat) {e : Option D × Option V} {Q O' : Ad}, RepL G H A l P → RepO G H A e.1 e.2 Q → (∀ a, P a → O' a) → (∀ a, Q a → O' a) → (∀ a, P a → ¬ Q a) → RepL G H A (l.set n e) O'
  | [], _, _, _, _, _, _, _, _, _, _ => trivial
  | x :: l, P, 0, e, Q, O', ⟨O1, O2, h1, h2, h3, h4, h5⟩, r, m, m', dj => ⟨Q, O2, m', fun a z => m a (h2 a z), fun a z q => dj a (h2 a q) z, r, h5⟩
  | x :: l, P, n + 1, e, Q, O', ⟨O1, O2, h1, h2, h3, h4, h5⟩, r, m, m', dj =>
    ⟨O1, fun a => O2 a ∨ Q a, fun a z => m a (h1 a z), fun a z => z.elim (fun z => m a (h2 a z)) (m' a), fun a z q => q.elim (h3 a z) (dj a (h1 a z)), h4, RepL.put n h5 r (fun a z => .inl z) (fun a z => .inr z) fun a z => dj a (h2 a z)⟩
theorem zip_set2 {α β : Type} : ∀ {l : List α} {m : List β} {i : Nat} {x : α} {y : β}, (l.set i x).zip (m.set i y) = (l.zip m).set i (x, y)
  | [], m, i, x, y => by simp
  | a :: l, [], i, x, y => by cases i <;> simp
  | a :: l, b :: m, 0, x, y => by simp
  | a :: l, b :: m, i + 1, x, y => by simp [zip_set2]
/-- a slot takes what stands in between -/
theorem FRo.asg {v : V} {o : Option D} {i : Nat} {tm' : Tm} (F : FRo G C σ (tm ++ tm') env H O) (hp : Pend tm ln) (hl : LentIn C ln) (hi : i ∉ ln) (hq : ∃ Q : Ad, RepO G H (fun a => O a ∨ C.hid a) o (some v) Q ∧ (∀ a, Q a → O a) ∧ ∀ P : Ad, RepL G H (fun a => O a ∨ C.hid a) (ents σ tm env) P → True)
    (hs : ∃ P Q : Ad, RepL G H (fun a => O a ∨ C.hid a) (ents σ tm env) P ∧ RepO G H (fun a => O a ∨ C.hid a) o (some v) Q ∧ (∀ a, P a → O a) ∧ (∀ a, Q a → O a) ∧ (∀ a, P a → ¬ Q a)) :
    FRo G C (σ.set i (some v)) tm (env.set i o) H O := by
  obtain ⟨P, Q, h1, h2, h3, h4, h5⟩ := hs
  refine ⟨by rw [List.length_set, List.length_set]; exact F.len, ?_, F.nw, F.mu, fun w j p m => ?_, F.kept, fun p m => ?_⟩
  · unfold ents at h1 ⊢
    rw [zip_set2]
    by_cases lt : i < (env.zip σ).length
    · have := RepL.put i (e := (o, some v)) h1 h2 h3 h4 h5
      rw [List.set_append_left _ _ lt] at this
      exact this
    · rw [List.set_eq_of_length_le (by omega)]
      exact RepL.mono h3 h1
  · obtain ⟨v₀, e, q⟩ := F.pop.refs w j p m
    have hj := (hp w j p m).2
    refine ⟨v₀, ?_, q⟩
    rw [List.getElem?_set_ne (fun e => hi (by rw [e]; exact hj))]
    exact e
  · rw [List.getElem?_set_ne (fun e => hi (by rw [e]; exact hl p m))]
    exact F.lent p m
theorem FRo.asg1 {v : V} {d : D} {i : Nat} (F : FRo G C σ (tm ++ [(v, .val d)]) env H O) (hp : Pend tm ln) (hl : LentIn C ln) (hi : i ∉ ln) : FRo G C (σ.set i (some v)) tm (env.set i (some d)) H O := by
  obtain ⟨P, Q, h1, ⟨O1, O2, g1, g2, g3, g4, g5⟩, h3, h4, h5⟩ := F.split
  exact F.asg hp hl hi ⟨O1, g4, fun a z => h4 a (g1 a z), fun _ _ => trivial⟩ ⟨P, O1, h1, g4, h3, fun a z => h4 a (g1 a z), fun a z q => h5 a z (g1 a q)⟩
/-- the value of a statement's expression -/
theorem tS_val {k : T → Env → F} {D : Ends} {Q' : VK} (h : tS G C W ln (fun e => (eva e).got k) D σ H)
    (hQ : ∀ tm v t env H1, FR G C σ (tm ++ [(v, t)]) env H1 → Pend tm ln → LentIn C ln → DoneF G C W tm D (k t env) → Q' v H1) : tE G C W sa eva σ H Q' := by
  obtain ⟨tm, env, F, hp, hl, h⟩ := h
  dsimp only at h
  refine ⟨tm, env, F, fun _ => hp.roots, ?_⟩
  cases ea : eva env with
  | err => rw [ea] at h; exact h
  | exc x env1 => rw [ea] at h; exact fun cls dx H1 xr F1 => h cls dx σ H1 xr F1
  | ok t env1 =>
    rw [ea] at h
    exact fun v H1 F1 s1 => hQ tm v t env1 H1 F1 hp hl h
theorem go_bind {f : T → Env → R D} {k : D → Env → F} (r : R T) : (r.bind f).go k = r.got fun t e => (f t e).go k := by cases r <;> rfl
theorem FR.esc1 {v : V} {t : T} {d : D} {e' : Env} (F : FR G C σ (tm ++ [(v, t)]) env H) (h : esc t env = .ok d e') : FR G C σ (tm ++ [(v, .val d)]) e' H := by
  obtain ⟨O, F⟩ := F
  obtain ⟨O', _, F'⟩ := FRo.esc (tm₂ := []) F h
  exact ⟨O', F'⟩
theorem ss_asg {i : Nat} {x : Str} {pos' : Pos} (h : PS X (.Assign [.Name x pos'] a pos) (tAsg (tE G C W sa eva) (gName i))) : PS X (.Assign [.Name x pos'] a pos) (tS G C W ln (fun e => ((eva e).bind esc).go fun d e => asgD ln i d e)) := by
  refine PS.mono h fun D σ H h => ?_
  have h' : tS G C W ln (fun e => (eva e).got fun t e => (esc t e).go fun d e => asgD ln i d e) D σ H := by
    obtain ⟨tm, env, F, hp, hl, h⟩ := h
    exact ⟨tm, env, F, hp, hl, by dsimp only at h; rw [go_bind] at h; exact h⟩
  refine tS_val h' fun tm v t env H1 F hp hl k => ?_
  cases e1 : esc t env with
  | err => rw [e1] at k; exact k.elim
  | exc x e => exact (esc_noexc e1).elim
  | ok d e' =>
    rw [e1] at k
    simp only [R.go_ok] at k
    obtain ⟨O, F1⟩ := F.esc1 e1
    unfold asgD at k
    split at k
    · exact k.elim
    · rename_i hi
      exact k _ _ ⟨O, F1.asg1 hp hl (by simpa using hi)⟩
theorem ss_ex (ha : PE X a (tE G C W sa eva)) (hs : swapsWith a none pos.line X.env = pure false) : PS X (.Expr a pos) (tS G C W ln (fun e => (eva e).got fun _ e => .nx e)) := by
  refine PS.mono (ps_expr ha hs) fun D σ H h => ?_
  exact tS_val h fun tm v t env H1 F hp hl k => k _ _ F.pop
theorem ss_nil : PSs X [] (tS G C W ln (fun e => .nx e)) := by
  refine PSs.mono pss_nil fun D σ H ⟨tm, env, F, hp, hl, k⟩ => k _ _ F
theorem ss_cons {st : Stmt} {rest : List Stmt} {ev1 ev2 : Env → F} (h1 : PS X st (tS G C W ln ev1)) (h2 : PSs X rest (tS G C W ln ev2)) : PSs X (st :: rest) (tS G C W ln (fun e => (ev1 e).bind ev2)) := by
  refine PSs.mono (pss_cons h1 h2) fun D σ H ⟨tm, env, F, hp, hl, k⟩ => ⟨tm, env, F, hp, hl, ?_⟩
  dsimp only at k
  cases e1 : ev1 env with
  | nx e' => rw [e1] at k; exact fun σ' H' F' => ⟨tm, e', F', hp, hl, k⟩
  | ret d e' => rw [e1] at k; exact k
  | brk e' => rw [e1] at k; exact k
  | cnt e' => rw [e1] at k; exact k
  | exc x e' => rw [e1] at k; exact k
  | err => rw [e1] at k; exact k
theorem ss_pass : PS X (.Pass pos) (tS G C W ln (fun e => .nx e)) := PS.mono ps_pass fun D σ H ⟨tm, env, F, hp, hl, k⟩ => k _ _ F
theorem ss_brk : PS X (.Break pos) (tS G C W ln (fun e => .brk e)) := PS.mono ps_break fun D σ H ⟨tm, env, F, hp, hl, k⟩ => k _ _ F
theorem ss_cnt : PS X (.Continue pos) (tS G C W ln (fun e => .cnt e)) := PS.mono ps_continue fun D σ H ⟨tm, env, F, hp, hl, k⟩ => k _ _ F
theorem ss_doc {x : Str} {j : Nat} {pos' : Pos} : PS X (.Expr (.Constant (.str x) j pos) pos') (tS G C W ln (fun e => .nx e)) := PS.mono ps_doc fun D σ H ⟨tm, env, F, hp, hl, k⟩ => k _ _ F
theorem ss_if {st su : List Stmt} {evt : Env → R Bool} {ev1 ev2 : Env → F} (hc : PT X c (tT G C W sc evt)) (h1 : PSs X st (tS G C W ln ev1)) (h2 : PSs X su (tS G C W ln ev2)) : PS X (.If c st su pos) (tS G C W ln (fun e => (evt e).got fun b e => if b = true then ev1 e else ev2 e)) := by
  refine PS.mono (ps_if hc h1 h2) fun D σ H ⟨tm, env, F, hp, hl, k⟩ => ?_
  refine ⟨tm, env, F, fun _ => hp.roots, ?_⟩
  dsimp only at k
  cases e1 : evt env with
  | err => rw [e1] at k; exact k
  | exc x e' => rw [e1] at k; exact fun cls dx H1 xr F1 => k cls dx σ H1 xr F1
  | ok b e' =>
    rw [e1] at k
    simp only [R.got_ok] at k
    intro H1 F1 _
    cases b with
    | true => rw [if_pos rfl] at k ⊢; exact ⟨tm, e', F1, hp, hl, k⟩
    | false => rw [if_neg (by decide)] at k ⊢; exact ⟨tm, e', F1, hp, hl, k⟩
def retT (ln : List Nat) (t : T) (e : Env) : F := match t with
    | .val d => .ret d e
    | .ref i p => match e.at i p with
      | none => .err
      | some d => if p.isEmpty then (if ln.contains i then .ret d.frz (e.set i (some d.frz)) else .ret d (e.set i none)) else .err
/-- a slot's datum is taken out of it -/
theorem FRo.moved {v : V} {d : D} {i : Nat} (F : FRo G C σ (tm ++ [(v, .ref i [])]) env H O) (h : env.at i [] = some d) (hi : i ∉ ln) (hp : Pend tm ln) : FR G C σ (tm ++ [(v, .val d)]) (env.set i none) H := by
  have e1 : env[i]?.getD none = some d := by simpa using h
  obtain ⟨sv, hs, he, lt⟩ := ents_get (tm := tm) F.len e1
  obtain ⟨P, Q, h1, h2, h3, h4, h5⟩ := F.split
  obtain ⟨w, O1, R, ev, g1, g2, g3, g4, g5⟩ := RepL.focus h1 he
  subst ev
  obtain ⟨v₀, q1, q2⟩ := F.refs v i [] (List.mem_append_right _ List.mem_cons_self)
  rw [hs] at q1; cases q1
  obtain rfl : v = w := q2
  have r := g5 H (fun a => O a ∨ C.hid a) no (none, some v) no (Kept.refl H) (fun _ z => z.elim) (fun a z => .inl z) (fun _ z => z.elim) (fun _ _ z => z) trivial fun _ z => z.elim
  rw [← ents_set hs (by rw [List.length_zip, F.len]; omega)] at r
  refine ⟨O, by rw [List.length_set]; exact F.len, ?_, F.nw, F.mu, fun w j p m => ?_, F.kept, F.lent⟩
  · have e2 : ents σ (tm ++ [(v, T.val d)]) (env.set i none) = ents σ tm (env.set i none) ++ [(some d, some v)] := by
      unfold ents
      rw [List.map_append, ← List.append_assoc]
      rfl
    rw [e2]
    exact RepL.append r (O' := O1) ⟨O1, no, fun _ z => z, fun _ z => z.elim, fun _ _ z => z, g4, trivial⟩ (fun a z => h3 a (z.elim (g2 a) fun z => z.elim)) (fun a z => h3 a (g1 a z)) fun a z q => z.elim (fun z => g3 a q z) fun z => z
  · rcases List.mem_append.mp m with m | m
    · exact F.pop.refs w j p m
    · simp at m
theorem ss_ret (ha : PE X a (tE G C W sa eva)) : PS X (.Return (some a) pos) (tS G C W ln (fun e => (eva e).got (retT ln))) := by
  refine PS.mono (ps_ret ha) fun D σ H h => ?_
  refine tS_val h fun tm v t env H1 F hp hl k => ?_
  unfold retT at k
  cases t with
  | val d => exact k v σ H1 F
  | ref i p =>
    dsimp only at k
    cases e1 : env.at i p with
    | none => rw [e1] at k; exact k.elim
    | some d =>
      rw [e1] at k
      dsimp only at k
      by_cases hq : p.isEmpty = true
      · rw [if_pos hq] at k
        obtain rfl : p = [] := List.isEmpty_iff.mp hq
        by_cases hi : ln.contains i = true
        · rw [if_pos hi] at k
          exact k v σ H1 (F.esc1 (by unfold esc; dsimp only; rw [e1]; rfl))
        · rw [if_neg hi] at k
          obtain ⟨O, F⟩ := F
          exact k v σ H1 (F.moved e1 (by simpa using hi) hp)
      · rw [if_neg hq] at k; exact k.elim
theorem ss_never {st : Stmt} : PS X st (tS G C W ln (fun _ => .err)) := PS.mono ps_never fun D σ H ⟨tm, env, F, hp, hl, k⟩ => k
end
end LT
/-! LtM: what is written. -/
namespace LT
open PySem L2
/-- the state, where more than what is owned is not known of what others read -/
structure FRx (G : GK) (C : Fc) (A : Ad) (σ : St) (tm : Tm) (env : Env) (H : Hp) (O : Ad) : Prop where
  len : σ.length = env.length
  rep : RepL G H A (ents σ tm env) O
  sub : ∀ a, O a ∨ C.hid a → A a
  nw : ∀ a, O a → ¬ C.nw a
  mu : ∀ a, O a → Mut (H a)
  refs : ∀ v i p, (v, T.ref i p) ∈ tm → PlaceV H σ i p v
  kept : ∀ a x, C.H0 a = some x → C.nw a → H a = some x
  lent : ∀ p ∈ C.ln, σ[p.1]? = some (some p.2)
section
variable {G : GK} {C : Fc} {A : Ad} {σ : St} {tm : Tm} {env : Env} {H : Hp} {O : Ad}
theorem FRo.x (F : FRo G C σ tm env H O) : FRx G C (fun a => O a ∨ C.hid a) σ tm env H O := ⟨F.len, F.rep, fun _ z => z, F.nw, F.mu, F.refs, F.kept, F.lent⟩
theorem FRx.o (F : FRx G C A σ tm env H O) : FRo G C σ tm env H O := ⟨F.len, RepL.kept (S := no) (Kept.refl H) (fun _ z => z.elim) (fun a z => .inl (F.sub a z)) (fun _ z => z.elim) (fun _ _ z => z) F.rep, F.nw, F.mu, F.refs, F.kept, F.lent⟩
theorem FRx.tracked (F : FRx G C A σ tm env H O) {a : Addr} (h : H a = none) : ¬ C.nw a := F.o.tracked h
/-- something in between is taken; what it owns is known still -/
theorem FRx.take {tm₁ tm₂ : Tm} {v : V} {t : T} (F : FRx G C A σ (tm₁ ++ (v, t) :: tm₂) env H O) : ∃ O1 O' : Ad, (∀ a, O1 a → O a) ∧ (∀ a, O' a → O a) ∧ (∀ a, O1 a → ¬ O' a) ∧ RepO G H A (te (v, t)).1 (te (v, t)).2 O1 ∧ FRx G C A σ (tm₁ ++ tm₂) env H O' := by
  have h := F.rep
  unfold ents at h
  rw [List.map_append, List.map_cons, ← List.append_assoc] at h
  obtain ⟨P, Q, h1, ⟨O1, O2, g1, g2, g3, g4, g5⟩, h3, h4, h5⟩ := RepL.split h
  refine ⟨O1, fun a => P a ∨ O2 a, fun a z => h4 a (g1 a z), fun a z => z.elim (h3 a) fun z => h4 a (g2 a z), fun a z q => q.elim (fun q => h5 a q (g1 a z)) (g3 a z), g4, ?_⟩
  refine ⟨F.len, ?_, fun a z => z.elim (fun z => F.sub a (.inl (z.elim (h3 a) fun z => h4 a (g2 a z)))) fun z => F.sub a (.inr z), fun a z => F.nw a (z.elim (h3 a) fun z => h4 a (g2 a z)), fun a z => F.mu a (z.elim (h3 a) fun z => h4 a (g2 a z)), fun w j q m => F.refs w j q ?_, F.kept, F.lent⟩
  · unfold ents
    rw [List.map_append, ← List.append_assoc]
    exact RepL.append h1 g5 (P := fun a => P a ∨ O2 a) (fun a z => .inl z) (fun a z => .inr z) fun a z q => h5 a z (g2 a q)
  · rcases List.mem_append.mp m with m | m
    · exact List.mem_append_left _ m
    · exact List.mem_append_right _ (List.mem_cons_of_mem _ m)
theorem FRx.alter (F : FRx G C A σ tm env H O) {i : Nat} {p : List Stp} {n : D} (h : env.at i p = some n) : ∃ (w : V) (O1 R : Ad), PlaceV H σ i p w ∧ (∀ w', PlaceV H σ i p w' → w' = w) ∧ (∀ a, O1 a → O a) ∧ (∀ a, R a → O a) ∧ (∀ a, O1 a → ¬ R a) ∧ Rep G H A n w O1 ∧
    ∀ (H' : Hp) (S : Ad) (n' : D) (O1' A' : Ad), Kept S H H' → (∀ a, S a → O1 a) → (∀ a, A' a → A a ∨ H a = none) → (∀ a, (R a ∨ O1' a) ∨ C.hid a → A' a) → Rep G H' A' n' w O1' → (∀ a, O1' a → ¬ R a) → (∀ a, O1' a → ¬ C.nw a) → (∀ a, O1' a → Mut (H' a)) →
      (∀ v j q, (v, T.ref j q) ∈ tm → PlaceV H' σ j q v) → FRx G C A' σ tm (env.put i p n') H' (fun a => R a ∨ O1' a) := by
  unfold Env.at at h
  obtain ⟨d, e1, e2⟩ := Option.bind_eq_some_iff.mp h
  obtain ⟨sv, hs, he, lt⟩ := ents_get (tm := tm) F.len e1
  obtain ⟨v₀, P1, R1, ev, g1, g2, g3, g4, g5⟩ := RepL.focus F.rep he
  subst ev
  obtain ⟨w, O1, R2, k1, k2, k3, k4, k5, k6, k7⟩ := Rep.zoom p d v₀ P1 n g4 e2
  refine ⟨w, O1, fun a => R1 a ∨ R2 a, ⟨v₀, hs, k1⟩, ?_, fun a z => g1 a (k3 a z), fun a z => z.elim (g2 a) fun z => g1 a (k4 a z), fun a z q => q.elim (g3 a (k3 a z)) (k5 a z), k6, ?_⟩
  · rintro w' ⟨v', e, q⟩
    rw [hs] at e; cases e
    exact k2 w' q
  intro H' S n' O1' A' kk hS hA hA' r dj hn hm hr
  have sMut : ∀ a, S a → Mut (H a) := fun a z => F.mu a (g1 a (k3 a (hS a z)))
  have hSA : ∀ a, S a → A a := fun a z => F.sub a (.inl (g1 a (k3 a (hS a z))))
  have r1 := k7 H' A' S n' O1' kk sMut hA hSA (fun a z q => k5 a (hS a q) z) r fun a z q => dj a z (.inr q)
  have r2 := g5 H' A' S (some (setP p n' d), some v₀) _ kk sMut hA hSA (fun a z q => g3 a (k3 a (hS a q)) z) r1 fun a z q => z.elim (fun z => g3 a (k4 a z) q) fun z => dj a z (.inl q)
  have ep : env.put i p n' = env.set i (some (setP p n' d)) := by unfold Env.put; rw [e1]; rfl
  have live : ∀ a, O a → ¬ S a → Mut (H' a) := fun a z q => by
    have m := F.mu a z
    cases e : H a with
    | none => rw [e] at m; exact m.elim
    | some x => rw [kk a x e q, ← e]; exact m
  refine ⟨by rw [ep, List.length_set]; exact F.len, ?_, hA', ?_, ?_, hr, ?_, F.lent⟩
  · rw [ep, ents_set hs (by rw [List.length_zip, F.len]; omega)]
    exact RepL.mono (fun a z => z.elim (fun z => .inl (.inl z)) fun z => z.elim (fun z => .inl (.inr z)) .inr) r2
  · rintro a (z | z)
    · exact F.nw a (z.elim (g2 a) fun z => g1 a (k4 a z))
    · exact hn a z
  · rintro a (z | z)
    · exact live a (z.elim (g2 a) fun z => g1 a (k4 a z)) fun q => z.elim (g3 a (k3 a (hS a q))) (k5 a (hS a q))
    · exact hm a z
  · intro a x e z
    exact kk a x (F.kept a x e z) fun q => F.nw a (g1 a (k3 a (hS a q))) z
/-- a list at a place is written: ds' stand there now, at vs'; the things at tm' are used up for it -/
theorem FRo.writeL {ov : V} {j : Nat} {p : List Stp} {ds : List D} {tm' : Tm} (F : FRo G C σ (tm ++ tm') env H O) (pv : PlaceV H σ j p ov) (hr : Roots tm) (h : env.at j p = some (.lst true ds)) :
    ∃ (a : Addr) (vs : List V), ov = .ref a ∧ H a = some (.lst vs) ∧ ds.length = vs.length ∧
    ∀ (ds' : List D) (vs' : List V), (∀ P Q : Ad, Reps G H (fun a => O a ∨ C.hid a) ds vs P → RepL G H (fun a => O a ∨ C.hid a) (tm'.map te) Q → (∀ a, P a → ¬ Q a) → Reps G H (fun a => O a ∨ C.hid a) ds' vs' (fun a => P a ∨ Q a)) →
      ∃ O', (∀ x, O' x → O x) ∧ FRo G C σ tm (env.put j p (.lst true ds')) (upd H a (.lst vs')) O' := by
  obtain ⟨P, Q, h1, h2, h3, h4, h5⟩ := F.split
  have Fx : FRx G C (fun a => O a ∨ C.hid a) σ tm env H P := ⟨F.len, h1, fun a z => z.elim (fun z => .inl (h3 a z)) .inr, fun a z => F.nw a (h3 a z), fun a z => F.mu a (h3 a z), F.pop.refs, F.kept, F.lent⟩
  obtain ⟨w, O1, R, q1, q2, q3, q4, q5, q6, q7⟩ := Fx.alter h
  obtain rfl := q2 ov pv
  simp only [Rep] at q6
  obtain ⟨a, vs, O', ev, g1, g2, g3, g4⟩ := q6
  refine ⟨a, vs, ev, g1, g4.length, fun ds' vs' hh => ?_⟩
  have dj : ∀ x, O' x → ¬ Q x := fun x z q => h5 x (q3 x (g3 x z).1) q
  have r := hh O' Q g4 h2 dj
  have nQa : ¬ Q a := fun q => h5 a (q3 a g2) q
  have kk : Kept (fun x => x = a) H (upd H a (.lst vs')) := fun b x e z => by rw [upd_ne z]; exact e
  have F2 := q7 (upd H a (.lst vs')) (fun x => x = a) (.lst true ds') (fun x => x = a ∨ O' x ∨ Q x) (fun a => O a ∨ C.hid a) kk (fun x z => by rw [z]; exact g2) (fun x z => .inl z) ?_ ?_ ?_ ?_ ?_ ?_
  · refine ⟨_, ?_, F2.o⟩
    rintro x (z | z | z | z)
    · exact h3 x (q4 x z)
    · rw [z]; exact h3 a (q3 a g2)
    · exact h3 x (q3 x (g3 x z).1)
    · exact h4 x z
  · rintro x ((z | z | z | z) | z)
    · exact .inl (h3 x (q4 x z))
    · rw [z]; exact .inl (h3 a (q3 a g2))
    · exact .inl (h3 x (q3 x (g3 x z).1))
    · exact .inl (h4 x z)
    · exact .inr z
  · simp only [Rep]
    refine ⟨a, vs', fun x => O' x ∨ Q x, ev, upd_same, .inl rfl, fun x z => ⟨.inr z, fun e => ?_⟩, ?_⟩
    · rcases z with z | z
      · exact (g3 x z).2 e
      · rw [e] at z; exact nQa z
    · exact Reps.kept kk (fun x z => by rw [z, g1]; trivial) (fun x z => .inl z) (fun x z => by rw [z]; exact .inl (h3 a (q3 a g2))) ds' vs' _ (fun x z e => by
        rcases z with z | z
        · exact (g3 x z).2 e
        · rw [e] at z; exact nQa z) r
  · rintro x (z | z | z) q
    · rw [z] at q; exact q5 a g2 q
    · exact q5 x (g3 x z).1 q
    · exact h5 x (q4 x q) z
  · rintro x (z | z | z)
    · rw [z]; exact F.nw a (h3 a (q3 a g2))
    · exact F.nw x (h3 x (q3 x (g3 x z).1))
    · exact F.nw x (h4 x z)
  · rintro x (z | z | z)
    · rw [z, upd_same]; trivial
    · rw [upd_ne (g3 x z).2]; exact F.mu x (h3 x (q3 x (g3 x z).1))
    · rw [upd_ne (fun e => by rw [e] at z; exact nQa z)]; exact F.mu x (h4 x z)
  · intro v j' q m
    have hq := hr v j' q m
    subst hq
    obtain ⟨v₀, e, z⟩ := F.pop.refs v j' [] m
    exact ⟨v₀, e, z⟩
/-- a dict at a place is written -/
theorem FRo.writeD {ov : V} {j : Nat} {p : List Stp} {ks ds : List D} (F : FRo G C σ tm env H O) (pv : PlaceV H σ j p ov) (hr : Roots tm) (h : env.at j p = some (.dic true ks ds)) :
    ∃ (a : Addr) (kv vs : List V), ov = .ref a ∧ DicAt G.w H a ks kv vs ∧ Reps G H (fun a => O a ∨ C.hid a) ks kv no ∧ Reps G H (fun a => O a ∨ C.hid a) ds vs no ∧
    ∀ (u : HO) (kv' vs' : List V) (ks' ds' : List D), Mut (some u) → DicAt G.w (upd H a u) a ks' kv' vs' → Reps G H (fun a => O a ∨ C.hid a) ks' kv' no → Reps G H (fun a => O a ∨ C.hid a) ds' vs' no →
      ∃ O', FRo G C σ tm (env.put j p (.dic true ks' ds')) (upd H a u) O' := by
  obtain ⟨w, O1, R, q1, q2, q3, q4, q5, q6, q7⟩ := F.alter h
  obtain rfl := q2 ov pv
  simp only [Rep] at q6
  obtain ⟨a, kv, vs, ev, g1, g2, g3, g4⟩ := q6
  refine ⟨a, kv, vs, ev, g1, g3, g4, fun u kv' vs' ks' ds' mu hd hk hv => ?_⟩
  have kk : Kept (fun x => x = a) H (upd H a u) := fun b x e z => by rw [upd_ne z]; exact e
  have hA : ∀ x, (R x ∨ x = a) ∨ C.hid x → (O x ∨ C.hid x) ∨ H x = none := by
    rintro x ((z | z) | z)
    · exact .inl (.inl (q4 x z))
    · rw [z]; exact .inl (.inl (q3 a g2))
    · exact .inl (.inr z)
  have cv : ∀ {es : List D} {ws : List V}, Reps G H (fun a => O a ∨ C.hid a) es ws no → Reps G (upd H a u) (fun x => (R x ∨ x = a) ∨ C.hid x) es ws no := fun {es ws} r =>
    Reps.kept kk (fun x z => by rw [z]; exact g1.mut) hA (fun x z => by rw [z]; exact .inl (q3 a g2)) es ws no (fun _ z => z.elim) r
  refine ⟨_, q7 (upd H a u) (fun x => x = a) (.dic true ks' ds') (fun x => x = a) kk (fun x z => by rw [z]; exact g2) ?_ ?_ ?_ ?_ ?_⟩
  · simp only [Rep]
    exact ⟨a, kv', vs', ev, hd, rfl, cv hk, cv hv⟩
  · intro x z q
    rw [z] at q
    exact q5 a g2 q
  · intro x z
    rw [z]; exact .inl g2
  · intro x z
    rw [z, upd_same]; exact mu
  · intro v j' q m
    have hq := hr v j' q m
    subst hq
    obtain ⟨v₀, e, z⟩ := F.refs v j' [] m
    exact ⟨v₀, e, z⟩
end
end LT
/-! LtN: lists written by methods and by places. -/
namespace LT
open PySem L2
section
variable {G : GK} {C : Fc} {W : WX} {X : Cx} {a b c : Expr} {sa sb sc : Bool} {eva evb evc : Env → R T} {pos : Pos} {σ : St} {tm : Tm} {env : Env} {H : Hp} {O : Ad} {ln : List Nat}
/-- a list's method, by values -/
inductive MutV (H : Hp) : Mu → List V → List V → V → List V → Prop
  | append {vs : List V} {y : V} : vs.length < sizeLine → MutV H .append vs [y] .non (vs ++ [y])
  | extend {vs ws : List V} {b : Addr} : H b = some (.lst ws) → vs.length + ws.length ≤ sizeLine → MutV H .extend vs [.ref b] .non (vs ++ ws)
  | pop {vs : List V} {y : V} : vs[vs.length - 1]? = some y → MutV H .pop vs [] y vs.dropLast
  | clear {vs : List V} : MutV H .clear vs [] .non []
  | reverse {vs : List V} : MutV H .reverse vs [] .non vs.reverse
theorem MutV.det {m : Mu} {vs us vs1 vs2 : List V} {z1 z2 : V} (h : MutV H m vs us z1 vs1) (h' : MutV H m vs us z2 vs2) : vs2 = vs1 := by
  cases h with
  | append _ => cases h'; rfl
  | extend e _ => cases h' with
    | extend e' _ => rw [e] at e'; cases e'; rfl
  | pop _ => cases h'; rfl
  | clear => cases h'; rfl
  | reverse => cases h'; rfl
def rMutV (m : Mu) : V → List V → Hp → VK → Prop := fun x us H Q => ∃ (a : Addr) (vs : List V) (z : V) (vs' : List V), x = .ref a ∧ H a = some (.lst vs) ∧ MutV H m vs us z vs' ∧ Q z (upd H a (.lst vs'))
theorem Reps.reverse {A : Ad} : ∀ {ds : List D} {vs : List V} {P : Ad}, Reps G H A ds vs P → Reps G H A ds.reverse vs.reverse P
  | [], _, P, h => by simp only [Reps] at h; subst h; simp [Reps]
  | d :: ds, _, P, h => by
    simp only [Reps] at h
    obtain ⟨v, vs', O1, O2, e, h1, h2, h3, h4, h5⟩ := h
    subst e
    rw [List.reverse_cons, List.reverse_cons]
    exact Reps.append (Reps.reverse h5) (O2 := O1) (by simp only [Reps]; exact ⟨v, [], O1, no, rfl, fun _ z => z, fun _ z => z.elim, fun _ _ z => z, h4, rfl⟩) h2 h1 fun a z q => h3 a q z
theorem Reps.take {A : Ad} : ∀ (n : Nat) {ds : List D} {vs : List V} {P : Ad}, Reps G H A ds vs P → Reps G H A (ds.take n) (vs.take n) P
  | 0, _, _, _, _ => by simp [Reps]
  | n + 1, [], _, P, h => by simp only [Reps] at h; subst h; simp [Reps]
  | n + 1, d :: ds, _, P, h => by
    simp only [Reps] at h
    obtain ⟨v, vs', O1, O2, e, h1, h2, h3, h4, h5⟩ := h
    subst e
    simp only [List.take_succ_cons, Reps]
    exact ⟨v, _, O1, O2, rfl, h1, h2, h3, h4, Reps.take n h5⟩
theorem mut_rel {m : Mu} {A P Q : Ad} {ds es : List D} {vs us : List V} {z : D} {ds' : List D} (h1 : Reps G H A ds vs P) (h2 : Reps G H A es us Q) (dj : ∀ a, P a → ¬ Q a) (h : mutL m ds es = some (z, ds')) :
    ∃ zv vs', MutV H m vs us zv vs' ∧ Reps G H A ds' vs' (fun a => P a ∨ Q a) ∧ z.own = false ∧ Rep G H A z zv no := by
  have hl := h1.length
  cases m
  · simp only [mutL] at h
    split at h
    · split at h
      · rename_i hz
        cases h
        simp only [Reps] at h2
        obtain ⟨v, vs1, O1, O2, e, g1, g2, g3, g4, g5⟩ := h2
        subst g5; subst e
        refine ⟨.non, vs ++ [v], .append (by rw [← hl, ← sizeL_eq]; exact hz), ?_, rfl, rfl⟩
        exact Reps.append h1 (O2 := O1) (by simp only [Reps]; exact ⟨v, [], O1, no, rfl, fun _ z => z, fun _ z => z.elim, fun _ _ z => z, g4, rfl⟩) (fun _ z => .inl z) (fun a z => .inr (g1 a z)) fun a z q => dj a z (g1 a q)
      · cases h
    · cases h
  · simp only [mutL] at h
    split at h
    · split at h
      · rename_i hz
        cases h
        simp only [Reps] at h2
        obtain ⟨v, vs1, O1, O2, e, g1, g2, g3, g4, g5⟩ := h2
        subst g5; subst e
        obtain ⟨b, ws, O', e, k1, k2, k3⟩ := g4.isLst
        subst e
        refine ⟨.non, vs ++ ws, .extend k1 (by rw [← hl, ← k3.length, ← sizeL_eq]; exact hz), ?_, rfl, rfl⟩
        exact Reps.append h1 k3 (fun _ z => .inl z) (fun a z => .inr (g1 a (k2 a z))) fun a z q => dj a z (g1 a (k2 a q))
      · cases h
    · cases h
  · simp only [mutL] at h
    split at h
    · split at h
      · rename_i d e
        split at h
        · cases h
        · rename_i ho
          cases h
          simp only [Reps] at h2
          subst h2
          rw [List.getLast?_eq_getElem?] at e
          obtain ⟨v, O1, k1, k2, k3⟩ := h1.get e
          refine ⟨v, vs.dropLast, .pop (by rw [← hl]; exact k1), ?_, by simpa using ho, k3.noown (by simpa using ho)⟩
          rw [List.dropLast_eq_take, List.dropLast_eq_take, hl]
          exact Reps.mono (fun a z => .inl z) (h1.take _)
      · cases h
    · cases h
  · cases es <;> simp only [mutL, reduceCtorEq] at h
    cases h
    simp only [Reps] at h2
    subst h2
    exact ⟨.non, [], .clear, by simp [Reps], rfl, rfl⟩
  · cases es <;> simp only [mutL, reduceCtorEq] at h
    cases h
    simp only [Reps] at h2
    subst h2
    exact ⟨.non, vs.reverse, .reverse, Reps.mono (fun _ z => .inl z) h1.reverse, rfl, rfl⟩
  · simp [mutL] at h
theorem repl_reps {A : Ad} {ds : List D} {us : List V} {Q : Ad} (hl : ds.length = us.length) (h : RepL G H A ((us.zip (ds.map T.val)).map te) Q) : Reps G H A ds us Q := reps_of hl h
theorem mutop_lst {m : Mu} {d : D} {es : List D} {z d' : D} (h : mutop m d es = some (z, d')) : ∃ ds ds', d = .lst true ds ∧ d' = .lst true ds' ∧ mutL m ds es = some (z, ds') := by
  unfold mutop at h
  split at h
  · rename_i xs
    obtain ⟨⟨z', ds'⟩, e1, e2⟩ := Option.map_eq_some_iff.mp h
    cases e2
    exact ⟨xs, ds', rfl, rfl, e1⟩
  · cases h
theorem mut_tE {m : Mu} {evas : Env → R (List T)} (hK : X.K = G.K) (σ : St) (H : Hp) (Q : VK) (h : tE G C W false (fun e => (eva e).bind fun t e => if (t.root || sb) && isL (peek t e) then (evas e).bind (mutT m t) else .err) σ H Q) :
    tBM X.K "list" (rMutV m) (tE G C W sa eva) (tEs G C W sb evas) σ H Q := by
  refine tE_bind (fun e => by cases e) h fun tm x t env H1 F hr s k => ?_
  by_cases hc : ((t.root || sb) && isL (peek t env)) = true
  · rw [if_pos hc] at k
    rw [Bool.and_eq_true] at hc
    have hL : ∃ ds, peek t env = some (.lst true ds) := by
      have := hc.2
      unfold isL at this
      split at this
      · exact ⟨_, by assumption⟩
      · cases this
    obtain ⟨ds0, hL⟩ := hL
    refine ⟨?_, tm ++ [(x, t)], env, F, fun e => (hr rfl).val (by have := hc.1; rw [e] at this; simpa using this), ?_⟩
    · obtain ⟨O, F⟩ := F
      obtain ⟨O1, _, r⟩ := F.look hL
      obtain ⟨a, vs, O', e, g1, _⟩ := r.isLst
      subst e
      exact .inl ⟨rfl, vs, .inl (.inl g1)⟩
    cases ea : evas env with
    | err => rw [ea] at k; exact k.elim
    | exc y env2 =>
      rw [ea] at k
      intro cls dx H2 xr F2
      exact k cls dx H2 xr F2.pop
    | ok ts env2 =>
      rw [ea] at k
      simp only [R.bind_ok] at k
      intro us H2 hl F2 s2
      unfold mutT at k
      cases t with
      | val d => exact k.elim
      | ref i p =>
        dsimp only at k
        cases e1 : escL ts env2 with
        | err => rw [e1] at k; exact k.elim
        | exc y e => exact (escL_noexc e1).elim
        | ok es env3 =>
          rw [e1] at k
          simp only [R.bind_ok] at k
          obtain ⟨O2, F2⟩ := F2
          obtain ⟨O3, m3, F3, l3⟩ := FRo.escL hl F2 e1
          cases e2 : env3.at i p with
          | none => rw [e2] at k; exact k.elim
          | some d =>
            rw [e2] at k
            dsimp only at k
            cases e3 : mutop m d es with
            | none => rw [e3] at k; exact k.elim
            | some zd =>
              obtain ⟨z, d'⟩ := zd
              rw [e3] at k
              dsimp only at k
              obtain ⟨ds, ds', rfl, rfl, e4⟩ := mutop_lst e3
              have pv : PlaceV H2 σ i p x := F3.refs x i p (List.mem_append_left _ (List.mem_append_right _ List.mem_cons_self))
              have F4 : FRo G C σ (tm ++ (x, T.ref i p) :: us.zip (es.map T.val)) env3 H2 O3 := by rw [List.append_assoc] at F3; exact F3
              obtain ⟨_, O5, _, m5, _, _, F5⟩ := F4.take
              obtain ⟨a, vs, ev, g1, g2, wr⟩ := F5.writeL pv (hr rfl) e2
              obtain ⟨P, Q1, h1, h2, h3, h4, h5⟩ := F5.split
              obtain ⟨O6, r6⟩ : ∃ O6, Reps G H2 (fun a => O5 a ∨ C.hid a) ds vs O6 ∧ (∀ a, O6 a → P a) ∧ O5 a := by
                have F6 : FRx G C (fun a => O5 a ∨ C.hid a) σ tm env3 H2 P := ⟨F5.len, h1, fun a z => z.elim (fun z => .inl (h3 a z)) .inr, fun a z => F5.nw a (h3 a z), fun a z => F5.mu a (h3 a z), F5.pop.refs, F5.kept, F5.lent⟩
                obtain ⟨w, O1, R1, q1, q2, q3, q4, q5, q6, q7⟩ := F6.alter e2
                obtain rfl := q2 x pv
                simp only [Rep] at q6
                obtain ⟨a', vs', O', e', f1, f2, f3, f4⟩ := q6
                rw [ev] at e'; cases e'
                rw [g1] at f1; cases f1
                exact ⟨O', f4, fun a z => q3 a (f3 a z).1, h3 a (q3 a f2)⟩
              obtain ⟨zv, vs', mv, _, zo, zr⟩ := mut_rel r6.1 (repl_reps l3 h2) (fun a z q => h5 a (r6.2.1 a z) q) e4
              refine ⟨a, vs, zv, vs', ev, g1, mv, ?_⟩
              obtain ⟨O7, m7, F7⟩ := wr ds' vs' fun P Q f1 f2 f3 => by
                obtain ⟨zv', vs'', mv', f4, _, _⟩ := mut_rel f1 (repl_reps l3 f2) f3 e4
                have : vs'' = vs' := mv.det mv'
                rw [← this]
                exact f4
              have r8 : Rep G (upd H2 a (.lst vs')) (fun a => O7 a ∨ C.hid a) z zv no := Rep.kept (S := fun b => b = a) (fun b y e q => by rw [upd_ne q]; exact e) (fun b q => by rw [q, g1]; trivial) (fun b q => .inl (q.elim (fun q => .inl (m7 b q)) .inr)) (fun b q => by rw [q]; exact .inl r6.2.2) z zv no (fun _ z => z.elim) zr
              exact k zv _ ⟨O7, F7.push0 (fun _ _ z => z) zo r8⟩ fun e => by cases e
  · rw [if_neg hc] at k; exact k.elim
theorem mt_any {m : Mu} (id : String) (h : MtR X id (rMutV m)) : True := trivial
theorem mr_append : MtR X "list.append" (rMutV .append) := fun pins s σ H x xs v us Q I r rs h => by
  obtain ⟨a, vs, z, vs', e1, e2, mv, q⟩ := h
  cases mv with
  | append hz => exact mt_append pins s σ H x _ v us Q I r rs ⟨a, vs, _, e1, rfl, e2, hz, q⟩
theorem mr_extend : MtR X "list.extend" (rMutV .extend) := fun pins s σ H x xs v us Q I r rs h => by
  obtain ⟨a, vs, z, vs', e1, e2, mv, q⟩ := h
  cases mv with
  | extend hb hz => exact mt_extend pins s σ H x _ v us Q I r rs ⟨a, _, vs, _, e1, rfl, e2, hb, hz, q⟩
theorem mr_pop : MtR X "list.pop" (rMutV .pop) := fun pins s σ H x xs v us Q I r rs h => by
  obtain ⟨a, vs, z, vs', e1, e2, mv, q⟩ := h
  cases mv with
  | pop hz => exact mt_pop pins s σ H x _ v us Q I r rs ⟨a, vs, _, e1, rfl, e2, hz, q⟩
theorem mr_clear : MtR X "list.clear" (rMutV .clear) := fun pins s σ H x xs v us Q I r rs h => by
  obtain ⟨a, vs, z, vs', e1, e2, mv, q⟩ := h
  cases mv with
  | clear => exact mt_clear pins s σ H x _ v us Q I r rs ⟨a, vs, e1, rfl, e2, q⟩
theorem mr_reverse : MtR X "list.reverse" (rMutV .reverse) := fun pins s σ H x xs v us Q I r rs h => by
  obtain ⟨a, vs, z, vs', e1, e2, mv, q⟩ := h
  cases mv with
  | reverse => exact mt_reverse pins s σ H x _ v us Q I r rs ⟨a, vs, e1, rfl, e2, q⟩
/-- o.m(e, ..) of a list that is written -/
theorem se_mut {m : Mu} {name : Str} {id : String} {apos cpos : Pos} {e : Expr} {es : List Expr} {evas : Env → R (List T)} (hK : X.K = G.K) (slot : Slot "list" name id) (hty : typeOf (.builtin id) = pure (.type "method_descriptor")) (hm : MtR X id (rMutV m)) (ho : PE X a (tE G C W sa eva)) (ha : PA X (e :: es) (tEs G C W sb evas))
    (hbase : attributeBase a name X.env (eval a X.env) = eval a X.env)
    (hfew : ((backTo cpos (starEach (e :: es) X.env)).all (fun x => !x.1) && (backToKw cpos (keywordEach [] X.env)).all (fun x => x.1.isSome)
      && decide ((e :: es).length + ([] : List Keyword).length + (if ([] : List Keyword).isEmpty then 0 else 1) < 30)) = true)
    (hline : (apos.endLine == cpos.line) = true) (hs : starEach (e :: es) X.env = (false, eval e X.env) :: starEach es X.env) (hplain : (backTo cpos (starEach es X.env)).any (·.1) = false) :
    PE X (.Call (.Attribute a name apos) (e :: es) [] cpos) (tE G C W false (fun e => (eva e).bind fun t e => if (t.root || sb) && isL (peek t e) then (evas e).bind (mutT m t) else .err)) :=
  PE.mono (pe_bm PySem.F.plainAttrs_list slot hty hm ho ha hbase hfew hline hs hplain) (mut_tE hK)
theorem mut_tE0 {m : Mu} (hK : X.K = G.K) (σ : St) (H : Hp) (Q : VK) (h : tE G C W false (fun e => (eva e).bind fun t e => if (t.root || true) && isL (peek t e) then (R.ok [] e).bind (mutT m t) else .err) σ H Q) :
    tBM0 X.K "list" (rMutV m) (tE G C W sa eva) σ H Q := by
  have h' := mut_tE (X := X) (sa := sa) (sb := true) (evas := fun e => .ok [] e) hK σ H Q h
  obtain ⟨tm, env, F, hr, h'⟩ := h'
  refine ⟨tm, env, F, hr, ?_⟩
  cases ea : eva env with
  | err => rw [ea] at h'; exact h'
  | exc x e => rw [ea] at h'; exact h'
  | ok t e =>
    rw [ea] at h'
    intro v H1 F1 s1
    obtain ⟨h1, tm2, env2, F2, _, h2⟩ := h' v H1 F1 s1
    exact ⟨h1, h2 [] H1 rfl (by simpa using F2) fun _ => Same.refl H1⟩
theorem se_mut0 {m : Mu} {name : Str} {id : String} {apos cpos : Pos} (hK : X.K = G.K) (slot : Slot "list" name id) (hty : typeOf (.builtin id) = pure (.type "method_descriptor")) (hm : MtR X id (rMutV m)) (ho : PE X a (tE G C W sa eva))
    (hbase : attributeBase a name X.env (eval a X.env) = eval a X.env) (hline : (apos.endLine == cpos.line) = true) :
    PE X (.Call (.Attribute a name apos) [] [] cpos) (tE G C W false (fun e => (eva e).bind fun t e => if (t.root || true) && isL (peek t e) then (R.ok [] e).bind (mutT m t) else .err)) :=
  PE.mono (pe_bm0 PySem.F.plainAttrs_list slot hty hm ho hbase hline) (mut_tE0 hK)
end
end LT
/-! LtO: places stored, targets, loops. -/
namespace LT
open PySem L2
section
variable {G : GK} {C : Fc} {W : WX} {X : Cx} {a b c : Expr} {sa sb sc : Bool} {eva evb evc : Env → R T} {pos : Pos} {σ : St} {tm : Tm} {env : Env} {H : Hp} {O : Ad} {ln : List Nat}
/-- an expression further on in a statement -/
theorem tE_got {tmx : Tm} {k : T → Env → F} {D : Ends} {Q' : VK} (F : FR G C σ (tm ++ tmx) env H) (hr : sa = false → Roots (tm ++ tmx)) (h : DoneF G C W tm D ((eva env).got k))
    (hQ : ∀ v t env1 H1, FR G C σ (tm ++ tmx ++ [(v, t)]) env1 H1 → DoneF G C W tm D (k t env1) → Q' v H1) : tE G C W sa eva σ H Q' := by
  refine ⟨tm ++ tmx, env, F, hr, ?_⟩
  cases ea : eva env with
  | err => rw [ea] at h; exact h
  | exc x env1 => rw [ea] at h; exact fun cls dx H1 xr F1 => h cls dx σ H1 xr F1.pop
  | ok t env1 =>
    rw [ea] at h
    exact fun v H1 F1 s1 => hQ v t env1 H1 F1 h
theorem FR.rs1 {v : V} {t : T} {d : D} {e' : Env} (F : FR G C σ (tm ++ [(v, t)]) env H) (h : rs t env = .ok d e') : ∃ O, FRo G C σ tm e' H O ∧ Vw G H (fun a => O a ∨ C.hid a) d v := by
  obtain ⟨O, F⟩ := F
  obtain ⟨O', _, F', r⟩ := FRo.rs (tm₂ := []) F h
  rw [List.append_nil] at F'
  exact ⟨O', F', r⟩
def setiK (t : T) (d : D) (u : T) (e : Env) : F := (rs u e).got fun x e => putT t (fun o => setD o x d) e
theorem set_all (hK : X.K = G.K) (hw : X.w = G.w) {x ov iv : V} {t u : T} {d : D} {env3 : Env} {H3 : Hp} {D : Ends} (hr : Roots tm) (F : FR G C σ (tm ++ [(x, .val d)] ++ [(ov, t)] ++ [(iv, u)]) env3 H3) (k : DoneF G C W tm D (setiK t d u env3)) : rSetL ov iv x H3 (fun H4 => D.nx σ H4) ∨ rSetX X.K X.w ov iv x H3 (fun H4 => D.nx σ H4) := by
  unfold setiK at k
  cases e1 : rs u env3 with
  | err => rw [e1] at k; exact k.elim
  | exc y e => exact (rs_noexc e1).elim
  | ok kd env4 =>
    rw [e1] at k
    simp only [R.got_ok] at k
    obtain ⟨O, F1, vk⟩ := F.rs1 e1
    cases t with
    | val o => exact k.elim
    | ref i p =>
      unfold putT at k
      dsimp only at k
      cases e2 : env4.at i p with
      | none => rw [e2] at k; exact k.elim
      | some o =>
        rw [e2] at k
        simp only [Option.bind_some] at k
        have pv : PlaceV H3 σ i p ov := F1.refs ov i p (List.mem_append_right _ List.mem_cons_self)
        cases e3 : setD o kd d with
        | none => rw [e3] at k; exact k.elim
        | some o' =>
          rw [e3] at k
          dsimp only at k
          unfold setD at e3
          split at e3
          · rename_i ds
            split at e3
            · rename_i n
              split at e3
              · rename_i m em
                cases e3
                obtain ⟨q, vs, ev, g1, g2, wr⟩ := F1.pop.writeL pv hr e2
                refine .inl ⟨q, vs, n, m, ev, vk.int, g1, by rw [ixN_of, ← g2]; exact em, ?_⟩
                obtain ⟨O5, _, F5⟩ := wr (ds.set m d) (vs.set m x) fun P Q f1 ⟨O1, O2, h1, h2, h3, h4, h5⟩ f3 => f1.put m h4 (fun a z => .inl z) (fun a z => .inr (h1 a z)) fun a z q => f3 a q (h1 a z)
                exact k σ _ ⟨O5, F5⟩
              · cases e3
            · cases e3
          · rename_i ks ws
            split at e3
            · rename_i hh
              rw [Bool.and_eq_true] at hh
              cases e3
              obtain ⟨P1, O', p1, p2, p3, rx, F'⟩ := FRo.take (tm₂ := []) (show FRo G C σ (tm ++ [(x, .val d)]) env4 H3 O from F1.pop)
              rw [List.append_nil] at F'
              have rx : Rep G H3 (fun a => O' a ∨ C.hid a) d.frz x no := Rep.frz (fun a z => .inl (z.elim (fun z => .inl (p2 a z)) .inr)) d x P1 (fun a z q => q.elim (p3 a z) (F1.hidO a (p1 a z))) rx no
              have rk := Vw.key hh.1 (vk.mono (B' := fun a => O' a ∨ C.hid a) fun a z => z.elim (fun z => .inl (p2 a z)) .inr)
              obtain ⟨a, kv, vs, ev, g1, g2, g3, wr⟩ := F'.writeD pv hr e2
              obtain ⟨u, kv', vs', dp, mu, g4, g5, g6⟩ := g1.put g2 g3 hh.1 rk rx (by simpa using hh.2)
              obtain ⟨O5, F5⟩ := wr u kv' vs' _ _ mu g4 g5 g6
              exact .inr ⟨a, _, ev, by rw [hK, hw]; exact dp, k σ _ ⟨O5, F5⟩⟩
            · cases e3
          · cases e3
theorem PSet.or {X : Cx} {t t' : TSet} (h : PSet X t) (h' : PSet X t') : PSet X (fun o i v H Q => t o i v H Q ∨ t' o i v H Q) := by
  intro pins s σ H o i v ov iv u Q I ro ri rv q
  rcases q with q | q
  · exact h pins s σ H o i v ov iv u Q I ro ri rv q
  · exact h' pins s σ H o i v ov iv u Q I ro ri rv q
theorem ss_seti (hK : X.K = G.K) (hW : X.w = G.w) (hu : X.A.units + 65 < cLine) {o k : Expr} {so sk : Bool} {evo evk : Env → R T} {tpos : Pos} (ha : PE X a (tE G C W sa eva)) (ho : PE X o (tE G C W true evo)) (hk : PE X k (tE G C W true evk))
    (hs : swapsWithSole [.Subscript o k tpos] a pos.line X.env = pure false) (hw : swappedStores [.Subscript o k tpos] a X.env = pure none)
    (h1 : (assignEach [.Subscript o k tpos] X.env).map (·.2) = [assign (.Subscript o k tpos) X.env])
    (hh : ∀ v, assign (.Subscript o k tpos) X.env v = (do
      let ov ← holding [v] (eval o X.env)
      let iv ← holding [v, ov] (eval k X.env)
      standAt tpos
      holding [v, ov, iv] (setItem ov iv v)
      release [v, ov, iv] [])) :
    PS X (.Assign [.Subscript o k tpos] a pos) (tS G C W ln (fun e => ((eva e).bind esc).go fun d e => (evo e).got fun t e => (evk e).got fun u e => setiK t d u e)) := by
  refine PS.mono (ps_asg ha (pg_sub ho hk (PSet.or set_list (set_dictX (by omega))) hh) hs hw h1) fun D σ H h => ?_
  have h' : tS G C W ln (fun e => (eva e).got fun t e => (esc t e).go fun d e => (evo e).got fun t e => (evk e).got fun u e => setiK t d u e) D σ H := by
    obtain ⟨tm, env, F, hp, hl, h⟩ := h
    exact ⟨tm, env, F, hp, hl, by dsimp only at h; rw [go_bind] at h; exact h⟩
  refine tS_val h' fun tm x t env H1 F hp hl k => ?_
  cases e1 : esc t env with
  | err => rw [e1] at k; exact k.elim
  | exc x e => exact (esc_noexc e1).elim
  | ok d e' =>
    rw [e1] at k
    simp only [R.go_ok] at k
    refine tE_got (F.esc1 e1) (fun e => by cases e) k fun ov t2 env2 H2 F2 k => ?_
    rw [List.append_assoc] at F2
    refine tE_got F2 (fun e => by cases e) k fun iv u env3 H3 F3 k => ?_
    exact set_all hK hW hp.roots (by simpa using F3) k

/-! ### targets -/
/-- d at v is bound to a target: what is asked -/
def DoneG (G : GK) (C : Fc) (W : WX) (tm : Tm) (Q : St → Hp → Prop) : F → Prop
  | .nx env => ∀ σ H, FR G C σ tm env H → Q σ H
  | _ => False
theorem sg_v {i : Nat} {d : D} {v : V} {Q : St → Hp → Prop} (F : FR G C σ (tm ++ [(v, .val d)]) env H) (hp : Pend tm ln) (hl : LentIn C ln) (k : DoneG G C W tm Q (asgD ln i d env)) : gName i v σ H Q := by
  unfold asgD at k
  split at k
  · exact k.elim
  · rename_i hi
    obtain ⟨O, F⟩ := F
    exact k _ _ ⟨O, F.asg1 hp hl (by simpa using hi)⟩
theorem FRo.dup {v : V} {d : D} (F : FRo G C σ tm env H O) (m : (v, T.val d) ∈ tm) (hd : d.own = false) : FRo G C σ (tm ++ [(v, .val d)]) env H O := by
  obtain ⟨l1, l2, e⟩ := List.append_of_mem m
  subst e
  obtain ⟨O1, O', h1, h2, h3, r, _⟩ := F.take
  exact F.push0 (fun _ _ z => z) hd (O1 := O1) r
/-- something in the middle is dropped -/
theorem FRo.mid {tm' tm2 : Tm} (F : FRo G C σ (tm ++ tm' ++ tm2) env H O) : FRo G C σ (tm ++ tm2) env H O := by
  obtain ⟨P, Q, h1, h2, h3, h4, h5⟩ := FRo.split (tm' := tm2) F
  refine ⟨F.len, ?_, F.nw, F.mu, fun w j p m => F.refs w j p ?_, F.kept, F.lent⟩
  · unfold ents at h1 ⊢
    rw [List.map_append, ← List.append_assoc] at h1 ⊢
    obtain ⟨P1, P2, g1, g2, g3, g4, g5⟩ := RepL.split h1
    exact RepL.append g1 h2 (fun a z => h3 a (g3 a z)) h4 fun a z => h5 a (g3 a z)
  · rcases List.mem_append.mp m with m | m
    · exact List.mem_append_left _ (List.mem_append_left _ m)
    · exact List.mem_append_right _ m
theorem FR.mid {tm' tm2 : Tm} (F : FR G C σ (tm ++ tm' ++ tm2) env H) : FR G C σ (tm ++ tm2) env H := let ⟨O, F⟩ := F; ⟨O, F.mid⟩
theorem wipe_wout : ∀ {vs : List Nat} {σ : St} {i : Nat} {v : Option V}, i ∉ vs → wipe (σ.set i v) vs = (wipe σ vs).set i v
  | [], σ, i, v, _ => rfl
  | j :: vs, σ, i, v, h => by
    simp only [wipe]
    rw [wipe_wout (fun z => h (List.mem_cons_of_mem _ z)), List.set_comm]
    exact fun e => h (by rw [e]; exact List.mem_cons_self)
theorem wipe_wiped : ∀ {vs : List Nat} {σ : St} {i : Nat} {v : Option V}, i ∈ vs → wipe (σ.set i v) vs = wipe σ vs
  | j :: vs, σ, i, v, h => by
    simp only [wipe]
    by_cases m : i ∈ vs
    · rw [wipe_wiped m]
    · obtain rfl : i = j := (List.mem_cons.mp h).resolve_right m
      rw [wipe_wout m, List.set_set]
theorem wipe_set {vs : List Nat} {σ : St} {i : Nat} {v : Option V} (h : i ∈ vs) : wipe (σ.set i v) vs = wipe σ vs := wipe_wiped h
/-- what a target is here -/
structure TgG (G : GK) (tg : Tg) (g : TG) : Prop where
  mono : ∀ v σ H (Q Q' : St → Hp → Prop), (∀ σ H, Q σ H → Q' σ H) → g v σ H Q → g v σ H Q'
  loc : ∀ v σ H (Q : St → Hp → Prop) (vs : List Nat), (∀ i ∈ slots tg, i ∈ vs) → g v σ H Q → g v σ H fun σ' H' => wipe σ' vs = wipe σ vs ∧ Q σ' H'
  ok : ∀ (C : Fc) (W : WX) (tm : Tm) (env : Env) (ln : List Nat) (σ : St) (H : Hp) (d : D) (v : V) (Q : St → Hp → Prop), FR G C σ (tm ++ [(v, .val d)]) env H → Pend tm ln → LentIn C ln → DoneG G C W tm Q (asgTD ln tg d env) → g v σ H Q
/-- a target and what it is here -/
structure TgOk (G : GK) (X : Cx) (target : Expr) (tg : Tg) (g : TG) : Prop where
  pg : PG X target g
  mono : ∀ v σ H (Q Q' : St → Hp → Prop), (∀ σ H, Q σ H → Q' σ H) → g v σ H Q → g v σ H Q'
  loc : ∀ v σ H (Q : St → Hp → Prop) (vs : List Nat), (∀ i ∈ slots tg, i ∈ vs) → g v σ H Q → g v σ H fun σ' H' => wipe σ' vs = wipe σ vs ∧ Q σ' H'
  ok : ∀ (C : Fc) (W : WX) (tm : Tm) (env : Env) (ln : List Nat) (σ : St) (H : Hp) (d : D) (v : V) (Q : St → Hp → Prop), FR G C σ (tm ++ [(v, .val d)]) env H → Pend tm ln → LentIn C ln → DoneG G C W tm Q (asgTD ln tg d env) → g v σ H Q
structure TgsOk (G : GK) (X : Cx) (ts : List Expr) (tg : Tg) (g : TGs) : Prop where
  pg : PGs X ts g
  mono : ∀ v σ H (Q Q' : St → Hp → Prop), (∀ σ H, Q σ H → Q' σ H) → g v σ H Q → g v σ H Q'
  loc : ∀ v σ H (Q : St → Hp → Prop) (vs : List Nat), (∀ i ∈ slots tg, i ∈ vs) → g v σ H Q → g v σ H fun σ' H' => wipe σ' vs = wipe σ vs ∧ Q σ' H'
  ok : ∀ (C : Fc) (W : WX) (tm ks : Tm) (env : Env) (ln : List Nat) (σ : St) (H : Hp) (ds : List D) (vs : List V) (Q : St → Hp → Prop), FR G C σ (tm ++ ks) env H → (∀ v i p, (v, T.ref i p) ∉ ks) → ds.length = vs.length → (∀ v d, (v, d) ∈ vs.zip ds → (v, T.val d) ∈ ks ∧ d.own = false) → Pend tm ln → LentIn C ln → DoneG G C W tm Q (asgTD ln tg (.tup ds) env) → g vs σ H Q
theorem tg_v {i : Nat} {x : Expr} (h : PG X x (gName i)) : TgOk G X x (.v i) (gName i) := ⟨h, fun v σ H Q Q' m h => m _ _ h, fun v σ H Q vs m h => ⟨wipe_set (m i List.mem_cons_self), h⟩, fun C W tm env ln σ H d v Q F hp hl k => sg_v F hp hl (by simpa [asgTD] using k)⟩
theorem tgs_nil : TgsOk G X [] .nil gNil := ⟨pgs_nil, fun v σ H Q Q' m h => ⟨h.1, m _ _ h.2⟩, fun v σ H Q vs m h => ⟨h.1, rfl, h.2⟩, fun C W tm ks env ln σ H ds vs Q F hk hl hm hp hln k => by
  cases ds with
  | nil =>
    obtain rfl : vs = [] := List.length_eq_zero_iff.mp hl.symm
    exact ⟨rfl, k σ H F.pop⟩
  | cons d ds => simp [asgTD, DoneG] at k⟩
theorem tgs_cons {e : Expr} {es : List Expr} {t ts : Tg} {g : TG} {gs : TGs} (h1 : TgOk G X e t g) (h2 : TgsOk G X es ts gs) (hs : (assignEach (e :: es) X.env).map (·.2) = assign e X.env :: (assignEach es X.env).map (·.2)) : TgsOk G X (e :: es) (.cons t ts) (gCons g gs) :=
  ⟨pgs_cons h1.pg h2.pg hs, fun v σ H Q Q' m ⟨w, r, e, h⟩ => ⟨w, r, e, h1.mono _ _ _ _ _ (fun σ' H' z => h2.mono _ _ _ _ _ m z) h⟩,
  fun v σ H Q vs m ⟨w, r, e, h⟩ => ⟨w, r, e, h1.mono _ _ _ _ _ (fun σ' H' z => h2.mono _ _ _ _ _ (fun σ2 H2 y => ⟨y.1.trans z.1, y.2⟩) (h2.loc _ _ _ _ _ (fun i k => m i (List.mem_append_right _ k)) z.2)) (h1.loc _ _ _ _ _ (fun i k => m i (List.mem_append_left _ k)) h)⟩, fun C W tm ks env ln σ H ds vs Q F hk hl hm hp hln k => by
    cases ds with
    | nil => simp [asgTD, DoneG] at k
    | cons d ds =>
      cases vs with
      | nil => simp at hl
      | cons v vs =>
        refine ⟨v, vs, rfl, ?_⟩
        simp only [asgTD] at k
        obtain ⟨m1, o1⟩ := hm v d (by simp)
        obtain ⟨O, F⟩ := F
        have hp' : Pend (tm ++ ks) ln := fun w i p m => (List.mem_append.mp m).elim (hp w i p) fun m => absurd m (hk w i p)
        refine h1.ok C W (tm ++ ks) env ln σ H d v _ ⟨O, F.dup (List.mem_append_right _ m1) o1⟩ hp' hln ?_
        cases e1 : asgTD ln t d env with
        | nx env1 =>
          rw [e1] at k
          intro σ' H' F'
          exact h2.ok C W tm ks env1 ln σ' H' ds vs Q F' hk (by simpa using hl) (fun w d' m => hm w d' (by simp [m])) hp hln k
        | _ => rw [e1] at k; simp [DoneG] at k⟩
theorem tg_tup {es : List Expr} {k : Nat} {ts : Tg} {gs : TGs} {n : Nat} (hK : X.K = G.K) (hc : X.calm = true) (h : TgsOk G X es ts gs) (hn : (assignEach es X.env).length = n) (hst : (assignEach es X.env).findIdx? (·.1) = none)
    (hlen : ∀ ln ds e e', asgTD ln ts (.tup ds) e = .nx e' → ds.length = n) (hno : ∀ ln d e e', asgTD ln ts d e = .nx e' → ∃ ds, d = .tup ds) : TgOk G X (.Tuple es k pos) ts (gTup X.K n gs) :=
  ⟨pg_tup hc h.pg hn hst, fun v σ H Q Q' m ⟨a, xs, e1, e2, e3, k⟩ => ⟨a, xs, e1, e2, e3, h.mono _ _ _ _ _ m k⟩, fun v σ H Q vs m ⟨a, xs, e1, e2, e3, k⟩ => ⟨a, xs, e1, e2, e3, h.loc _ _ _ _ _ m k⟩, fun C W tm env ln σ H d v Q F hp hl k => by
    cases e1 : asgTD ln ts d env with
    | nx env1 =>
      obtain ⟨ds, rfl⟩ := hno _ _ _ _ e1
      obtain ⟨O, O1, F0, r⟩ := F.top
      simp only [Rep] at r
      obtain ⟨a, vs, ev, g1, g2⟩ := r
      refine ⟨a, vs, ev, by rw [hK]; exact g1, by rw [← g2.length]; exact hlen _ _ _ _ e1, ?_⟩
      have own0 : ∀ (n : Nat) (d : D), ds[n]? = some d → d.own = false := fun n d e => by
        obtain ⟨v, O2, _, k2, k3⟩ := g2.get e
        cases ho : d.own with
        | false => rfl
        | true =>
          obtain ⟨b, _, q⟩ := k3.ref ho
          exact (k2 b q).elim
      -- the children, in between
      have push : ∀ (l : List (V × D)), (∀ p ∈ l, Rep G H (fun a => O a ∨ C.hid a) p.2 p.1 no ∧ p.2.own = false) → ∀ tm, FRo G C σ tm env H O → FRo G C σ (tm ++ l.map fun p => (p.1, T.val p.2)) env H O := by
        intro l
        induction l with
        | nil => intro _ tm F; simpa using F
        | cons p l ih =>
          intro hl tm F
          have h1 := hl p List.mem_cons_self
          have := ih (fun q m => hl q (List.mem_cons_of_mem _ m)) (tm ++ [(p.1, T.val p.2)]) (F.push0 (fun _ _ z => z) h1.2 (O1 := no) h1.1)
          rw [List.append_assoc] at this
          simpa using this
      have F1 := push (vs.zip ds) (fun p m => by
        obtain ⟨n, e⟩ := List.getElem?_of_mem m
        obtain ⟨ea, eb⟩ := List.getElem?_zip_eq_some.mp e
        obtain ⟨v', O2, k1, k2, k3⟩ := g2.get eb
        rw [ea] at k1; cases k1
        exact ⟨k3.noown (own0 n _ eb), own0 n _ eb⟩) tm F0.pop
      refine h.ok C W tm _ env ln σ H ds vs Q ⟨O, F1⟩ (fun w i p m => ?_) g2.length (fun w d m => ⟨List.mem_map.mpr ⟨(w, d), m, rfl⟩, ?_⟩) hp hl k
      · obtain ⟨q, _, e⟩ := List.mem_map.mp m
        cases e
      · obtain ⟨n, e⟩ := List.getElem?_of_mem m
        obtain ⟨ea, eb⟩ := List.getElem?_zip_eq_some.mp e
        exact own0 n _ eb
    | _ => rw [e1] at k; simp [DoneG] at k⟩
end
theorem TgOk.tgG {G : GK} {X : Cx} {target : Expr} {tg : Tg} {g : TG} (h : TgOk G X target tg g) : TgG G tg g := ⟨h.mono, h.loc, h.ok⟩
theorem asgTD_nx (ln : List Nat) : ∀ (tg : Tg) (d : D) (e : Env), (∀ x e', asgTD ln tg d e ≠ .ret x e') ∧ (∀ e', asgTD ln tg d e ≠ .brk e') ∧ (∀ e', asgTD ln tg d e ≠ .cnt e') ∧ ∀ x e', asgTD ln tg d e ≠ .exc x e'
  | .v i, d, e => by
    simp only [asgTD, asgD]
    split <;> simp
  | .nil, d, e => by cases d <;> first | simp [asgTD] | skip
                     rename_i l
                     cases l <;> simp [asgTD]
  | .cons t ts, d, e => by
    cases d <;> first | (simp [asgTD]; done) | skip
    rename_i l
    cases l with
    | nil => simp [asgTD]
    | cons d ds =>
      simp only [asgTD]
      have h1 := asgTD_nx ln t d e
      cases ea : asgTD ln t d e with
      | nx e1 => exact asgTD_nx ln ts (.tup ds) e1
      | ret x e1 => exact absurd ea (h1.1 _ _)
      | brk e1 => exact absurd ea (h1.2.1 _)
      | cnt e1 => exact absurd ea (h1.2.2.1 _)
      | exc x e1 => exact absurd ea (h1.2.2.2 _ _)
      | err => simp
/-! ### loops -/
/-- what a loop walks: the things ds, of the sources -/
structure Wk (G : GK) (st : Tm) (env₀ : Env) (ss : List T) (ds : List D) (J : L2.It) : Prop where
  go : ∀ (C : Fc) (tm : Tm) i σ env H, i ≤ ds.length → FR G C σ (tm ++ st) env H → (∀ t ∈ ss, Held t env₀ env) → (i < ds.length → J.go i H) ∧ (ds.length ≤ i → J.stop i H)
  yld : ∀ (C : Fc) (tm : Tm) i σ env H x H' d, FR G C σ (tm ++ st) env H → (∀ t ∈ ss, Held t env₀ env) → ds[i]? = some d → J.yld i H x H' → FR G C σ (tm ++ st ++ [(x, .val d)]) env H' ∧ Same H H'
def StOk (st : Tm) (ss : List T) : Prop := ∀ v i p, (v, T.ref i p) ∈ st → p = [] ∧ T.ref i p ∈ ss
section
variable (G : GK) (C : Fc) (W : WX)
def DoneI (σ : St) (tm : Tm) (H : Hp) (Q : L2.It → Hp → Prop) : R (List D × List T) → Prop
  | .ok r env => ∀ st J H', FR G C σ (tm ++ st) env H' → StOk st r.2 → Wk G st env r.2 r.1 J → Q J H'
  | .exc x env => ∀ cls dx H', G.XR x cls dx H' → FR G C σ tm env H' → W cls dx σ H'
  | .err => False
def tI (ev : Env → R (List D × List T)) : TI := fun σ H Q => ∃ tm env, FR G C σ tm env H ∧ Roots tm ∧ DoneI G C W σ tm H Q (ev env)
end
theorem mem_srcs {i : Nat} {p : List Stp} : ∀ {ss : List T} {l : List Nat}, T.ref i p ∈ ss → i ∈ srcs ss l
  | [], l, h => by simp at h
  | .val d :: ss, l, h => by
    rcases List.mem_cons.mp h with e | h
    · cases e
    · exact mem_srcs (ss := ss) h
  | .ref j q :: ss, l, h => by
    simp only [srcs]
    rcases List.mem_cons.mp h with e | h
    · cases e; exact List.mem_cons_self
    · exact List.mem_cons_of_mem _ (mem_srcs h)
theorem srcs_mem {i : Nat} : ∀ {ss : List T} {l : List Nat}, i ∈ l → i ∈ srcs ss l
  | [], l, h => h
  | .val d :: ss, l, h => srcs_mem (ss := ss) h
  | .ref j q :: ss, l, h => List.mem_cons_of_mem _ (srcs_mem (ss := ss) h)
section
variable {G : GK} {C : Fc} {W : WX} {X : Cx} {σ : St} {tm : Tm} {env : Env} {H : Hp} {O : Ad} {ln : List Nat} {pos : Pos}
open Classical in
theorem ss_for {target iter : Expr} {body : List Stmt} {tg : Tg} {g : TG} {evi : Env → R (List D × List T)} {evb : List Nat → Env → F} (hpo : PassesOwn (model X.prog X.w) X.A X.env X.xe) (hc : X.calm = true)
    (hi : PI X target iter (tI G C W evi)) (hg : TgOk G X target tg g) (hb : ∀ ln, PSs X body (tS G C W ln (evb ln))) (hs : ∀ x, foldedSetIterable iter X.env x = pure x) :
    PS X (.For target iter body [] pos) (tS G C W ln (fun e => (evi e).got fun r e => forL (fun d e => (asgTD (srcs r.2 ln) tg d e).bind fun e => evb (srcs r.2 ln) e) (fun e' => ∀ t ∈ r.2, Held t e e') r.1 e)) := by
  refine ⟨fun pins s σ H D I h => ?_⟩
  obtain ⟨tm, env, F, hp, hl, h⟩ := h
  dsimp only at h
  -- the body's list of slots is known ahead
  cases ei : evi env with
  | err => rw [ei] at h; exact h.elim
  | exc x e =>
    refine (ps_for hpo hc hi hg.pg (hb []) hs).run pins s σ H D I ⟨tm, env, F, hp.roots, ?_⟩
    rw [ei] at h ⊢
    exact fun cls dx H' xr F' => h cls dx σ H' xr F'
  | ok r env1 =>
    obtain ⟨ds, ss⟩ := r
    rw [ei] at h
    simp only [R.got_ok] at h
    refine (ps_for hpo hc hi hg.pg (hb (srcs ss ln)) hs).run pins s σ H D I ⟨tm, env, F, hp.roots, ?_⟩
    rw [ei]
    intro st J H1 F1 so wk
    refine ⟨fun i m σ H => ∃ env, m = ds.length - i ∧ i ≤ ds.length ∧ FR G C σ (tm ++ st) env H ∧ (∀ t ∈ ss, Held t env1 env) ∧
      DoneF G C W tm D (forL (fun d e => (asgTD (srcs ss ln) tg d e).bind fun e => evb (srcs ss ln) e) (fun e' => ∀ t ∈ ss, Held t env1 e') (ds.drop i) env), ⟨_, env1, rfl, Nat.zero_le _, F1, fun t _ => ?_, by simpa using h⟩, ?_⟩
    · cases t <;> simp [Held]
    rintro i m σ2 H2 ⟨env2, rfl, hi2, F2, held, k⟩
    obtain ⟨w1, w2⟩ := wk.go C tm i σ2 env2 H2 hi2 F2 held
    by_cases lt : i < ds.length
    · refine .inr ⟨w1 lt, _, fun σ' H' z => z, fun x H3 y => ?_⟩
      have ed : ds[i]? = some ds[i] := List.getElem?_eq_getElem lt
      obtain ⟨F3, _⟩ := wk.yld C tm i σ2 env2 H2 x H3 _ F2 held ed y
      rw [List.drop_eq_getElem_cons lt] at k
      simp only [forL] at k
      have hp' : Pend (tm ++ st) (srcs ss ln) := fun w j p m => (List.mem_append.mp m).elim (fun m => ⟨(hp w j p m).1, srcs_mem (hp w j p m).2⟩) fun m => ⟨(so w j p m).1, mem_srcs (so w j p m).2⟩
      have hl' : LentIn C (srcs ss ln) := fun p m => srcs_mem (hl p m)
      refine hg.ok C W (tm ++ st) env2 (srcs ss ln) σ2 H3 _ x _ F3 hp' hl' ?_
      cases ea : asgTD (srcs ss ln) tg ds[i] env2 with
      | nx env3 =>
        rw [ea] at k
        simp only [LT.F.bind_nx] at k
        intro σ4 H4 F4
        refine ⟨tm ++ st, env3, F4, hp', hl', ?_⟩
        have again : ∀ e (inst : Decidable (∀ t ∈ ss, Held t env1 e)), DoneF G C W tm D (@ite _ (∀ t ∈ ss, Held t env1 e) inst (forL (fun d e => (asgTD (srcs ss ln) tg d e).bind fun e => evb (srcs ss ln) e) (fun e' => ∀ t ∈ ss, Held t env1 e') (ds.drop (i + 1)) e) .err) →
            ∀ σ' H', FR G C σ' (tm ++ st) e H' → ∃ m', m' < ds.length - i ∧ ∃ env, m' = ds.length - (i + 1) ∧ i + 1 ≤ ds.length ∧ FR G C σ' (tm ++ st) env H' ∧ (∀ t ∈ ss, Held t env1 env) ∧
              DoneF G C W tm D (forL (fun d e => (asgTD (srcs ss ln) tg d e).bind fun e => evb (srcs ss ln) e) (fun e' => ∀ t ∈ ss, Held t env1 e') (ds.drop (i + 1)) env) := by
          intro e inst k σ' H' F'
          by_cases hd : ∀ t ∈ ss, Held t env1 e
          · rw [if_pos hd] at k
            exact ⟨_, by omega, e, rfl, lt, F', hd, k⟩
          · rw [if_neg hd] at k; exact k.elim
        cases eb : evb (srcs ss ln) env3 with
        | nx e => rw [eb] at k; dsimp only at k; exact again e _ k
        | cnt e => rw [eb] at k; dsimp only at k; exact again e _ k
        | brk e => rw [eb] at k; exact fun σ' H' F' => k σ' H' F'.pop
        | ret d e => rw [eb] at k; exact fun v σ' H' F' => k v σ' H' F'.mid
        | exc x e => rw [eb] at k; exact fun cls dx σ' H' xr F' => k cls dx σ' H' xr F'.pop
        | err => rw [eb] at k; exact k
      | ret d e => exact absurd ea ((asgTD_nx _ _ _ _).1 _ _)
      | brk e => exact absurd ea ((asgTD_nx _ _ _ _).2.1 _)
      | cnt e => exact absurd ea ((asgTD_nx _ _ _ _).2.2.1 _)
      | exc x e => exact absurd ea ((asgTD_nx _ _ _ _).2.2.2 _ _)
      | err => rw [ea] at k; exact k
    · have e : i = ds.length := by omega
      subst e
      rw [List.drop_length] at k
      exact .inl ⟨w2 (Nat.le_refl _), k σ2 H2 F2.pop⟩
end
end LT
set_option maxHeartbeats 1000000
/-! LtPz: zip and enumerate over lists, tuples and texts in any mix. -/
namespace LT
open PySem PySem.Spec PyProof.Rows L2
/-- what is walked beside others: a list, a tuple, a text -/
inductive SK where
  | l (a : Addr) | t (a : Addr) | s (z : PySem.Str)
def SK.v : SK → V
  | .l a => .ref a
  | .t a => .ref a
  | .s z => .str z
def SK.at (K : PySem.W.Frag) (H : Hp) : SK → List V → Prop
  | .l a, xs => SqL K H a xs
  | .t a, xs => SqT K H a xs
  | .s z, xs => xs = z.cps.toList.map fun c => V.str ⟨#[c]⟩
def SK.it (h : Heap) (it : Addr) (i : Nat) : SK → Prop
  | .l a => h.IsListIter it a i
  | .t a => h.IsTupleIter it a i
  | .s z => ∃ t, h.IsStrIter it (strIterType z) z t i
def SK.ads : SK → List Addr
  | .l a => [a]
  | .t a => [a]
  | .s _ => []
theorem SK.it_at {h h' : Heap} {it : Addr} {i : Nat} (k : ∀ o, h.get? it = some o → h'.get? it = some o) : ∀ {κ : SK}, κ.it h it i → κ.it h' it i
  | .l a, st => Heap.IsListIter.at st k
  | .t a, st => Heap.IsTupleIter.at st k
  | .s z, ⟨tk, o, ho, r⟩ => ⟨tk, o, k o ho, r⟩
theorem SK.it_obj {h : Heap} {it : Addr} {i : Nat} : ∀ {κ : SK}, κ.it h it i → ∃ o, h.get? it = some o ∧ ∀ v, o.data ≠ .cell v
  | .l a, ⟨o, ho, hc, hd⟩ => ⟨o, ho, fun v q => by rw [hd] at q; cases q⟩
  | .t a, ⟨o, ho, hc, hd⟩ => ⟨o, ho, fun v q => by rw [hd] at q; cases q⟩
  | .s z, ⟨tk, o, ho, hc, hd⟩ => ⟨o, ho, fun v q => by rw [hd] at q; cases q⟩
theorem SK.inj {X : Cx} {pins : List (Addr × Obj)} {σ : L2.St} {H : Hp} {s : Shared} (I : Inv X pins σ H s) : ∀ {κ : SK} {xs ys : List V}, κ.at X.K H xs → κ.at X.K H ys → xs = ys
  | .l a, _, _, h, h' => I.list_inj h h'
  | .t a, _, _, h, h' => I.tuple_inj h h'
  | .s z, _, _, h, h' => by rw [show _ = _ from h, show _ = _ from h']
/-- what an iterator of such draws now -/
theorem SK.draws {X : Cx} {pins : List (Addr × Obj)} {σ : L2.St} {H : Hp} {s : Shared} (hc : X.A.in1.handled = none) (I : Inv X pins σ H s) (it : Addr) : ∀ {κ : SK} {xs : List V}, κ.at X.K H xs → (∀ c ∈ κ.ads, c ≠ it) → ∃ (P : Nat → Value → Prop) (St : Nat → Heap → Prop),
    Draws X.prog X.w X.A.in1 it (it :: κ.ads) xs.length P St ∧ (∀ i, κ.it s.heap it i → St i s.heap) ∧ (∀ i h, St i h → κ.it h it i) ∧ ∀ i u, P i u → ∃ x, xs[i]? = some x ∧ RelV x u
  | .l a, xs, h, hn => by
    obtain ⟨its, rv, p, _⟩ := I.list h
    refine ⟨fun i v => its.toArray[i]? = some v, fun i h => h.IsListIter it a i ∧ h.IsList a its.toArray, by rw [rv.length]; exact Draws.list hc it a (hn a (by simp [SK.ads])) its.toArray, fun i st => ⟨st, p.isList⟩, fun i h st => st.1, fun i u hu => ?_⟩
    have hu' : its[i]? = some u := by simpa using hu
    have lt : i < xs.length := by
      have := (List.getElem?_eq_some_iff.mp hu').1
      rw [rv.length]; exact this
    obtain ⟨u2, h2, r2⟩ := rv.get (List.getElem?_eq_getElem lt)
    rw [hu'] at h2; cases h2
    exact ⟨_, List.getElem?_eq_getElem lt, r2⟩
  | .t a, xs, h, hn => by
    obtain ⟨its, rv, p, _⟩ := I.tuple h
    refine ⟨fun i v => its.toArray[i]? = some v, fun i h => h.IsTupleIter it a i ∧ h.IsTuple a its.toArray, by rw [rv.length]; exact Draws.tuple hc it a (hn a (by simp [SK.ads])) its.toArray, fun i st => ⟨st, p⟩, fun i h st => st.1, fun i u hu => ?_⟩
    have hu' : its[i]? = some u := by simpa using hu
    have lt : i < xs.length := by
      have := (List.getElem?_eq_some_iff.mp hu').1
      rw [rv.length]; exact this
    obtain ⟨u2, h2, r2⟩ := rv.get (List.getElem?_eq_getElem lt)
    rw [hu'] at h2; cases h2
    exact ⟨_, List.getElem?_eq_getElem lt, r2⟩
  | .s z, xs, h, hn => by
    have h : xs = z.cps.toList.map fun c => V.str ⟨#[c]⟩ := h
    have D := fun tk => Draws.text (prog := X.prog) (w := X.w) hc it z tk
    have hl : xs.length = z.cps.size := by rw [h, List.length_map, Array.length_toList]
    refine ⟨fun i v => ∃ c u, z.cps[i]? = some c ∧ v = .str ⟨#[c]⟩ u, fun i h => ∃ tk, h.IsStrIter it (strIterType z) z tk i, ?_, fun i st => st, fun i h st => st, fun i u hu => ?_⟩
    · rw [hl]
      exact {
        live := fun i h ⟨tk, st⟩ => (D tk).live i h st
        frame := fun i h h' ⟨tk, st⟩ k => ⟨tk, (D tk).frame i h h' st k⟩
        item := fun i s Q E hi ⟨tk, st⟩ q => (D tk).item i s Q E hi st fun x h' tk' p st' k => q x h' tk' p ⟨tk, st'⟩ k
        done := fun s Q E ⟨tk, st⟩ q => (D tk).done s Q E st q }
    · obtain ⟨c, t', hc', rfl⟩ := hu
      refine ⟨.str ⟨#[c]⟩, ?_, ⟨t', rfl⟩⟩
      rw [h, List.getElem?_map, Array.getElem?_toList, hc']
      rfl
/-- both as they stand at each turn, the items in new pairs -/
def ItG (K : PySem.W.Frag) (a b : SK) : L2.It :=
  ⟨fun i H => ∃ (xs ys : List V) (x y : V), a.at K H xs ∧ b.at K H ys ∧ xs[i]? = some x ∧ ys[i]? = some y,
    fun i H v H' => ∃ T x y, v = .ref T ∧ H T = none ∧ H' = upd H T (.tup [x, y]) ∧ (∀ xs, a.at K H xs → xs[i]? = some x) ∧ ∀ ys, b.at K H ys → ys[i]? = some y,
    fun i H => ∃ xs ys : List V, a.at K H xs ∧ b.at K H ys ∧ i ≤ xs.length ∧ i ≤ ys.length ∧ (i = xs.length ∨ i = ys.length)⟩
theorem nn {a b : Nat} (h : a ≠ b) : (show Addr from a) ≠ (show Addr from b) := h
theorem zsep {n : Nat} {a b : SK} (h : ∀ c ∈ a.ads ++ b.ads, c < n) : ZipSep2 (n + 4) (n + 2) (n + 3) n (n + 1) (n :: a.ads) ((n + 1) :: b.ads) where
  TIz := nn (by omega)
  TOz := nn (by omega)
  TITO := nn (by omega)
  TIi1 := nn (by omega)
  mem1 := List.mem_cons_self
  zf1 := fun m => by
    rcases List.mem_cons.mp m with m | m
    · have m : (n + 4 : Nat) = n := m
      omega
    · have : (n + 4 : Nat) < n := h _ (List.mem_append_left _ m)
      omega
  Tf1 := fun m => by
    rcases List.mem_cons.mp m with m | m
    · have m : (n + 3 : Nat) = n := m
      omega
    · have : (n + 3 : Nat) < n := h _ (List.mem_append_left _ m)
      omega
  TIi2 := nn (by omega)
  mem2 := List.mem_cons_self
  zf2 := fun m => by
    rcases List.mem_cons.mp m with m | m
    · have m : (n + 4 : Nat) = n + 1 := m
      omega
    · have : (n + 4 : Nat) < n := h _ (List.mem_append_right _ m)
      omega
  Tf2 := fun m => by
    rcases List.mem_cons.mp m with m | m
    · have m : (n + 3 : Nat) = n + 1 := m
      omega
    · have : (n + 3 : Nat) < n := h _ (List.mem_append_right _ m)
      omega
  sep1_2 := fun m => by
    rcases List.mem_cons.mp m with m | m
    · have m : (n : Nat) = n + 1 := m
      omega
    · have : (n : Nat) < n := h _ (List.mem_append_right _ m)
      omega
  sep2_1 := fun m => by
    rcases List.mem_cons.mp m with m | m
    · have m : (n + 1 : Nat) = n := m
      omega
    · have : (n + 1 : Nat) < n := h _ (List.mem_append_left _ m)
      omega
theorem turn_zipG {P : Program} {w : World} {K : PySem.W.Frag} {elts : List Expr} {kk : Nat} {tpos : Pos} {a b : SK} {n : Nat} (hn : ∀ c ∈ a.ads ++ b.ads, c < n) :
    Turn P w K (.Tuple elts kk tpos) (ItG K a b) [n + 4, n + 2, n + 3, n, n + 1] (n + 4) (fun i h => IsZip h (n + 4) (n + 2) (n + 3) .none ∧ IsTupOf2 h (n + 2) (.ref n) (.ref (n + 1)) ∧ (∃ x y, IsTupOf2 h (n + 3) x y) ∧ a.it h n i ∧ b.it h (n + 1) i) where
  mem := by simp
  obj := fun i h st c hc => by
    obtain ⟨hz, hTI, ⟨x, y, hTO⟩, h1, h2⟩ := st
    have e' : c = n + 4 ∨ c = n + 2 ∨ c = n + 3 ∨ c = n ∨ c = n + 1 := by simpa using hc
    rcases e' with q | q | q | q | q
    · rw [q]; exact ⟨_, hz, fun v q => nomatch q⟩
    · rw [q]; exact ⟨_, hTI, fun v q => nomatch q⟩
    · rw [q]; exact ⟨_, hTO, fun v q => nomatch q⟩
    · rw [q]; exact SK.it_obj h1
    · rw [q]; exact SK.it_obj h2
  keep := fun i h h' st k => by
    obtain ⟨hz, hTI, ⟨x, y, hTO⟩, h1, h2⟩ := st
    exact ⟨k _ (by simp) _ hz, k _ (by simp) _ hTI, ⟨x, y, k _ (by simp) _ hTO⟩, SK.it_at (fun o q => k n (by simp) o q) h1, SK.it_at (fun o q => k (n + 1) (by simp) o q) h2⟩
  item := by
    intro X hP hw hK hc i pins s σ H E I hf st hg
    subst hP hw hK
    obtain ⟨hz, hTI, ⟨x0, y0, hTO⟩, h1, h2⟩ := st
    obtain ⟨xs, ys, x, y, hqx, hqy, hx, hy⟩ := hg
    have D := zsep hn
    have hh : X.A.in1.handled = none := I.ok.hd hc
    obtain ⟨P1, St1, D1, a1, b1, c1⟩ := SK.draws hh I n hqx fun c m e => by
      have h1 : (show Nat from c) < n := hn c (List.mem_append_left _ m)
      have h2 : (show Nat from c) = n := e
      omega
    obtain ⟨P2, St2, D2, a2, b2, c2⟩ := SK.draws hh I (n + 1) hqy fun c m e => by
      have h1 : (show Nat from c) < n := hn c (List.mem_append_right _ m)
      have h2 : (show Nat from c) = n + 1 := e
      omega
    have lx : i < xs.length := (List.getElem?_eq_some_iff.mp hx).1
    have ly : i < ys.length := (List.getElem?_eq_some_iff.mp hy).1
    have hzl : n + 4 < s.heap.objs.size := Heap.lt_size hz
    refine wpAny_pyNext_zipD2_item D D1 D2 hz hTI hTO (a1 i h1) (a2 i h2) lx ly fun u u2 h' tk p1 p2 z' TO' h1' h2' hT hsz hk => ?_
    obtain ⟨x', ex, ru⟩ := c1 i u p1
    rw [hx] at ex; cases ex
    obtain ⟨y', ey, ru2⟩ := c2 i u2 p2
    rw [hy] at ey; cases ey
    refine ⟨_, rfl, wpAny_letOwnedTupleGo_zip (s := { s with heap := h', toks := tk }) z' fun h'' z'' sb => ?_⟩
    have hT2 : h''.get? s.heap.objs.size = some { cls := .type "tuple", data := .seq #[u, u2] } := (sb.2 _ (Nat.ne_of_gt hzl)).trans hT
    have new : ObjOk X.prog X.w (upd H s.heap.objs.size (.tup [x, y])) h'' s.heap.objs.size (.tup [x, y]) :=
      ⟨by show 2 ≤ sizeLine; decide, [u, u2], .cons ru (.cons ru2 .nil), ⟨_, hT2, rfl, _, rfl⟩⟩
    have I1 : Inv X pins σ (upd H s.heap.objs.size (.tup [x, y])) { s with heap := h'', toks := tk } :=
      I.turnedNew (t' := tk) (ch := [n + 4, n + 2, n + 3, n, n + 1]) (fun c o hb q => (sb.2 c (fun q' => hb (by simp [q']))).trans (hk c o (fun q' => hb (by simp [q'])) (fun q' => hb (by simp [q'])) (fun q' => hb (by simp [q'])) (fun q' => hb (by simp [q'])) q)) hf (Nat.le_refl _) new
    refine ⟨.ref s.heap.objs.size, _, I1, rfl, ⟨_, x, y, rfl, I.hok.fresh (Nat.le_refl _), rfl, fun l hl => by rw [SK.inj I hl hqx]; exact hx, fun l hl => by rw [SK.inj I hl hqy]; exact hy⟩, ⟨z'', ?_, ⟨u, u2, ?_⟩, ?_, ?_⟩, fun c hcm => ?_⟩
    · exact (sb.2 _ D.TIz).trans (hk _ _ D.TIz D.TITO D.TIi1 D.TIi2 hTI)
    · exact (sb.2 _ D.TOz).trans TO'
    · exact SK.it_at (fun o q => (sb.2 _ (nn (by omega))).trans q) (b1 _ _ h1')
    · exact SK.it_at (fun o q => (sb.2 _ (nn (by omega))).trans q) (b2 _ _ h2')
    · have gen : ∀ k, k ≤ 4 → n + k < s.heap.objs.size := fun k hk => by
        have hz2 : n + 4 < s.heap.objs.size := hzl
        omega
      have hlt : c < s.heap.objs.size := by
        have e' : c = n + 4 ∨ c = n + 2 ∨ c = n + 3 ∨ c = n ∨ c = n + 1 := by simpa using hcm
        rcases e' with q | q | q | q | q
        · rw [q]; exact gen 4 (by omega)
        · rw [q]; exact gen 2 (by omega)
        · rw [q]; exact gen 3 (by omega)
        · rw [q]; exact gen 0 (by omega)
        · rw [q]; exact gen 1 (by omega)
      rw [upd_ne (Nat.ne_of_lt hlt)]
      exact (hf c hcm).1
  done := by
    intro X hP hw hK hc i pins s σ H E I hf st hg
    subst hP hw hK
    obtain ⟨hz, hTI, ⟨x0, y0, hTO⟩, h1, h2⟩ := st
    obtain ⟨xs, ys, hqx, hqy, l1, l2, hend⟩ := hg
    have D := zsep hn
    have hh : X.A.in1.handled = none := I.ok.hd hc
    obtain ⟨P1, St1, D1, a1, b1, c1⟩ := SK.draws hh I n hqx fun c m e => by
      have h1 : (show Nat from c) < n := hn c (List.mem_append_left _ m)
      have h2 : (show Nat from c) = n := e
      omega
    obtain ⟨P2, St2, D2, a2, b2, c2⟩ := SK.draws hh I (n + 1) hqy fun c m e => by
      have h1 : (show Nat from c) < n := hn c (List.mem_append_right _ m)
      have h2 : (show Nat from c) = n + 1 := e
      omega
    exact wpAny_pyNext_zipD2_end D D1 D2 hz hTI hTO (a1 i h1) (a2 i h2) l1 l2 hend fun h' tk hk => ⟨rfl, I.turnedL (t' := tk) (ch := [n + 4, n + 2, n + 3, n, n + 1]) (fun c o hb q =>
      hk c o (fun q' => hb (by simp [q'])) (fun q' => hb (by simp [q'])) (fun q' => hb (by simp [q'])) (fun q' => hb (by simp [q'])) q) hf⟩
  self := fun A i s Q E st h => wpAny_pyIter_zip st.1 h
def iZipG (K : PySem.W.Frag) (ta : TA) : TI := fun σ H R => ta σ H fun vs H1 => ∃ (a b : SK) (xs ys : List V), vs = [a.v, b.v] ∧ a.at K H1 xs ∧ b.at K H1 ys ∧ R (ItG K a b) H1
/-- how each begins -/
theorem SK.begins {X : Cx} {pins : List (Addr × Obj)} {σ : L2.St} {H : Hp} {s : Shared} (I : Inv X pins σ H s) : ∀ {κ : SK} {xs : List V} {u : Value}, κ.at X.K H xs → RelV κ.v u → ∃ (o : Obj) (B : Heap → Prop), Begins u o B ∧ B s.heap ∧ (∀ c ∈ κ.ads, (show Nat from c) < s.heap.objs.size) ∧ ∀ h it, h.get? it = some o → κ.it h it 0
  | .l a, xs, u, h, r => by
    cases r
    obtain ⟨its, rv, p, _⟩ := I.list h
    exact ⟨_, _, begins_list a its.toArray, p.isList, fun c m => by rw [List.mem_singleton.mp m]; exact p.lt, fun h it e => ⟨_, e, rfl, rfl⟩⟩
  | .t a, xs, u, h, r => by
    cases r
    obtain ⟨its, rv, p, _⟩ := I.tuple h
    have p' : s.heap.IsTuple a its.toArray := p
    exact ⟨_, _, begins_tuple a its.toArray, p', fun c m => by
      obtain ⟨o, ho, _⟩ := p'
      rw [List.mem_singleton.mp m]; exact Heap.lt_size ho, fun h it e => ⟨_, e, rfl, rfl⟩⟩
  | .s z, xs, u, h, r => by
    obtain ⟨t, rfl⟩ := r
    exact ⟨_, _, begins_text z t, trivial, fun c m => (by cases m), fun h it e => ⟨t, _, e, rfl, rfl⟩⟩
theorem pi_zipG {X : Cx} {e e2 : Expr} {ta : TA} {p pos tpos : Pos} {elts : List Expr} {kk : Nat} (hg : Gl X "zip") (hm : X.mg "zip" = none) (ha : PA X [e, e2] ta)
    (hs : starEach [e, e2] X.env = (false, eval e X.env) :: starEach [e2] X.env := by rfl) (hpl : (backTo pos (starEach [e2] X.env)).any (·.1) = false := by rfl) :
    PI X (.Tuple elts kk tpos) (.Call (.Name "zip" p) [e, e2] [] pos) (iZipG X.K ta) := by
  refine ⟨fun pins s σ H R I h => ?_⟩
  refine Call_ (ld_blt I hg hm PyProof.Rows.boot_zip (PyProof.Rows.callWith_type1 (thn (ha.run pos pins s σ H _ I h) fun us s1 ⟨vs, H1, I1, r1, q1⟩ => ?_) hs hpl))
  obtain ⟨a, b, xs, ys, ex, hqx, hqy, q⟩ := q1
  subst ex
  cases r1 with
  | cons r rr =>
    cases rr with
    | cons r' rr =>
      cases rr
      obtain ⟨o1, B1, b1, h1, l1, i1⟩ := SK.begins I1 hqx r
      obtain ⟨o2, B2, b2, h2, l2, i2⟩ := SK.begins I1 hqy r'
      have fresh5 : ∀ c, c ∈ [s1.heap.objs.size + 4, s1.heap.objs.size + 2, s1.heap.objs.size + 3, s1.heap.objs.size, s1.heap.objs.size + 1] → FpOk X pins H1 c := fun c hcm => by
        have e' : c = s1.heap.objs.size + 4 ∨ c = s1.heap.objs.size + 2 ∨ c = s1.heap.objs.size + 3 ∨ c = s1.heap.objs.size ∨ c = s1.heap.objs.size + 1 := by simpa using hcm
        have hle : s1.heap.objs.size ≤ c := by
          rcases e' with z | z | z | z | z
          · rw [z]; exact Nat.le_add_right _ _
          · rw [z]; exact Nat.le_add_right _ _
          · rw [z]; exact Nat.le_add_right _ _
          · rw [z]; exact Nat.le_refl _
          · rw [z]; exact Nat.le_add_right _ _
        exact I1.fpOk hle (I1.hok.fresh hle)
      refine zip_begins2 b1 b2 h1 h2 fun h' hz hTI hTO g1 g2 hsz hk => wpAny_pyIter_zip hz ?_
      have I2 : Inv X pins σ H1 { s1 with heap := h' } := I1.kept (t' := s1.toks) hk
      exact ⟨s1.heap.objs.size + 4, [s1.heap.objs.size + 4, s1.heap.objs.size + 2, s1.heap.objs.size + 3, s1.heap.objs.size, s1.heap.objs.size + 1], _, _, H1, rfl, I2, turn_zipG (n := s1.heap.objs.size) (fun c m => (List.mem_append.mp m).elim (l1 c) (l2 c)), ⟨hz, hTI, ⟨_, _, hTO⟩, i1 _ _ g1, i2 _ _ g2⟩, fresh5, q⟩
/-! enumerate -/
def ItEG (K : PySem.W.Frag) (a : SK) : L2.It :=
  ⟨fun i H => ∃ (xs : List V) (x : V), a.at K H xs ∧ xs[i]? = some x, fun i H v H' => ∃ T x, v = .ref T ∧ H T = none ∧ H' = upd H T (.tup [.int (i : Nat), x]) ∧ ∀ xs, a.at K H xs → xs[i]? = some x, fun i H => ∃ xs : List V, a.at K H xs ∧ i = xs.length⟩
theorem turn_enumG {P : Program} {w : World} {K : PySem.W.Frag} {elts : List Expr} {kk : Nat} {tpos : Pos} {a : SK} {n : Nat} (hn : ∀ c ∈ a.ads, c < n) :
    Turn P w K (.Tuple elts kk tpos) (ItEG K a) [n + 1, n] (n + 1) (fun i h => (∃ old, IsEnum h (n + 1) n ((i : Nat) : Int) old) ∧ a.it h n i) where
  mem := by simp
  obj := fun i h st b hb => by
    obtain ⟨⟨old, he⟩, hi⟩ := st
    have e' : b = n + 1 ∨ b = n := by simpa using hb
    rcases e' with z | z
    · rw [z]; exact ⟨_, he, fun v q => nomatch q⟩
    · rw [z]; exact SK.it_obj hi
  keep := fun i h h' st k => let ⟨⟨old, he⟩, hi⟩ := st; ⟨⟨old, k (n + 1) (by simp) _ he⟩, SK.it_at (fun o q => k n (by simp) o q) hi⟩
  item := by
    intro X hP hw hK hc i pins s σ H E I hf st hg
    subst hP hw hK
    obtain ⟨⟨old, he⟩, hit⟩ := st
    obtain ⟨xs, x, hq, hx⟩ := hg
    have hh : X.A.in1.handled = none := I.ok.hd hc
    obtain ⟨P1, St1, D1, a1, b1, c1⟩ := SK.draws hh I n hq fun c m e => by
      have h1 : (show Nat from c) < n := hn c m
      have h2 : (show Nat from c) = n := e
      omega
    have lx : i < xs.length := (List.getElem?_eq_some_iff.mp hx).1
    have hel : n + 1 < s.heap.objs.size := Heap.lt_size he
    have hef : (show Addr from n + 1) ∉ (show Addr from n) :: a.ads := fun m => by
      rcases List.mem_cons.mp m with m | m
      · have m : (n + 1 : Nat) = n := m
        omega
      · have : (n + 1 : Nat) < n := hn _ m
        omega
    refine wpAny_pyNext_enum_itemD D1 he (a1 i hit) lx (nn (by omega)) hef fun u h' tk p1 ho hit' hT hsz hk => ?_
    obtain ⟨x', ex, ru⟩ := c1 i u p1
    rw [hx] at ex; cases ex
    refine ⟨_, rfl, wpAny_letOwnedTupleGo_enum (s := { s with heap := h', toks := tk + 1 }) ho fun h'' he' sb => ?_⟩
    have hT2 : h''.get? s.heap.objs.size = some { cls := .type "tuple", data := .seq #[.int i tk, u] } := (sb.2 _ (Nat.ne_of_gt hel)).trans hT
    have new : ObjOk X.prog X.w (upd H s.heap.objs.size (.tup [.int (i : Nat), x])) h'' s.heap.objs.size (.tup [.int (i : Nat), x]) :=
      ⟨by show 2 ≤ sizeLine; decide, [.int i tk, u], .cons ⟨_, rfl⟩ (.cons ru .nil), ⟨_, hT2, rfl, _, rfl⟩⟩
    have I1 : Inv X pins σ (upd H s.heap.objs.size (.tup [.int (i : Nat), x])) { s with heap := h'', toks := tk + 1 } :=
      I.turnedNew (t' := tk + 1) (ch := [n + 1, n]) (fun b ob hb q => (sb.2 b (fun z => hb (by simp [z]))).trans (hk b ob (fun z => hb (by simp [z])) (fun z => hb (by simp [z])) q)) hf (Nat.le_refl _) new
    refine ⟨.ref s.heap.objs.size, _, I1, rfl, ⟨_, x, rfl, I.hok.fresh (Nat.le_refl _), rfl, fun ys hy => by rw [SK.inj I hy hq]; exact hx⟩, ⟨⟨u, ?_⟩, SK.it_at (fun o q => (sb.2 n (nn (by omega))).trans q) (b1 _ _ hit')⟩, fun b hb => ?_⟩
    · have e1 : ((i + 1 : Nat) : Int) = (i : Int) + 1 := by omega
      rw [e1]; exact he'
    · have gen : ∀ k, k ≤ 1 → n + k < s.heap.objs.size := fun k hk => by
        have hz2 : n + 1 < s.heap.objs.size := hel
        omega
      have hb' : b < s.heap.objs.size := by
        have e' : b = n + 1 ∨ b = n := by simpa using hb
        rcases e' with z | z
        · rw [z]; exact gen 1 (by omega)
        · rw [z]; exact gen 0 (by omega)
      rw [upd_ne (Nat.ne_of_lt hb')]
      exact (hf b hb).1
  done := by
    intro X hP hw hK hc i pins s σ H E I hf st hg
    subst hP hw hK
    obtain ⟨⟨old, he⟩, hit⟩ := st
    obtain ⟨xs, hq, rfl⟩ := hg
    have hh : X.A.in1.handled = none := I.ok.hd hc
    obtain ⟨P1, St1, D1, a1, b1, c1⟩ := SK.draws hh I n hq fun c m e => by
      have h1 : (show Nat from c) < n := hn c m
      have h2 : (show Nat from c) = n := e
      omega
    obtain ⟨f0, f1, f2, f3, f4, f5⟩ := hf n (by simp)
    exact wpAny_pyNext_enum_endD D1 he (a1 _ hit) fun h' eb => ⟨rfl, I.turned (t' := s.toks) (fun b o hb q => eb b o hb q) f0 f1 f3 f4 f5⟩
  self := fun A i s Q E st h => let ⟨⟨_, he⟩, _⟩ := st; wpAny_pyIter_enum he h
theorem meets_enumerate_newB1 {v : Value} {o : Obj} {H : Heap → Prop} (B : Begins v o H) :
    Meets (Builtin.«enumerate.__new__» ⟨[.type "enumerate", v], []⟩) (fun _ R s => H s.heap ∧
      R (.ok (.ret (.ref (s.heap.push o).objs.size))) { s with heap := (s.heap.push o).push { cls := .type "enumerate", data := .fields #[.none, .bool false, .ref s.heap.objs.size, rawInt 0, .none, .none] } }) :=
  .of_wp fun prog w A R s h => by
    obtain ⟨hp, g, d, tk, os⟩ := s; obtain ⟨h1, h⟩ := h
    have hsub := sub_enumerate
    have q1 : ∀ {A' : Around} {E : Value → Shared → Prop} {Q : Value → Shared → Prop}, Q (.ref hp.objs.size) ⟨hp.push o, g, d, tk, os⟩ → wpAny (model prog w) A' (pyIter v) Q E ⟨hp, g, d, tk, os⟩ :=
      fun q => B.iter prog w _ _ ⟨hp, g, d, tk, os⟩ _ h1 q
    wp_walk using q1
    refine wpAny_stack_any fun st => wpAny_pure ?_
    split
    · rename_i c _ _ _ _ _
      cases (c == Value.type "enumerate")
      · wp_walk using q1
        exact ⟨_, rfl, h⟩
      · wp_walk using q1
        exact ⟨_, rfl, h⟩
    · wp_walk using q1
      exact ⟨_, rfl, h⟩
theorem enum_begins1 {prog : Program} {w : World} {A : Around} {E : Value → Shared → Prop} {s : Shared} {v : Value} {o : Obj} {H : Heap → Prop} {Q : Value → Shared → Prop} (B : Begins v o H) (h1 : H s.heap)
    (h : ∀ h', IsEnum h' (s.heap.objs.size + 1) s.heap.objs.size 0 .none → h'.get? s.heap.objs.size = some o → h'.objs.size = s.heap.objs.size + 2 →
      (∀ b o, s.heap.get? b = some o → h'.get? b = some o) → Q (.ref (s.heap.objs.size + 1)) { s with heap := h' }) :
    wpAny (model prog w) A (PySem.call (.type "enumerate") [v]) Q E s := by
  refine callType_new F.called_enumerate (by decide) (F.typeCall_enumerate_1 _) (F.newCall_enumerate_1 _) (fun obj => F.args_object_init_2 obj _) F.entry_enumerate_new
    (meets_enumerate_newB1 B) ⟨h1, ?_⟩
  have hz : (s.heap.push o).objs.size = s.heap.objs.size + 1 := Heap.size_push ..
  show _ ∧ _
  rw [hz]
  have he : IsEnum ((s.heap.push o).push { cls := .type "enumerate", data := .fields #[.none, .bool false, .ref s.heap.objs.size, rawInt 0, .none, .none] }) (s.heap.objs.size + 1) s.heap.objs.size 0 .none := by
    have := Heap.get?_push_size (s.heap.push o) (o := { cls := .type "enumerate", data := .fields #[.none, .bool false, .ref s.heap.objs.size, rawInt 0, .none, .none] }) rfl
    rw [hz] at this; exact this
  refine ⟨⟨_, he, rfl⟩, h _ he (Heap.get?_push_of_some _ (Heap.get?_push_size _ B.free)) (by rw [Heap.size_push, hz]) fun b o x => Heap.get?_push_of_some _ (Heap.get?_push_of_some _ x)⟩
def iEnumG (K : PySem.W.Frag) (ta : TA) : TI := fun σ H R => ta σ H fun vs H1 => ∃ (a : SK) (xs : List V), vs = [a.v] ∧ a.at K H1 xs ∧ R (ItEG K a) H1
theorem pi_enumG {X : Cx} {e : Expr} {ta : TA} {p pos tpos : Pos} {elts : List Expr} {kk : Nat} (hg : Gl X "enumerate") (hm : X.mg "enumerate" = none) (ha : PA X [e] ta) (hs : starEach [e] X.env = [(false, eval e X.env)] := by rfl) :
    PI X (.Tuple elts kk tpos) (.Call (.Name "enumerate" p) [e] [] pos) (iEnumG X.K ta) := by
  refine ⟨fun pins s σ H R I h => ?_⟩
  refine Call_ (ld_blt I hg hm boot_enumerate (PyProof.Rows.callWith_type1 (thn (ha.run pos pins s σ H _ I h) fun us s1 ⟨vs, H1, I1, r1, q1⟩ => ?_) hs rfl))
  obtain ⟨a, xs, ex, hq, q⟩ := q1
  subst ex
  cases r1 with
  | cons r rr =>
    cases rr
    obtain ⟨o1, B1, b1, h1, l1, i1⟩ := SK.begins I1 hq r
    refine enum_begins1 b1 h1 ?_
    intro h' he g1 hsz hk
    refine wpAny_pyIter_enum he ?_
    have I2 : Inv X pins σ H1 { s1 with heap := h' } := I1.kept (t' := s1.toks) hk
    refine ⟨s1.heap.objs.size + 1, [s1.heap.objs.size + 1, s1.heap.objs.size], _, _, H1, rfl, I2, turn_enumG (n := s1.heap.objs.size) l1, ⟨⟨.none, he⟩, i1 _ _ g1⟩, fun b hb => ?_, q⟩
    have e' : b = s1.heap.objs.size + 1 ∨ b = s1.heap.objs.size := by simpa using hb
    have hle : s1.heap.objs.size ≤ b := by
      rcases e' with z | z
      · rw [z]; exact Nat.le_add_right _ _
      · rw [z]; exact Nat.le_refl _
    exact I1.fpOk hle (I1.hok.fresh hle)
end LT
/-! LtP: what a loop walks. -/
namespace LT
open PySem L2
section
variable {G : GK} {C : Fc} {W : WX} {X : Cx} {σ : St} {tm : Tm} {env : Env} {H H' : Hp} {O : Ad} {ln : List Nat} {pos : Pos}
/-- a thing in between is let go for good -/
theorem FRo.frzM {tm₁ tm₂ : Tm} {v : V} {d : D} (F : FRo G C σ (tm₁ ++ (v, .val d) :: tm₂) env H O) : ∃ O', (∀ a, O' a → O a) ∧ FRo G C σ (tm₁ ++ (v, .val d.frz) :: tm₂) env H O' := by
  have h := F.rep
  unfold ents at h
  rw [List.map_append, List.map_cons, ← List.append_assoc] at h
  have hn : (env.zip σ ++ tm₁.map te ++ te (v, .val d) :: tm₂.map te)[(env.zip σ ++ tm₁.map te).length]? = some (some d, some v) := by
    rw [List.getElem?_append_right (Nat.le_refl _), Nat.sub_self]
    rfl
  obtain ⟨w, O1, R, e, h1, h2, h3, r, k⟩ := RepL.focus h hn
  cases e
  have r' : Rep G H (fun a => (R a ∨ no a) ∨ C.hid a) d.frz v no := Rep.frz (fun a z => .inl (z.elim (fun z => .inl (z.elim (h2 a) fun z => z.elim)) .inr)) d v O1 (fun a z q => q.elim (fun q => q.elim (h3 a z) fun q => q) fun q => F.hidO a (h1 a z) q) r no
  have z := k H (fun a => (R a ∨ no a) ∨ C.hid a) no (some d.frz, some v) no (Kept.refl H) (fun _ z => z.elim) (fun a z => .inl (z.elim (fun z => .inl (z.elim (h2 a) fun z => z.elim)) .inr)) (fun _ z => z.elim) (fun _ _ z => z) r' (fun _ z => z.elim)
  rw [List.set_append_right _ _ (Nat.le_refl _), Nat.sub_self, List.set_cons_zero] at z
  refine ⟨fun a => R a ∨ no a, fun a z => z.elim (h2 a) fun z => z.elim, ⟨F.len, ?_, fun a z => F.nw a (z.elim (h2 a) fun z => z.elim), fun a z => F.mu a (z.elim (h2 a) fun z => z.elim), fun w j q m => F.refs w j q ?_, F.kept, F.lent⟩⟩
  · unfold ents
    rw [List.map_append, List.map_cons, ← List.append_assoc]
    exact z
  · rcases List.mem_append.mp m with m | m
    · exact List.mem_append_left _ m
    · rcases List.mem_cons.mp m with m | m
      · cases m
      · exact List.mem_append_right _ (List.mem_cons_of_mem _ m)
theorem FRo.lookM {tm₁ tm₂ : Tm} {v : V} {t : T} {d : D} (F : FRo G C σ (tm₁ ++ (v, t) :: tm₂) env H O) (h : peek t env = some d) : ∃ O1, (∀ a, O1 a → O a) ∧ Rep G H (fun a => O a ∨ C.hid a) d v O1 := by
  cases t with
  | val d₀ =>
    cases h
    obtain ⟨O1, O', h1, h2, h3, r, F'⟩ := FRo.take F
    exact ⟨O1, h1, r⟩
  | ref i p =>
    obtain ⟨w, O1, R, _, u, h1, _, _, r, _⟩ := F.alter (show env.at i p = some d from h)
    have pv := F.refs v i p (List.mem_append_right _ List.mem_cons_self)
    obtain rfl := u v pv
    exact ⟨O1, h1, r⟩
theorem src_noexc {t : T} {e e' : Env} {x : D} (h : src t e = .exc x e') : False := by
  cases t with
  | val d => unfold src at h; dsimp only at h; split at h <;> cases h
  | ref i p =>
    unfold src at h
    dsimp only at h
    split at h
    · cases h
    · split at h
      · split at h
        · split at h <;> cases h
        · split at h <;> cases h
      · cases h
theorem knd_cases (d : D) : knd d = 0 ∨ knd d = 1 ∨ knd d = 2 := by
  cases d <;> first | exact .inl rfl | exact .inr (.inl rfl) | exact .inr (.inr rfl)
theorem frz_id {d : D} (h : d.own = false) : d.frz = d := by
  cases d with
  | lst o l => cases o with
    | true => cases h
    | false => rfl
  | dic o ks ds => cases o with
    | true => cases h
    | false => rfl
  | ins o c ks ds => cases o with
    | true => cases h
    | false => rfl
  | _ => rfl
theorem plain_frz : ∀ d : D, knd d.frz = knd d := by
  intro d
  cases d with
  | lst o l => cases o <;> rfl
  | dic o ks ds => cases o <;> rfl
  | ins o c ks ds => cases o <;> rfl
  | _ => rfl
/-- what src gives is kept -/
theorem FRo.src {tm₁ tm₂ : Tm} {v : V} {t t' : T} {e' : Env} {k : Nat} {ds : List D} (F : FRo G C σ (tm₁ ++ (v, t) :: tm₂) env H O) (h : LT.src t env = .ok (k, ds, t') e') :
    ∃ O', (∀ a, O' a → O a) ∧ FRo G C σ (tm₁ ++ (v, t') :: tm₂) e' H O' ∧ t'.root = true ∧ ∃ d, peek t' e' = some d ∧ knd d = k ∧ itemsOf d = some ds ∧ (d.own = false ∨ d.plain = true) := by
  cases t with
  | val d =>
    unfold LT.src at h
    dsimp only at h
    cases e : itemsOf d.frz with
    | none => rw [e] at h; cases h
    | some xs =>
      rw [e] at h
      cases h
      obtain ⟨O', m, F'⟩ := F.frzM
      exact ⟨O', m, F', rfl, d.frz, rfl, plain_frz d, e, .inl (own_frz d)⟩
  | ref i p =>
    unfold LT.src at h
    dsimp only at h
    cases e : env.at i p with
    | none => rw [e] at h; cases h
    | some d =>
      rw [e] at h
      dsimp only at h
      by_cases hp : p.isEmpty = true
      · rw [if_pos hp] at h
        by_cases hd : d.plain = true
        · rw [if_pos hd] at h
          cases ei : itemsOf d with
          | none => rw [ei] at h; cases h
          | some xs =>
            rw [ei] at h
            cases h
            exact ⟨O, fun _ z => z, F, hp, d, e, rfl, ei, .inr hd⟩
        · rw [if_neg hd] at h
          cases ei : itemsOf d.frz with
          | none => rw [ei] at h; cases h
          | some xs =>
            rw [ei] at h
            cases h
            obtain rfl : p = [] := List.isEmpty_iff.mp hp
            have es : LT.esc (.ref i []) env = .ok d.frz (env.set i (some d.frz)) := by
              unfold LT.esc
              dsimp only
              rw [e]
              rfl
            obtain ⟨O', m, F'⟩ := F.esc es
            exact ⟨O', m, F', rfl, d.frz, rfl, plain_frz d, ei, .inl (own_frz d)⟩
      · rw [if_neg hp] at h; cases h
/-- what is walked, as it stands -/
def SeqAt (G : GK) (H : Hp) (A : Ad) (k : Nat) (ds : List D) (v : V) : Prop :=
  if k = 0 then ∃ a vs, v = .ref a ∧ SqL G.K H a vs ∧ Reps G H A ds vs no else if k = 1 then ∃ a vs, v = .ref a ∧ SqT G.K H a vs ∧ Reps G H A ds vs no else ∃ s : Cs, v = .str (sOf s) ∧ ds = s.map fun c => .str [c]
theorem Reps.scr {A : Ad} : ∀ {ns : List Int}, Reps G H A (ns.map D.int) (ns.map V.int) no
  | [] => rfl
  | n :: ns => ⟨_, _, no, no, rfl, fun _ z => z, fun _ z => z, fun _ z => z.elim, rfl, Reps.scr⟩
theorem SeqAt.of {A : Ad} {d : D} {v : V} {ds : List D} (r : Rep G H A d v O) (h : itemsOf d = some ds) (hp : d.own = false ∨ d.plain = true) : SeqAt G H A (knd d) ds v := by
  cases d with
  | lst o l =>
    cases h
    obtain ⟨a, vs, O', e, h1, h2, h3⟩ := r.isLst
    refine ⟨a, vs, e, .inl (.inl h1), ?_⟩
    rcases hp with hp | hp
    · cases o with
      | true => cases hp
      | false =>
        simp only [Rep] at r
        obtain ⟨a', vs', e', g1, g2, g3⟩ := r
        cases e
        cases e'
        rw [h1] at g1; cases g1
        exact g3
    · exact h3.noown hp
  | tup l =>
    cases h
    simp only [Rep] at r
    obtain ⟨a, vs, e, h1, h2⟩ := r
    exact ⟨a, vs, e, h1, h2⟩
  | scr ns =>
    cases h
    simp only [Rep] at r
    obtain ⟨a, e, h1⟩ := r
    exact ⟨a, _, e, h1.sq, Reps.scr⟩
  | str s =>
    cases h
    simp only [Rep] at r
    exact ⟨s, r, rfl⟩
  | _ => cases h
theorem FRo.seqAt {tm₁ tm₂ : Tm} {v : V} {t : T} {d : D} {ds : List D} (F : FRo G C σ (tm₁ ++ (v, t) :: tm₂) env H O) (h : peek t env = some d) (hi : itemsOf d = some ds) (hp : d.own = false ∨ d.plain = true) : SeqAt G H (fun a => O a ∨ C.hid a) (knd d) ds v := by
  obtain ⟨O1, _, r⟩ := F.lookM h
  exact SeqAt.of r hi hp
theorem held_peek {t : T} {e e' : Env} {d : D} (h : peek t e = some d) (hh : Held t e e') : peek t e' = some d := by
  cases t with
  | val _ => exact h
  | ref i p => exact (show e'.at i p = e.at i p from hh).trans h
theorem own_no {A : Ad} {d : D} {v : V} {O1 : Ad} (m : ∀ a, O1 a → no a) (r : Rep G H A d v O1) : d.own = false := by
  cases ho : d.own with
  | false => rfl
  | true =>
    obtain ⟨b, _, q⟩ := r.ref ho
    exact (m b q).elim
noncomputable def itOf (K : PySem.W.Frag) (k : Nat) (v : V) : L2.It := match v with
  | .ref a => if k = 0 then Itl K a else Itt K a
  | .str s => Its s
  | _ => Itr 0 0
theorem wk_seq {v : V} {t : T} {d : D} {ds : List D} {env₀ : Env} (h : peek t env₀ = some d) (hi : itemsOf d = some ds) (hp : d.own = false ∨ d.plain = true) : Wk G [(v, t)] env₀ [t] ds (itOf G.K (knd d) v) where
  go := by
    intro C tm i σ env H hile ⟨O, F⟩ hh
    have sq := F.seqAt (held_peek h (hh t List.mem_cons_self)) hi hp
    unfold SeqAt at sq
    split at sq
    · rename_i hk
      obtain ⟨a, vs, rfl, q, r⟩ := sq
      simp only [itOf, if_pos hk]
      have l := r.length
      exact ⟨fun lt => ⟨vs, vs[i], q, List.getElem?_eq_getElem (by omega)⟩, fun le => ⟨vs, q, by omega⟩⟩
    · rename_i hk
      split at sq
      · obtain ⟨a, vs, rfl, q, r⟩ := sq
        simp only [itOf, if_neg hk]
        have l := r.length
        exact ⟨fun lt => ⟨vs, vs[i], q, List.getElem?_eq_getElem (by omega)⟩, fun le => ⟨vs, q, by omega⟩⟩
      · obtain ⟨s, rfl, rfl⟩ := sq
        simp only [itOf]
        exact ⟨fun lt => by simpa [Its, sOf] using lt, fun le => by simpa [Its, sOf] using le⟩
  yld := by
    intro C tm i σ env H x H' d' ⟨O, F⟩ hh ed y
    have sq := F.seqAt (held_peek h (hh t List.mem_cons_self)) hi hp
    unfold SeqAt at sq
    split at sq
    · rename_i hk
      obtain ⟨a, vs, rfl, q, r⟩ := sq
      simp only [itOf, if_pos hk] at y
      obtain ⟨rfl, y⟩ := y
      obtain ⟨v1, O1, e1, m1, r1⟩ := r.get ed
      rw [y vs q] at e1; cases e1
      exact ⟨⟨O, F.push0 (fun _ _ z => z) (own_no m1 r1) r1⟩, Same.refl _⟩
    · rename_i hk
      split at sq
      · obtain ⟨a, vs, rfl, q, r⟩ := sq
        simp only [itOf, if_neg hk] at y
        obtain ⟨rfl, y⟩ := y
        obtain ⟨v1, O1, e1, m1, r1⟩ := r.get ed
        rw [y vs q] at e1; cases e1
        exact ⟨⟨O, F.push0 (fun _ _ z => z) (own_no m1 r1) r1⟩, Same.refl _⟩
      · obtain ⟨s, rfl, rfl⟩ := sq
        simp only [itOf] at y
        obtain ⟨rfl, c, e, rfl⟩ := y
        have e : s[i]? = some c := by simpa [sOf] using e
        rw [List.getElem?_map, e] at ed
        cases ed
        exact ⟨⟨O, F.push0 (fun _ _ z => z) rfl (O1 := no) rfl⟩, Same.refl _⟩
def iSeq (K : PySem.W.Frag) (te : TE) : TI := fun σ H R => te σ H fun x H1 => (∃ a, x = .ref a ∧ (∃ xs, SqL K H1 a xs) ∧ R (Itl K a) H1) ∨ (∃ a, x = .ref a ∧ (∃ xs, SqT K H1 a xs) ∧ R (Itt K a) H1) ∨ ∃ s, x = .str s ∧ R (Its s) H1
theorem pi_seq {tg l : Expr} {tl : TE} (hl : PE X l tl) : PI X tg l (iSeq X.K tl) := by
  refine ⟨fun pins s σ H R I h => ?_⟩
  refine thn (hl.run pins s σ H _ I h) fun v s1 ⟨x, H1, I1, r1, q1⟩ => ?_
  rcases q1 with ⟨a, e, ⟨xs, hq⟩, q⟩ | ⟨a, e, ⟨xs, hq⟩, q⟩ | ⟨x, ex, q⟩
  · subst e
    cases r1
    obtain ⟨its, rv, p, hz⟩ := I1.list hq
    refine wpAny_pyIter_list p.isList ?_
    refine ⟨s1.heap.objs.size, [s1.heap.objs.size], _, _, H1, rfl, I1.kept (t' := s1.toks) fun b o e => Heap.get?_push_of_some _ e, turn_list a _, ⟨_, Heap.get?_push_size _ rfl, rfl, rfl⟩, fun b hb => ?_, q⟩
    have e : b = s1.heap.objs.size := by simpa using hb
    subst e
    exact I1.fpOk (Nat.le_refl _) (I1.hok.fresh (Nat.le_refl _))
  · subst e
    cases r1
    obtain ⟨its, rv, p, hz⟩ := I1.tuple hq
    refine wpAny_pyIter_tuple (show s1.heap.IsTuple a its.toArray from p) ?_
    refine ⟨s1.heap.objs.size, [s1.heap.objs.size], _, _, H1, rfl, I1.kept (t' := s1.toks) fun b o e => Heap.get?_push_of_some _ e, turn_tuple a _, ⟨_, Heap.get?_push_size _ rfl, rfl, rfl⟩, fun b hb => ?_, q⟩
    have e : b = s1.heap.objs.size := by simpa using hb
    subst e
    exact I1.fpOk (Nat.le_refl _) (I1.hok.fresh (Nat.le_refl _))
  · subst ex
    obtain ⟨t, rfl⟩ := r1
    cases ha : x.cps.all (· < 128)
    · exact wpAny_pyIter_wide ha (pi_one (tk := s1.toks) I1 _ (turn_str _ x t "str_iterator" (.inr rfl)) ⟨_, Heap.get?_push_size _ rfl, rfl, rfl⟩ q)
    · exact wpAny_pyIter_ascii ha (pi_one (tk := s1.toks) I1 _ (turn_str _ x t "str_ascii_iterator" (.inl rfl)) ⟨_, Heap.get?_push_size _ rfl, rfl, rfl⟩ q)
theorem PI.mono {tg e : Expr} {t t' : TI} (h : PI X tg e t) (m : ∀ σ H R, t' σ H R → t σ H R) : PI X tg e t' := ⟨fun pins s σ H R I hw => h.run pins s σ H R I (m σ H R hw)⟩
section
variable {tg a b c : Expr} {sa sb sc : Bool} {eva evb evc : Env → R T}
theorem stOk_one {v : V} {t : T} (h : t.root = true) : StOk [(v, t)] [t] := fun w i p m => by
  simp at m
  obtain ⟨rfl, rfl⟩ := m
  exact ⟨List.isEmpty_iff.mp h, List.mem_cons_self⟩
theorem si_seq (hK : X.K = G.K) (ha : PE X a (tE G C W sa eva)) : PI X tg a (tI G C W (fun e => (eva e).bind fun t e => (src t e).bind fun r e => .ok (r.2.1, [r.2.2]) e)) := by
  refine PI.mono (pi_seq ha) fun σ H Qr h => ?_
  obtain ⟨tm, env, F, hr, h⟩ := h
  dsimp only at h
  refine ⟨tm, env, F, fun _ => hr, ?_⟩
  cases ea : eva env with
  | err => rw [ea] at h; exact h
  | exc x env1 => rw [ea] at h; exact h
  | ok t env1 =>
    rw [ea] at h
    simp only [R.bind_ok] at h
    intro v H1 ⟨O1, F1⟩ s1
    cases e2 : src t env1 with
    | err => rw [e2] at h; exact h.elim
    | exc x e => exact (src_noexc e2).elim
    | ok r e2' =>
      obtain ⟨k, ds, t'⟩ := r
      rw [e2] at h
      simp only [R.bind_ok] at h
      obtain ⟨O2, m2, F2, hrt, d, g1, rfl, g3, g4⟩ := F1.src (tm₂ := []) e2
      have sq := F2.seqAt g1 g3 g4
      have fin := h [(v, t')] (itOf G.K (knd d) v) H1 ⟨O2, F2⟩ (stOk_one hrt) (wk_seq g1 g3 g4)
      rw [hK]
      unfold SeqAt at sq
      split at sq
      · rename_i hk
        obtain ⟨a, vs, rfl, q, r⟩ := sq
        simp only [itOf, if_pos hk] at fin
        exact .inl ⟨a, rfl, ⟨vs, q⟩, fin⟩
      · rename_i hk
        split at sq
        · obtain ⟨a, vs, rfl, q, r⟩ := sq
          simp only [itOf, if_neg hk] at fin
          exact .inr (.inl ⟨a, rfl, ⟨vs, q⟩, fin⟩)
        · obtain ⟨s, rfl, rfl⟩ := sq
          exact .inr (.inr ⟨_, rfl, fin⟩)
theorem FRo.int1 {tm₁ tm₂ : Tm} {v : V} {i : Int} (F : FRo G C σ (tm₁ ++ (v, .val (.int i)) :: tm₂) env H O) : v = .int i := by
  obtain ⟨O1, _, r⟩ := F.lookM rfl
  exact r
theorem wk_rng {lo c : Int} {n : Nat} {env₀ : Env} : Wk G [] env₀ [] (rngL lo c n) (Itc lo c n) where
  go := by
    intro C tm i σ env H _ _ _
    simp only [rngL, List.length_map, List.length_range, Itc]
    exact ⟨id, id⟩
  yld := by
    intro C tm i σ env H x H' d ⟨O, F⟩ _ ed y
    obtain ⟨rfl, rfl⟩ := y
    simp only [rngL, List.getElem?_map] at ed
    obtain ⟨j, e1, e2⟩ := Option.map_eq_some_iff.mp ed
    have : i = j := by
      rw [List.getElem?_range (by
        have := List.getElem?_eq_some_iff.mp e1
        obtain ⟨h, _⟩ := this
        simpa using h)] at e1
      cases e1; rfl
    subst this
    subst e2
    exact ⟨⟨O, F.push0 (fun _ _ z => z) rfl (O1 := no) rfl⟩, Same.refl _⟩
theorem stOk_nil : StOk [] [] := fun w i p m => by simp at m
theorem itr_itc (lo : Int) (n : Nat) : Itr lo n = Itc lo 1 n := by
  unfold Itr Itc
  simp only [Int.mul_one]
theorem si_rng1 {p : Pos} (hg : Gl X "range") (hm : X.mg "range" = none) {evas : Env → R (List T)} (hs : starEach [a] X.env = [(false, eval a X.env)]) (ha : PA X [a] (tEs G C W sa evas)) : PI X tg (.Call (.Name "range" p) [a] [] pos) (tI G C W (fun e => (evas e).bind (rngT 1))) := by
  refine PI.mono (pi_range1 hg hm ha hs) fun σ H Qr h => ?_
  obtain ⟨tm, env, F, hr, h⟩ := h
  dsimp only at h
  refine ⟨tm, env, F, fun _ => hr, ?_⟩
  cases ea : evas env with
  | err => rw [ea] at h; exact h
  | exc x env1 => rw [ea] at h; exact h
  | ok ts env1 =>
    rw [ea] at h
    simp only [R.bind_ok] at h
    intro vs H1 hl ⟨O1, F1⟩ s1
    unfold rngT at h
    split at h
    · rename_i j _
      obtain ⟨v, rfl⟩ : ∃ v, vs = [v] := by
        match vs, hl with
        | [v], _ => exact ⟨v, rfl⟩
      simp only [List.zip_cons_cons, List.zip_nil_right] at F1
      obtain rfl := F1.int1
      by_cases hj : smallR j = true
      · rw [if_pos hj] at h
        have hj' := hj
        simp only [smallR, Bool.and_eq_true, decide_eq_true_eq] at hj'
        refine ⟨j, rfl, hj'.1, hj'.2, ?_⟩
        rw [itr_itc]
        exact h [] _ H1 ⟨O1, by rw [List.append_nil]; exact F1.pop⟩ stOk_nil wk_rng
      · rw [if_neg hj] at h; exact h.elim
    · rename_i q; cases q
    · rename_i q; cases q
    · exact h.elim
theorem si_rng2 {p : Pos} (hg : Gl X "range") (hm : X.mg "range" = none) {evas : Env → R (List T)} (hs : starEach [a, b] X.env = [(false, eval a X.env), (false, eval b X.env)]) (hs2 : starEach [b] X.env = [(false, eval b X.env)]) (ha : PA X [a, b] (tEs G C W sa evas)) : PI X tg (.Call (.Name "range" p) [a, b] [] pos) (tI G C W (fun e => (evas e).bind (rngT 2))) := by
  refine PI.mono (pi_range2 hg hm ha hs hs2) fun σ H Qr h => ?_
  obtain ⟨tm, env, F, hr, h⟩ := h
  dsimp only at h
  refine ⟨tm, env, F, fun _ => hr, ?_⟩
  cases ea : evas env with
  | err => rw [ea] at h; exact h
  | exc x env1 => rw [ea] at h; exact h
  | ok ts env1 =>
    rw [ea] at h
    simp only [R.bind_ok] at h
    intro vs H1 hl ⟨O1, F1⟩ s1
    unfold rngT at h
    split at h
    · rename_i q; cases q
    · rename_i i j _
      obtain ⟨v, w, rfl⟩ : ∃ v w, vs = [v, w] := by
        match vs, hl with
        | [v, w], _ => exact ⟨v, w, rfl⟩
      simp only [List.zip_cons_cons, List.zip_nil_right] at F1
      obtain rfl := F1.int1
      obtain rfl := FRo.int1 (tm₁ := tm ++ [(_, _)]) (by rw [List.append_assoc]; exact F1)
      by_cases hj : (smallR i && smallR j) = true
      · rw [if_pos hj] at h
        have hj' := hj
        simp only [smallR, Bool.and_eq_true, decide_eq_true_eq] at hj'
        refine ⟨i, j, rfl, ⟨hj'.1.1, hj'.1.2, hj'.2.1, hj'.2.2⟩, ?_⟩
        rw [itr_itc]
        exact h [] _ H1 ⟨O1, by rw [List.append_nil]; exact F1.pop⟩ stOk_nil wk_rng
      · rw [if_neg hj] at h; exact h.elim
    · rename_i q; cases q
    · exact h.elim
theorem si_rng3 {p : Pos} (hg : Gl X "range") (hm : X.mg "range" = none) {evas : Env → R (List T)} (hs : starEach [a, b, c] X.env = (false, eval a X.env) :: starEach [b, c] X.env) (hs2 : (backTo pos (starEach [b, c] X.env)).any (·.1) = false) (ha : PA X [a, b, c] (tEs G C W sa evas)) : PI X tg (.Call (.Name "range" p) [a, b, c] [] pos) (tI G C W (fun e => (evas e).bind (rngT 3))) := by
  refine PI.mono (pi_range3 hg hm ha hs hs2) fun σ H Qr h => ?_
  obtain ⟨tm, env, F, hr, h⟩ := h
  dsimp only at h
  refine ⟨tm, env, F, fun _ => hr, ?_⟩
  cases ea : evas env with
  | err => rw [ea] at h; exact h
  | exc x env1 => rw [ea] at h; exact h
  | ok ts env1 =>
    rw [ea] at h
    simp only [R.bind_ok] at h
    intro vs H1 hl ⟨O1, F1⟩ s1
    unfold rngT at h
    split at h
    · rename_i q; cases q
    · rename_i q; cases q
    · rename_i i j k _
      obtain ⟨v, w, u, rfl⟩ : ∃ v w u, vs = [v, w, u] := by
        match vs, hl with
        | [v, w, u], _ => exact ⟨v, w, u, rfl⟩
      simp only [List.zip_cons_cons, List.zip_nil_right] at F1
      obtain rfl := F1.int1
      obtain rfl := FRo.int1 (tm₁ := tm ++ [(_, _)]) (by rw [List.append_assoc]; exact F1)
      obtain rfl := FRo.int1 (tm₁ := tm ++ [(_, _), (_, _)]) (by rw [List.append_assoc]; exact F1)
      by_cases hj : rngOk i j k = true
      · rw [if_pos hj] at h
        have hj' := hj
        simp only [rngOk, Bool.and_eq_true, decide_eq_true_eq] at hj'
        refine ⟨i, j, k, _, rfl, ⟨hj'.1.1.1, hj'.1.1.2, hj'.1.2, ?_⟩, h [] _ H1 ⟨O1, by rw [List.append_nil]; exact F1.pop⟩ stOk_nil wk_rng⟩
        exact (Int.toNat_of_nonneg hj'.2).symm
      · rw [if_neg hj] at h; exact h.elim
    · exact h.elim
theorem rep_pair {A : Ad} {p : Addr} {d d' : D} {x y : V} (hn : H p = none) (hA : ∀ a, H a = none → ¬ A a) (h : Rep G H A d x no) (h' : Rep G H A d' y no) : Rep G (upd H p (.tup [x, y])) A (.tup [d, d']) (.ref p) no := by
  simp only [Rep]
  have k : Kept no H (upd H p (.tup [x, y])) := Kept.new hn
  have r : ∀ {d v}, Rep G H A d v no → Rep G (upd H p (.tup [x, y])) A d v no := fun {d v} r => Rep.kept k (fun _ z => z.elim) (fun a z => .inl z) (fun _ z => z.elim) d v no (fun _ _ z => z) r
  exact ⟨p, [x, y], rfl, .inl (.inl (upd_same)), x, [y], no, no, rfl, fun _ z => z, fun _ z => z, fun _ z => z.elim, r h, y, [], no, no, rfl, fun _ z => z, fun _ z => z, fun _ z => z.elim, r h', rfl⟩
def skOf (k : Nat) : V → SK
  | .ref a => if k = 0 then .l a else .t a
  | .str z => .s z
  | _ => .s ⟨#[]⟩
theorem reps_str {A : Ad} : ∀ (s : Cs), Reps G H A (s.map fun c => D.str [c]) ((sOf s).cps.toList.map fun c => V.str ⟨#[c]⟩) no
  | [] => by simp [sOf, Reps]
  | c :: s => by
    have := reps_str (A := A) s
    simp only [sOf] at this ⊢
    simp only [List.map_cons, Reps]
    exact ⟨_, _, no, no, rfl, fun _ z => z, fun _ z => z, fun _ z => z.elim, by simp [Rep, sOf], by simpa using this⟩
theorem SeqAt.sk {A : Ad} {k : Nat} {ds : List D} {v : V} (h : SeqAt G H A k ds v) : (skOf k v).v = v ∧ ∃ vs, (skOf k v).at G.K H vs ∧ Reps G H A ds vs no := by
  unfold SeqAt at h
  by_cases h0 : k = 0
  · rw [if_pos h0] at h
    obtain ⟨a, vs, rfl, q, r⟩ := h
    simp only [skOf, if_pos h0]
    exact ⟨rfl, vs, q, r⟩
  · rw [if_neg h0] at h
    by_cases h1 : k = 1
    · rw [if_pos h1] at h
      obtain ⟨a, vs, rfl, q, r⟩ := h
      simp only [skOf, if_neg h0]
      exact ⟨rfl, vs, q, r⟩
    · rw [if_neg h1] at h
      obtain ⟨s, rfl, rfl⟩ := h
      exact ⟨rfl, _, rfl, reps_str s⟩
theorem wk_enum {v : V} {t : T} {d : D} {ds : List D} {env₀ : Env} (h : peek t env₀ = some d) (hi : itemsOf d = some ds) (hp : d.own = false ∨ d.plain = true) : Wk G [(v, t)] env₀ [t] (ds.zipIdx.map fun p => .tup [.int p.2, p.1]) (ItEG G.K (skOf (knd d) v)) where
  go := by
    intro C tm i σ env H hile ⟨O, F⟩ hh
    obtain ⟨_, vs, q, r⟩ := (F.seqAt (held_peek h (hh t List.mem_cons_self)) hi hp).sk
    have l := r.length
    simp only [List.length_map, List.length_zipIdx] at hile ⊢
    exact ⟨fun lt => ⟨vs, vs[i], q, List.getElem?_eq_getElem (by omega)⟩, fun le => ⟨vs, q, by omega⟩⟩
  yld := by
    intro C tm i σ env H x H' d' ⟨O, F⟩ hh ed y
    obtain ⟨_, vs, q, r⟩ := (F.seqAt (held_peek h (hh t List.mem_cons_self)) hi hp).sk
    obtain ⟨p, x', rfl, hn, rfl, y⟩ := y
    rw [List.getElem?_map, List.getElem?_zipIdx] at ed
    obtain ⟨⟨d1, n1⟩, e1, e2⟩ := Option.map_eq_some_iff.mp ed
    obtain ⟨d2, e3, e4⟩ := Option.map_eq_some_iff.mp e1
    cases e4
    subst e2
    obtain ⟨v1, O1, g1, m1, r1⟩ := r.get e3
    rw [y vs q] at g1; cases g1
    refine ⟨⟨O, F.push0 (Kept.new hn).same rfl (O1 := no) ?_⟩, (Kept.new hn).same⟩
    refine rep_pair hn F.bad ?_ (r1.noown (own_no m1 r1))
    simp [Rep]
theorem si_enum {p : Pos} {elts : List Expr} {kk : Nat} {tpos : Pos} (hK : X.K = G.K) (hg : Gl X "enumerate") (hm : X.mg "enumerate" = none) {evas : Env → R (List T)} (hs : starEach [a] X.env = [(false, eval a X.env)]) (ha : PA X [a] (tEs G C W sa evas)) : PI X (.Tuple elts kk tpos) (.Call (.Name "enumerate" p) [a] [] pos) (tI G C W (fun e => (evas e).bind enumT)) := by
  refine PI.mono (pi_enumG hg hm ha hs) fun σ H Qr h => ?_
  obtain ⟨tm, env, F, hr, h⟩ := h
  dsimp only at h
  refine ⟨tm, env, F, fun _ => hr, ?_⟩
  cases ea : evas env with
  | err => rw [ea] at h; exact h
  | exc x env1 => rw [ea] at h; exact h
  | ok ts env1 =>
    rw [ea] at h
    simp only [R.bind_ok] at h
    intro vs H1 hl ⟨O1, F1⟩ s1
    unfold enumT at h
    split at h
    · rename_i t
      obtain ⟨v, rfl⟩ : ∃ v, vs = [v] := by
        match vs, hl with
        | [v], _ => exact ⟨v, rfl⟩
      simp only [List.zip_cons_cons, List.zip_nil_right] at F1
      cases e2 : src t env1 with
      | err => rw [e2] at h; exact h.elim
      | exc x e => exact (src_noexc e2).elim
      | ok r e2' =>
        obtain ⟨k, ds, t'⟩ := r
        rw [e2] at h
        simp only [R.bind_ok] at h
        obtain ⟨O2, m2, F2, hrt, d, g1, g2, g3, g4⟩ := F1.src (tm₂ := []) e2
        obtain ⟨q1, vs, q, r⟩ := (F2.seqAt g1 g3 g4).sk
        rw [hK]
        exact ⟨skOf (knd d) v, vs, by rw [q1], q, h _ _ H1 ⟨O2, F2⟩ (stOk_one hrt) (wk_enum g1 g3 g4)⟩
    · exact h.elim
theorem zip_get {α β : Type} {l : List α} {m : List β} {i : Nat} {p : α × β} (h : (l.zip m)[i]? = some p) : l[i]? = some p.1 ∧ m[i]? = some p.2 := by
  obtain ⟨x, y⟩ := p
  exact List.getElem?_zip_eq_some.mp h
theorem wk_zip {v w : V} {t u : T} {d d' : D} {ds ds' : List D} {env₀ : Env} (h : peek t env₀ = some d) (hi : itemsOf d = some ds) (hp : d.own = false ∨ d.plain = true) (h' : peek u env₀ = some d') (hi' : itemsOf d' = some ds') (hp' : d'.own = false ∨ d'.plain = true) :
    Wk G [(v, t), (w, u)] env₀ [t, u] ((ds.zip ds').map fun p => .tup [p.1, p.2]) (ItG G.K (skOf (knd d) v) (skOf (knd d') w)) where
  go := by
    intro C tm i σ env H hile ⟨O, F⟩ hh
    obtain ⟨_, vs, q, r⟩ := (FRo.seqAt (tm₁ := tm) (tm₂ := [(w, u)]) F (held_peek h (hh t List.mem_cons_self)) hi hp).sk
    obtain ⟨_, ws, q', r'⟩ := (FRo.seqAt (tm₁ := tm ++ [(v, t)]) (tm₂ := []) (by rw [List.append_assoc]; exact F) (held_peek h' (hh u (List.mem_cons_of_mem _ List.mem_cons_self))) hi' hp').sk
    simp only [List.length_map, List.length_zip] at hile ⊢
    have l := r.length
    have l' := r'.length
    exact ⟨fun lt => ⟨vs, ws, vs[i], ws[i], q, q', List.getElem?_eq_getElem (by omega), List.getElem?_eq_getElem (by omega)⟩, fun le => ⟨vs, ws, q, q', by omega, by omega, by omega⟩⟩
  yld := by
    intro C tm i σ env H x H' dd ⟨O, F⟩ hh ed y
    obtain ⟨_, vs, q, r⟩ := (FRo.seqAt (tm₁ := tm) (tm₂ := [(w, u)]) F (held_peek h (hh t List.mem_cons_self)) hi hp).sk
    obtain ⟨_, ws, q', r'⟩ := (FRo.seqAt (tm₁ := tm ++ [(v, t)]) (tm₂ := []) (by rw [List.append_assoc]; exact F) (held_peek h' (hh u (List.mem_cons_of_mem _ List.mem_cons_self))) hi' hp').sk
    rw [List.getElem?_map] at ed
    obtain ⟨⟨d1, d2⟩, e1, rfl⟩ := Option.map_eq_some_iff.mp ed
    obtain ⟨e1, e2⟩ := zip_get e1
    obtain ⟨p, x1, x2, rfl, hn, rfl, y1, y2⟩ := y
    obtain ⟨v1, O1, g1, m1, r1⟩ := r.get e1
    rw [y1 vs q] at g1; cases g1
    obtain ⟨v2, O2, g2, m2, r2⟩ := r'.get e2
    rw [y2 ws q'] at g2; cases g2
    exact ⟨⟨O, F.push0 (Kept.new hn).same rfl (O1 := no) (rep_pair hn F.bad (r1.noown (own_no m1 r1)) (r2.noown (own_no m2 r2)))⟩, (Kept.new hn).same⟩
theorem src_held {t t' : T} {e e' : Env} {k k' : Nat} {ds ds' : List D} {u u' : T} {d : D} (hd : peek t e = some d) (ho : d.own = false ∨ d.plain = true) (hr : t.root = true) (h : src u e = .ok (k', ds', u') e') : ∃ d', peek t e' = some d' ∧ knd d' = knd d ∧ itemsOf d' = itemsOf d ∧ (d'.own = false ∨ d'.plain = true) := by
  have same : e' = e → ∃ d', peek t e' = some d' ∧ knd d' = knd d ∧ itemsOf d' = itemsOf d ∧ (d'.own = false ∨ d'.plain = true) := fun q => by rw [q]; exact ⟨d, hd, rfl, rfl, ho⟩
  cases u with
  | val x =>
    unfold src at h
    dsimp only at h
    split at h
    · cases h; exact same rfl
    · cases h
  | ref i p =>
    unfold src at h
    dsimp only at h
    cases e1 : e.at i p with
    | none => rw [e1] at h; cases h
    | some x =>
      rw [e1] at h
      dsimp only at h
      by_cases hp : p.isEmpty = true
      · rw [if_pos hp] at h
        by_cases hx : x.plain = true
        · rw [if_pos hx] at h
          split at h
          · cases h; exact same rfl
          · cases h
        · rw [if_neg hx] at h
          split at h
          · cases h
            cases t with
            | val y => exact ⟨d, hd, rfl, rfl, ho⟩
            | ref j q =>
              obtain rfl : q = [] := List.isEmpty_iff.mp hr
              obtain rfl : p = [] := List.isEmpty_iff.mp hp
              by_cases hij : i = j
              · subst hij
                have hd' : e.at i [] = some d := hd
                rw [e1] at hd'
                cases hd'
                rcases ho with ho | ho
                · -- what is not owned and not plain: a thing with an owned child
                  have lt : i < e.length := by
                    unfold Env.at at e1
                    obtain ⟨z, e3, _⟩ := Option.bind_eq_some_iff.mp e1
                    cases e4 : e[i]? with
                    | none => rw [e4] at e3; cases e3
                    | some _ => exact (List.getElem?_eq_some_iff.mp e4).1
                  refine ⟨d, ?_, rfl, rfl, .inl ho⟩
                  show Env.at _ i [] = _
                  unfold Env.at
                  rw [List.getElem?_set_self lt, frz_id ho]
                  rfl
                · exact absurd ho hx
              · refine ⟨d, ?_, rfl, rfl, ho⟩
                show Env.at _ j [] = _
                have hd' : e.at j [] = some d := hd
                unfold Env.at at hd' ⊢
                rw [List.getElem?_set_ne hij]
                exact hd'
          · cases h
      · rw [if_neg hp] at h; cases h
theorem si_zip {p : Pos} {elts : List Expr} {kk : Nat} {tpos : Pos} (hK : X.K = G.K) (hg : Gl X "zip") (hm : X.mg "zip" = none) {evas : Env → R (List T)} (hs : starEach [a, b] X.env = (false, eval a X.env) :: starEach [b] X.env) (hs2 : (backTo pos (starEach [b] X.env)).any (·.1) = false) (ha : PA X [a, b] (tEs G C W sa evas)) : PI X (.Tuple elts kk tpos) (.Call (.Name "zip" p) [a, b] [] pos) (tI G C W (fun e => (evas e).bind zipT)) := by
  refine PI.mono (pi_zipG hg hm ha hs hs2) fun σ H Qr h => ?_
  obtain ⟨tm, env, F, hr, h⟩ := h
  dsimp only at h
  refine ⟨tm, env, F, fun _ => hr, ?_⟩
  cases ea : evas env with
  | err => rw [ea] at h; exact h
  | exc x env1 => rw [ea] at h; exact h
  | ok ts env1 =>
    rw [ea] at h
    simp only [R.bind_ok] at h
    intro vs H1 hl ⟨O1, F1⟩ s1
    unfold zipT at h
    split at h
    · rename_i t u
      obtain ⟨v, w, rfl⟩ : ∃ v w, vs = [v, w] := by
        match vs, hl with
        | [v, w], _ => exact ⟨v, w, rfl⟩
      simp only [List.zip_cons_cons, List.zip_nil_right] at F1
      cases e2 : src t env1 with
      | err => rw [e2] at h; exact h.elim
      | exc x e => exact (src_noexc e2).elim
      | ok r env2 =>
        obtain ⟨k, ds, t'⟩ := r
        rw [e2] at h
        simp only [R.bind_ok] at h
        obtain ⟨O2, m2, F2, hrt, d, g1, g2, g3, g4⟩ := F1.src (tm₂ := [(w, u)]) e2
        cases e3 : src u env2 with
        | err => rw [e3] at h; exact h.elim
        | exc x e => exact (src_noexc e3).elim
        | ok r env3 =>
          obtain ⟨k', ds', u'⟩ := r
          rw [e3] at h
          simp only [R.bind_ok] at h
          obtain ⟨O3, m3, F3, hrt', d', f1, f2, f3, f4⟩ := FRo.src (tm₁ := tm ++ [(v, t')]) (tm₂ := []) (by rw [List.append_assoc]; exact F2) e3
          obtain ⟨d₂, b1, b2, b3, b4⟩ := src_held (t' := t) (k := k) (ds := ds) (u := u) g1 g4 hrt e3
          rw [List.append_assoc] at F3
          obtain ⟨p1, vs, q, r⟩ := (FRo.seqAt (tm₁ := tm) (tm₂ := [(w, u')]) F3 b1 (b3.trans g3) b4).sk
          obtain ⟨p2, ws, q', r'⟩ := (FRo.seqAt (tm₁ := tm ++ [(v, t')]) (tm₂ := []) (by rw [List.append_assoc]; exact F3) f1 f3 f4).sk
          have st : StOk [(v, t'), (w, u')] [t', u'] := fun x i p m => by
            simp at m
            rcases m with ⟨rfl, rfl⟩ | ⟨rfl, rfl⟩
            · exact ⟨List.isEmpty_iff.mp hrt, List.mem_cons_self⟩
            · exact ⟨List.isEmpty_iff.mp hrt', List.mem_cons_of_mem _ List.mem_cons_self⟩
          rw [hK]
          exact ⟨skOf (knd d₂) v, skOf (knd d') w, vs, ws, by rw [p1, p2], q, q', h _ _ H1 ⟨O3, F3⟩ st (wk_zip b1 (b3.trans g3) b4 f1 f3 f4)⟩
    · exact h.elim
end
end
end LT
/-! LtQ: while, unpacking, op=, comprehensions. -/
namespace LT
open PySem L2
section
variable {G : GK} {C : Fc} {W : WX} {X : Cx} {σ : St} {tm : Tm} {env : Env} {H H' : Hp} {O : Ad} {ln : List Nat} {pos : Pos} {a b c : Expr} {sa sb sc : Bool} {eva evb evc : Env → R T}
theorem ss_whl {N : Nat} {body : List Stmt} {evt : Env → R Bool} {evb : Env → F} (hpo : PassesOwn (model X.prog X.w) X.A X.env X.xe) (hc : PT X c (tT G C W sc evt)) (hb : PSs X body (tS G C W ln evb)) : PS X (.While c body [] pos) (tS G C W ln (whL evt evb N)) := by
  refine PS.mono (ps_while hpo hc hb) fun D σ H ⟨tm, env, F, hp, hl, k⟩ => ?_
  refine ⟨fun m σ H => ∃ env, FR G C σ tm env H ∧ DoneF G C W tm D (whL evt evb m env), ⟨N, env, F, k⟩, ?_⟩
  rintro m σ2 H2 ⟨env2, F2, k2⟩
  cases m with
  | zero => exact k2.elim
  | succ m =>
    simp only [whL] at k2
    refine ⟨tm, env2, F2, fun _ => hp.roots, ?_⟩
    cases et : evt env2 with
    | err => rw [et] at k2; exact k2
    | exc x e => rw [et] at k2; exact fun cls dx H1 xr F1 => k2 cls dx σ2 H1 xr F1
    | ok b e =>
      rw [et] at k2
      simp only [R.got_ok] at k2
      intro H1 F1 _
      cases b with
      | false => rw [if_neg (by decide)] at k2 ⊢; exact k2 _ _ F1
      | true =>
        rw [if_pos rfl] at k2 ⊢
        refine ⟨fun σ' H' => ∃ env, FR G C σ' tm env H' ∧ DoneF G C W tm D (whL evt evb m env), fun σ' H' w => ⟨m, Nat.lt_succ_self m, w⟩, tm, e, F1, hp, hl, ?_⟩
        cases eb : evb e with
        | nx e' => rw [eb] at k2; dsimp only at k2; exact fun σ' H' F' => ⟨e', F', k2⟩
        | cnt e' => rw [eb] at k2; dsimp only at k2; exact fun σ' H' F' => ⟨e', F', k2⟩
        | brk e' => rw [eb] at k2; exact fun σ' H' F' => k2 σ' H' F'
        | ret d e' => rw [eb] at k2; exact k2
        | exc x e' => rw [eb] at k2; exact k2
        | err => rw [eb] at k2; exact k2
theorem rs_own {t : T} {e e' : Env} {d : D} (h : rs t e = .ok d e') : d.own = false := by
  cases t with
  | val x => cases h; exact own_frz x
  | ref i p =>
    unfold rs at h
    dsimp only at h
    split at h
    · cases h
    · rename_i x _
      split at h
      · cases h
        cases x with
        | lst o l => cases o <;> rfl
        | dic o ks ds => cases o <;> rfl
        | ins o c ks ds => cases o <;> rfl
        | _ => rfl
      · split at h
        · cases h; exact own_frz x
        · cases h
/-- a, b = e -/
theorem ss_asgT {target : Expr} {tg : Tg} {g : TG} (hg : TgOk G X target tg g) (h : PS X (.Assign [target] a pos) (tAsg (tE G C W sa eva) g)) :
    PS X (.Assign [target] a pos) (tS G C W ln (fun e => ((eva e).bind esc).go fun d e => asgTD ln tg d e)) := by
  refine PS.mono h fun D σ H h => ?_
  have h' : tS G C W ln (fun e => (eva e).got fun t e => (esc t e).go fun d e => asgTD ln tg d e) D σ H := by
    obtain ⟨tm, env, F, hp, hl, h⟩ := h
    exact ⟨tm, env, F, hp, hl, by dsimp only at h; rw [go_bind] at h; exact h⟩
  refine tS_val h' fun tm v t env H1 F hp hl k => ?_
  cases e1 : esc t env with
  | err => rw [e1] at k; exact k.elim
  | exc x e => exact (esc_noexc e1).elim
  | ok d e' =>
    rw [e1] at k
    simp only [R.go_ok] at k
    refine hg.ok C W tm e' ln σ H1 d v D.nx (F.esc1 e1) hp hl ?_
    cases e2 : asgTD ln tg d e' with
    | nx e'' => rw [e2] at k; exact k
    | ret x e => exact absurd e2 ((asgTD_nx _ _ _ _).1 _ _)
    | brk e => exact absurd e2 ((asgTD_nx _ _ _ _).2.1 _)
    | cnt e => exact absurd e2 ((asgTD_nx _ _ _ _).2.2.1 _)
    | exc x e => exact absurd e2 ((asgTD_nx _ _ _ _).2.2.2 _ _)
    | err => rw [e2] at k; exact k.elim
/-- a, b = x, y -/
theorem tS_args {evas : Env → R (List T)} {k : List D → Env → F} {D : Ends} {Q' : List V → Hp → Prop} (h : tS G C W ln (fun e => ((evas e).bind escL).got k) D σ H)
    (hQ : ∀ tm vs ds env H1, FR G C σ (tm ++ vs.zip (ds.map T.val)) env H1 → ds.length = vs.length → Pend tm ln → LentIn C ln → DoneF G C W tm D (k ds env) → Q' vs H1) : tEs G C W sa evas σ H Q' := by
  obtain ⟨tm, env, F, hp, hl, h⟩ := h
  dsimp only at h
  refine ⟨tm, env, F, fun _ => hp.roots, ?_⟩
  cases ea : evas env with
  | err => rw [ea] at h; exact h
  | exc x env1 => rw [ea] at h; exact fun cls dx H1 xr F1 => h cls dx σ H1 xr F1
  | ok ts env1 =>
    rw [ea] at h
    simp only [R.bind_ok] at h
    intro vs H1 hlv ⟨O1, F1⟩ s1
    cases e1 : escL ts env1 with
    | err => rw [e1] at h; exact h.elim
    | exc x e => exact (escL_noexc e1).elim
    | ok ds e' =>
      rw [e1] at h
      obtain ⟨O2, _, F2, l2⟩ := F1.escL hlv e1
      exact hQ tm vs ds e' H1 ⟨O2, F2⟩ l2 hp hl h
theorem ss_par2 {i j : Nat} {st : Stmt} {evas : Env → R (List T)} (hij : i ≠ j) (h : PS X st (tPar i j (tEs G C W sa evas))) : PS X st (tS G C W ln (fun e => ((evas e).bind escL).got fun ds e => asgL ln [i, j] ds e)) := by
  refine PS.mono h fun D σ H h => ?_
  refine tS_args h fun tm vs ds env H1 ⟨O, F⟩ l2 hp hl k => ?_
  match ds, vs, l2, F, k with
  | [], _, _, _, k => exact k.elim
  | [_], _, _, _, k => simp [asgL, DoneF] at k
  | _ :: _ :: _ :: _, _, _, _, k => simp [asgL, DoneF] at k
  | [d1, d2], [v, w], _, F, k =>
    refine ⟨v, w, rfl, ?_⟩
    simp only [asgL, LT.F.bind_nx] at k
    unfold asgD at k
    by_cases hj : ln.contains j = true
    · simp only [if_pos hj] at k; exact k.elim
    · simp only [if_neg hj, LT.F.bind_nx] at k
      by_cases hi : ln.contains i = true
      · simp only [if_pos hi] at k; exact k.elim
      · simp only [if_neg hi] at k
        have F1 := FRo.asg1 (tm := tm ++ [(v, .val d1)]) (v := w) (d := d2) (i := j) (ln := ln) (by rw [List.append_assoc]; exact F) (fun u a p m => (List.mem_append.mp m).elim (hp u a p) fun m => by simp at m) hl (by simpa using hj)
        have F2 := F1.asg1 hp hl (i := i) (by simpa using hi)
        rw [List.set_comm _ _ hij]
        exact k _ _ ⟨O, F2⟩
theorem ss_par3 {i j l : Nat} {st : Stmt} {evas : Env → R (List T)} (hij : i ≠ j) (hil : i ≠ l) (hjl : j ≠ l) (h : PS X st (tPar3 i j l (tEs G C W sa evas))) : PS X st (tS G C W ln (fun e => ((evas e).bind escL).got fun ds e => asgL ln [i, j, l] ds e)) := by
  refine PS.mono h fun D σ H h => ?_
  refine tS_args h fun tm vs ds env H1 ⟨O, F⟩ l2 hp hl k => ?_
  match ds, vs, l2, F, k with
  | [], _, _, _, k => exact k.elim
  | [_], _, _, _, k => simp [asgL, DoneF] at k
  | [_, _], _, _, _, k => simp [asgL, DoneF] at k
  | _ :: _ :: _ :: _ :: _, _, _, _, k => simp [asgL, DoneF] at k
  | [d1, d2, d3], [v, w, u], _, F, k =>
    refine ⟨v, w, u, rfl, ?_⟩
    simp only [asgL, LT.F.bind_nx] at k
    unfold asgD at k
    by_cases hll : ln.contains l = true
    · simp only [if_pos hll] at k; exact k.elim
    · simp only [if_neg hll, LT.F.bind_nx] at k
      by_cases hj : ln.contains j = true
      · simp only [if_pos hj] at k; exact k.elim
      · simp only [if_neg hj, LT.F.bind_nx] at k
        by_cases hi : ln.contains i = true
        · simp only [if_pos hi] at k; exact k.elim
        · simp only [if_neg hi] at k
          have F0 := FRo.asg1 (tm := tm ++ [(v, .val d1), (w, .val d2)]) (v := u) (d := d3) (i := l) (ln := ln) (by rw [List.append_assoc]; exact F) (fun u a p m => (List.mem_append.mp m).elim (hp u a p) fun m => by simp at m) hl (by simpa using hll)
          have F1 := FRo.asg1 (tm := tm ++ [(v, .val d1)]) (v := w) (d := d2) (i := j) (ln := ln) (by rw [List.append_assoc]; exact F0) (fun u a p m => (List.mem_append.mp m).elim (hp u a p) fun m => by simp at m) hl (by simpa using hj)
          have F2 := F1.asg1 hp hl (i := i) (by simpa using hi)
          rw [List.set_comm _ _ hij, List.set_comm _ _ hil, List.set_comm _ _ hjl]
          exact k _ _ ⟨O, F2⟩
/-- i += e, of ints -/
theorem ss_aug {i : Nat} {st : Stmt} (h : PS X st (tAug i (tE G C W sa eva) (ipI fun i j => i + j))) : PS X st (tS G C W ln (fun e => match e[i]?.getD none with
    | some (.int x) => (eva e).got fun t e => match t with
      | .val (.int y) => asgD ln i (.int (x + y)) e
      | _ => .err
    | _ => .err)) := by
  refine PS.mono h fun D σ H h => ?_
  obtain ⟨tm, env, F, hp, hl, h⟩ := h
  dsimp only at h
  obtain ⟨O, F⟩ := F
  cases e1 : env[i]?.getD none with
  | none => rw [e1] at h; exact h.elim
  | some d =>
    rw [e1] at h
    cases d with
    | int x =>
      dsimp only at h
      obtain ⟨v, O1, es, _, r⟩ := F.slot e1
      obtain rfl : v = .int x := r
      refine ⟨_, es, tS_val (ln := ln) (k := fun t e => match t with
        | .val (.int y) => asgD ln i (.int (x + y)) e
        | _ => .err) (D := D) ⟨tm, env, ⟨O, F⟩, hp, hl, h⟩ fun tm v t env H1 ⟨O1, F1⟩ hp hl k => ?_⟩
      cases t with
      | ref _ _ => exact k.elim
      | val d => cases d with
        | int y =>
          obtain rfl : v = .int y := FRo.int1 (tm₂ := []) F1
          refine ⟨x, y, rfl, rfl, ?_⟩
          dsimp only at k
          unfold asgD at k
          split at k
          · exact k.elim
          · rename_i hi
            have F2 := F1.pop.push0 (v := .int (x + y)) (d := .int (x + y)) (fun _ _ z => z) rfl (O1 := no) rfl
            exact k _ _ ⟨_, F2.asg1 hp hl (by simpa using hi)⟩
        | _ => exact k.elim
    | _ => exact h.elim
end
end LT
/-! LtR: comprehensions. -/
namespace LT
open PySem L2
section
variable {G : GK} {C : Fc} {W : WX} {X : Cx} {σ : St} {tm : Tm} {env : Env} {H H' : Hp} {O A : Ad} {ln : List Nat} {pos : Pos} {a b c : Expr} {sa sb sc : Bool} {eva evb evc : Env → R T}
theorem RepL.swapH {e e' : Option D × Option V} {l : List (Option D × Option V)} {O : Ad} (h : RepL G H A (e :: e' :: l) O) : RepL G H A (e' :: e :: l) O := by
  obtain ⟨O1, O2, h1, h2, h3, h4, P1, P2, g1, g2, g3, g4, g5⟩ := h
  exact ⟨P1, fun a => O1 a ∨ P2 a, fun a z => h2 a (g1 a z), fun a z => z.elim (h1 a) fun z => h2 a (g2 a z), fun a z q => q.elim (fun q => h3 a q (g1 a z)) (g3 a z), g4, O1, P2, fun a z => .inl z, fun a z => .inr z, fun a z q => h3 a z (g2 a q), h4, g5⟩
theorem RepL.perm {l l' : List (Option D × Option V)} (p : l.Perm l') : ∀ {O : Ad}, RepL G H A l O → RepL G H A l' O := by
  induction p with
  | nil => exact fun h => h
  | cons e _ ih => exact fun ⟨O1, O2, h1, h2, h3, h4, h5⟩ => ⟨O1, O2, h1, h2, h3, h4, ih h5⟩
  | swap e e' l => exact fun h => RepL.swapH h
  | trans _ _ ih1 ih2 => exact fun h => ih2 (ih1 h)
theorem RepL.sub {l l' : List (Option D × Option V)} (p : l'.Sublist l) : ∀ {O : Ad}, RepL G H A l O → RepL G H A l' O := by
  induction p with
  | slnil => exact fun h => h
  | cons e _ ih => exact fun ⟨O1, O2, h1, h2, h3, h4, h5⟩ => RepL.mono h2 (ih h5)
  | cons_cons e _ ih => exact fun ⟨O1, O2, h1, h2, h3, h4, h5⟩ => ⟨O1, O2, h1, h2, h3, h4, ih h5⟩
theorem FRo.perm {tm' : Tm} (p : tm.Perm tm') (F : FRo G C σ tm env H O) : FRo G C σ tm' env H O :=
  ⟨F.len, RepL.perm (List.Perm.append_left _ (p.map te)) F.rep, F.nw, F.mu, fun v i q m => F.refs v i q (p.mem_iff.mpr m), F.kept, F.lent⟩
theorem FRo.subT {tm' : Tm} (p : tm'.Sublist tm) (F : FRo G C σ tm env H O) : FRo G C σ tm' env H O :=
  ⟨F.len, RepL.sub ((p.map te).append_left _) F.rep, F.nw, F.mu, fun v i q m => F.refs v i q (p.subset m), F.kept, F.lent⟩
/-- some entries are no more asked of -/
theorem RepL.mask : ∀ {l l' : List (Option D × Option V)} {O : Ad}, l.length = l'.length → (∀ (n : Nat) (e e' : Option D × Option V), l[n]? = some e → l'[n]? = some e' → e' = e ∨ e'.1 = none ∨ (e.1 ≠ none ∧ e.2 = none)) → RepL G H A l O → RepL G H A l' O
  | [], [], _, _, _, _ => trivial
  | [], _ :: _, _, h, _, _ => by simp at h
  | _ :: _, [], _, h, _, _ => by simp at h
  | e :: l, e' :: l', O, hl, h, ⟨O1, O2, h1, h2, h3, h4, h5⟩ => by
    refine ⟨O1, O2, h1, h2, h3, ?_, RepL.mask (by simpa using hl) (fun n e e' k k' => h (n + 1) e e' (by simpa using k) (by simpa using k')) h5⟩
    rcases h 0 e e' rfl rfl with q | q | ⟨q, q'⟩
    · rw [q]; exact h4
    · rw [q]; trivial
    · obtain ⟨e1, e2⟩ := e
      dsimp only at q q' h4
      subst q'
      cases e1 with
      | none => exact absurd rfl q
      | some d => exact h4.elim
/-- in a block: no slot is lent -/
def Fc.blk (C : Fc) : Fc := { C with ln := [] }
theorem wipe_get_out {σ : St} {n : Nat} : ∀ {vs : List Nat}, n ∉ vs → (wipe σ vs)[n]? = σ[n]?
  | [], _ => rfl
  | v :: vs, h => by
    simp only [wipe]
    rw [List.getElem?_set_ne (fun e => h (by rw [e]; exact List.mem_cons_self))]
    exact wipe_get_out fun z => h (List.mem_cons_of_mem _ z)
theorem forget_get_out {n : Nat} : ∀ {tg : Tg} {e : Env}, n ∉ slots tg → (forget tg e)[n]? = e[n]?
  | .v i, e, h => by
    simp only [forget]
    exact List.getElem?_set_ne fun q => h (by rw [← q]; exact List.mem_cons_self)
  | .nil, e, _ => rfl
  | .cons t ts, e, h => by
    simp only [forget]
    rw [forget_get_out fun z => h (List.mem_append_left _ z), forget_get_out fun z => h (List.mem_append_right _ z)]
theorem forget_length : ∀ {tg : Tg} {e : Env}, (forget tg e).length = e.length
  | .v i, e => by simp only [forget, List.length_set]
  | .nil, e => rfl
  | .cons t ts, e => by simp only [forget]; rw [forget_length, forget_length]
theorem set_none_get {n i : Nat} {e : Env} {o : Option D} (h : n < e.length → e[n]? = some none) (ho : (e.set i none)[n]? = some o) : o = none := by
  have lt : n < e.length := by
    have := (List.getElem?_eq_some_iff.mp ho).1
    simpa using this
  by_cases q : i = n
  · subst q; rw [List.getElem?_set_self lt] at ho; cases ho; rfl
  · rw [List.getElem?_set_ne q, h lt] at ho; cases ho; rfl
theorem forget_get_in {n : Nat} : ∀ {tg : Tg} {e : Env} {o : Option D}, n ∈ slots tg → (forget tg e)[n]? = some o → o = none
  | .v i, e, o, h, k => by
    simp only [forget] at k
    obtain rfl := List.mem_singleton.mp h
    have lt : n < e.length := by
      have := (List.getElem?_eq_some_iff.mp k).1
      simpa using this
    rw [List.getElem?_set_self lt] at k
    cases k; rfl
  | .nil, e, o, h, k => by cases h
  | .cons t ts, e, o, h, k => by
    simp only [forget] at k
    by_cases m : n ∈ slots t
    · exact forget_get_in m k
    · rw [forget_get_out m] at k
      rcases List.mem_append.mp h with h | h
      · exact absurd h m
      · exact forget_get_in h k
theorem zip_getE {α β : Type} {l : List α} {m : List β} {n : Nat} {p : α × β} (h : (l.zip m)[n]? = some p) : l[n]? = some p.1 ∧ m[n]? = some p.2 := zip_get h
/-- into the block -/
theorem FRo.wipe {vs : List Nat} {tg : Tg} (F : FRo G C σ tm env H O) (hv : ∀ i ∈ vs, i ∈ slots tg) (hr : ∀ v i p, (v, T.ref i p) ∈ tm → i ∉ vs) : FRo G C.blk (L2.wipe σ vs) tm (forget tg env) H O := by
  refine ⟨by rw [wipe_length, forget_length]; exact F.len, ?_, F.nw, F.mu, fun v i p m => ?_, F.kept, fun p m => by cases m⟩
  · refine RepL.mask ?_ ?_ F.rep
    · unfold ents
      simp only [List.length_append, List.length_zip, List.length_map, wipe_length, forget_length]
    · intro n e e' k k'
      unfold ents at k k'
      have hl : (env.zip σ).length = ((forget tg env).zip (L2.wipe σ vs)).length := by simp only [List.length_zip, wipe_length, forget_length]
      by_cases lt : n < (env.zip σ).length
      · rw [List.getElem?_append_left lt] at k
        rw [List.getElem?_append_left (by rw [← hl]; exact lt)] at k'
        obtain ⟨k1, k2⟩ := zip_getE k
        obtain ⟨k3, k4⟩ := zip_getE k'
        by_cases m : n ∈ slots tg
        · exact .inr (.inl (forget_get_in m k3))
        · rw [forget_get_out m, k1] at k3
          rw [wipe_get_out (fun z => m (hv n z)), k2] at k4
          exact .inl (Prod.ext (Option.some.inj k3).symm (Option.some.inj k4).symm)
      · rw [List.getElem?_append_right (by omega)] at k
        rw [List.getElem?_append_right (by omega), ← hl] at k'
        rw [k] at k'
        exact .inl (Option.some.inj k').symm
  · obtain ⟨v₀, e, q⟩ := F.refs v i p m
    exact ⟨v₀, by rw [wipe_get_out (hr v i p m)]; exact e, q⟩
def isVal (p : V × T) : Bool := match p.2 with
  | .val _ => true
  | .ref _ _ => false
theorem RepL.addRefs : ∀ {tm : Tm} {O : Ad}, RepL G H A ((tm.filter isVal).map te) O → RepL G H A (tm.map te) O
  | [], _, h => h
  | (v, .val d) :: tm, O, h => by
    rw [List.filter_cons_of_pos (by rfl)] at h
    obtain ⟨O1, O2, h1, h2, h3, h4, h5⟩ := h
    exact ⟨O1, O2, h1, h2, h3, h4, RepL.addRefs h5⟩
  | (v, .ref i p) :: tm, O, h => by
    rw [List.filter_cons_of_neg (by simp [isVal])] at h
    exact ⟨no, O, fun _ z => z.elim, fun _ z => z, fun _ z => z.elim, trivial, RepL.addRefs h⟩
/-- out of it -/
theorem FRo.unwipe {vs : List Nat} {e' : Env} {tm2 : Tm} {H1 : Hp} {O1 : Ad} (F : FRo G C.blk (L2.wipe σ vs) (tm.filter isVal ++ tm2) e' H O) (F0 : FRo G C σ tm env H1 O1) (hr : Roots tm) (h2 : ∀ v i p, (v, T.ref i p) ∉ tm2) : FRo G C σ (tm ++ tm2) e' H O := by
  refine ⟨by rw [← F.len, wipe_length], ?_, F.nw, F.mu, fun v i p m => ?_, F.kept, F0.lent⟩
  · have r := F.rep
    unfold ents at r ⊢
    rw [List.map_append] at r ⊢
    obtain ⟨P, Q, g1, g2, g3, g4, g5⟩ := RepL.split r
    obtain ⟨Q1, Q2, f1, f2, f3, f4, f5⟩ := RepL.split g2
    refine RepL.append (O := P) (O' := Q) ?_ (RepL.append (RepL.addRefs f1) f2 f3 f4 f5) g3 g4 g5
    refine RepL.mask (by simp only [List.length_zip, wipe_length]) ?_ g1
    intro n e e'' k k'
    obtain ⟨k1, k2⟩ := zip_getE k
    obtain ⟨k3, k4⟩ := zip_getE k'
    rw [k1] at k3
    by_cases m : n ∈ vs
    · have : e.2 = none := by
        cases h : e.2 with
        | none => rfl
        | some x =>
          rw [h] at k2
          exact absurd m (wipe_some k2).2
      by_cases he : e.1 = none
      · right; left
        rw [← Option.some.inj k3, he]
      · exact .inr (.inr ⟨he, this⟩)
    · rw [wipe_get_out m, k4] at k2
      exact .inl (Prod.ext (Option.some.inj k3).symm (Option.some.inj k2))
  · rcases List.mem_append.mp m with m | m
    · obtain rfl := hr v i p m
      obtain ⟨v₀, e, q⟩ := F0.refs v i [] m
      exact ⟨v₀, e, q⟩
    · exact absurd m (h2 v i p)
/-- one more -/
theorem FRo.app1 {ds : List D} {d : D} {y : V} {p : Addr} (F : FRo G C σ ((.ref p, .val (.lst true ds)) :: tm ++ [(y, .val d)]) env H O) (hr : Roots tm) : ∃ vs, H p = some (.lst vs) ∧ vs.length = ds.length ∧ FRo G C σ ((.ref p, .val (.lst true (ds ++ [d]))) :: tm) env (upd H p (.lst (vs ++ [y]))) O := by
  have F1 : FRo G C σ (tm ++ [(.ref p, .val (.lst true ds)), (y, .val d)]) env H O := F.perm (by
    rw [List.cons_append]
    exact (List.perm_middle (l₁ := tm) (l₂ := [(y, T.val d)])).symm)
  obtain ⟨P, Q, h1, ⟨O1, O2, g1, g2, g3, g4, Q1, Q2, f1, f2, f3, f4, f5⟩, h3, h4, h5⟩ := F1.split
  simp only [te, RepO, Rep] at g4
  obtain ⟨p', vs, O', e, k1, k2, k3, k4⟩ := g4
  cases e
  have kk : Kept (fun x => x = p) H (upd H p (.lst (vs ++ [y]))) := fun b x e z => by rw [upd_ne z]; exact e
  have sM : ∀ x, x = p → Mut (H x) := fun x z => by rw [z, k1]; trivial
  have sA : ∀ x, x = p → O x ∨ C.hid x := fun x z => by rw [z]; exact .inl (h4 p (g1 p k2))
  have nQ1 : ¬ Q1 p := fun q => g3 p k2 (f1 p q)
  refine ⟨vs, k1, k4.length.symm, FRo.perm (tm := tm ++ [(.ref p, .val (.lst true (ds ++ [d])))]) (List.perm_append_comm) ⟨F.len, ?_, F.nw, fun x z => ?_, fun w i q m => ?_, fun x o e z => ?_, F.lent⟩⟩
  · unfold ents
    rw [List.map_append, ← List.append_assoc]
    refine RepL.append (O := P) (O' := Q) (RepL.kept kk sM (fun _ z => .inl z) sA (fun x z e => h5 x z (by rw [e]; exact g1 p k2)) h1) ⟨fun x => O1 x ∨ Q1 x, no, fun x z => z.elim (g1 x) fun z => g2 x (f1 x z), fun _ z => z.elim, fun _ _ z => z, ?_, trivial⟩ h3 h4 h5
    show Rep G _ _ (.lst true (ds ++ [d])) (.ref p) _
    simp only [Rep]
    refine ⟨p, vs ++ [y], fun x => O' x ∨ Q1 x, rfl, upd_same, .inl k2, fun x z => z.elim (fun z => ⟨.inl (k3 x z).1, (k3 x z).2⟩) fun z => ⟨.inr z, fun e => nQ1 (by rw [← e]; exact z)⟩, ?_⟩
    refine Reps.append (O := O') (O2 := Q1) (Reps.kept kk sM (fun _ z => .inl z) sA ds vs O' (fun x z => (k3 x z).2) k4) ?_ (fun _ z => .inl z) (fun _ z => .inr z) fun x z q => g3 x (k3 x z).1 (f1 x q)
    simp only [Reps]
    exact ⟨y, [], Q1, no, rfl, fun _ z => z, fun _ z => z.elim, fun _ _ z => z, Rep.kept kk sM (fun _ z => .inl z) sA d y Q1 (fun x z e => nQ1 (by rw [← e]; exact z)) f4, rfl⟩
  · by_cases e : x = p
    · rw [e, upd_same]; trivial
    · rw [upd_ne e]; exact F.mu x z
  · have m' : (w, T.ref i q) ∈ tm := by
      rcases List.mem_append.mp m with m | m
      · exact m
      · simp at m
    obtain rfl := hr w i q m'
    obtain ⟨v₀, e1, e2⟩ := F1.refs w i [] (List.mem_append_left _ m')
    exact ⟨v₀, e1, e2⟩
  · have : x ≠ p := fun q => F.nw p (h4 p (g1 p k2)) (by rw [← q]; exact z)
    rw [upd_ne this]
    exact F.kept x o e z
theorem wipe_idem {σ : St} (vs : List Nat) : L2.wipe (L2.wipe σ vs) vs = L2.wipe σ vs := by
  have key : ∀ (ws vs : List Nat) (σ : St), (∀ i ∈ ws, i ∈ vs) → L2.wipe (L2.wipe σ ws) vs = L2.wipe σ vs := by
    intro ws
    induction ws with
    | nil => intro vs σ _; rfl
    | cons w ws ih =>
      intro vs σ h
      simp only [L2.wipe]
      rw [wipe_wiped (h w List.mem_cons_self), ih vs σ fun i m => h i (List.mem_cons_of_mem _ m)]
  exact key vs vs σ fun _ m => m
noncomputable def turnE (evb evc : Env → R T) (tg : Tg) (ss : List T) (d : D) (e : Env) : R (Option D) := ((asgTD (srcs ss []) tg d e).nxR).bind fun _ e => (evc e).bind fun t e => match bool1 t with
        | some true => (evb e).bind fun t e => (esc t e).bind fun d e => .ok (some d) (forget tg e)
        | some false => .ok none (forget tg e)
        | none => .err
open Classical in
noncomputable def lcE (evi : Env → R (List D × List T)) (evb evc : Env → R T) (tg : Tg) (e : Env) : R T := (evi e).bind fun r e => if apart r.2 (slots tg) then (lcL (turnE evb evc tg r.2) (fun e' => ∀ t ∈ r.2, Held t e e') r.1 (forget tg e)).bind fun xs e => if xs.length ≤ sizeL then .ok (.val (.lst true xs)) e else .err else .err
theorem lcL_noexc {turn : D → Env → R (Option D)} {held : Env → Prop} : ∀ {ds : List D} {e e' : Env} {x : D}, lcL turn held ds e = .exc x e' → False
  | [], e, e', x, h => by cases h
  | d :: ds, e, e', x, h => by
    simp only [lcL] at h
    cases et : turn d e with
    | err => rw [et] at h; cases h
    | exc y e2 => rw [et] at h; cases h
    | ok o e2 =>
      rw [et] at h
      simp only [R.noX_ok, R.bind_ok] at h
      split at h
      · cases el : lcL turn held ds e2 with
        | err => rw [el] at h; cases h
        | exc y e3 => exact lcL_noexc el
        | ok xs e3 => rw [el] at h; cases h
      · cases h
theorem apart_out {ss : List T} {l : List Nat} {i : Nat} {p : List Stp} (h : apart ss l = true) (m : T.ref i p ∈ ss) : i ∉ l := by
  have := List.all_eq_true.mp h _ m
  simpa using this
theorem held_forget {ss : List T} {tg : Tg} {e : Env} (h : apart ss (slots tg) = true) : ∀ t ∈ ss, Held t e (forget tg e) := fun t m => by
  cases t with
  | val d => trivial
  | ref i p =>
    show Env.at _ i p = Env.at _ i p
    unfold Env.at
    rw [forget_get_out (apart_out h m)]
theorem lc_tLc {evi : Env → R (List D × List T)} {tg : Tg} {g : TG} {vs : List Nat} {Q : VK} (hg : TgG G tg g) (hv : ∀ i ∈ vs, i ∈ slots tg) (hv' : ∀ i ∈ slots tg, i ∈ vs) (h : tE G C W false (lcE evi evb evc tg) σ H Q) :
    tLc (tI G C W evi) g (tT G C.blk (fun _ _ _ _ => False) sc (asT evc)) (tE G C.blk (fun _ _ _ _ => False) sb evb) vs σ H Q := by
  obtain ⟨tm, env, F, hr, h⟩ := h
  have hr := hr rfl
  unfold lcE at h
  refine ⟨tm, env, F, hr, ?_⟩
  cases ei : evi env with
  | err => rw [ei] at h; exact h
  | exc x e => rw [ei] at h; exact h
  | ok r env1 =>
    obtain ⟨ds, ss⟩ := r
    rw [ei] at h
    simp only [R.bind_ok] at h
    intro st J H1 F1 so wk p hp
    by_cases ap : apart ss (slots tg) = true
    · rw [if_pos ap] at h
      cases el : lcL (turnE evb evc tg ss) (fun e' => ∀ t ∈ ss, Held t env1 e') ds (forget tg env1) with
      | err => rw [el] at h; exact h.elim
      | exc x e => exact (lcL_noexc el).elim
      | ok xs efin =>
        rw [el] at h
        simp only [R.bind_ok] at h
        by_cases hz : xs.length ≤ sizeL
        · rw [if_pos hz] at h
          -- the refs in between
          have soN : ∀ v i q, (v, T.ref i q) ∈ st → q = [] ∧ i ∉ slots tg ∧ i ∈ srcs ss [] := fun v i q m => ⟨(so v i q m).1, apart_out ap (so v i q m).2, mem_srcs (so v i q m).2⟩
          have inB : ∀ {acc : List D} {v : V} {i : Nat} {q : List Stp}, (v, T.ref i q) ∈ ((.ref p, .val (.lst true acc)) :: tm.filter isVal) ++ st → (v, T.ref i q) ∈ st := fun {acc v i q} m => by
            rcases List.mem_append.mp m with m | m
            · rcases List.mem_cons.mp m with m | m
              · cases m
              · have := (List.mem_filter.mp m).2
                cases this
            · exact m
          have roots : ∀ {acc : List D}, Roots (((.ref p, .val (.lst true acc)) :: tm.filter isVal) ++ st) := fun {acc} v i q m => (soN v i q (inB m)).1
          have pend : ∀ {acc : List D}, Pend (((.ref p, .val (.lst true acc)) :: tm.filter isVal) ++ st) (srcs ss []) := fun {acc} v i q m => ⟨(soN v i q (inB m)).1, (soN v i q (inB m)).2.2⟩
          have out : ∀ {acc : List D} v i q, (v, T.ref i q) ∈ ((.ref p, .val (.lst true acc)) :: tm.filter isVal) ++ st → i ∉ vs := fun {acc} v i q m z => (soN v i q (inB m)).2.1 (hv i z)
          obtain ⟨Wt, hWt⟩ : ∃ Wt : Nat → Nat → Hp → Prop, Wt = fun i m H => m = ds.length - i ∧ i ≤ ds.length ∧ ∃ env acc rest, FR G C.blk (L2.wipe σ vs) (((.ref p, .val (.lst true acc)) :: tm.filter isVal) ++ st) env H ∧ (∀ t ∈ ss, Held t env1 env) ∧
            lcL (turnE evb evc tg ss) (fun e' => ∀ t ∈ ss, Held t env1 e') (ds.drop i) env = .ok rest efin ∧ acc ++ rest = xs := ⟨_, rfl⟩
          refine ⟨Wt, ⟨ds.length, ?_⟩, ?_⟩
          · rw [hWt]
            refine ⟨by simp, Nat.zero_le _, forget tg env1, [], xs, ?_, held_forget ap, by simpa using el, rfl⟩
            obtain ⟨O1, F1⟩ := F1
            have s1 : (tm.filter isVal ++ st).Sublist (tm ++ st) := List.Sublist.append_right (List.filter_sublist) _
            obtain ⟨O2, F2⟩ := FRo.mkLst (ds := []) (vs := []) (p := p) (by simpa using F1.subT s1) rfl hp
            exact ⟨O2, FRo.wipe (FRo.perm (List.perm_append_singleton _ _) F2) hv out⟩
          · intro i m H2 w
            rw [hWt] at w
            obtain ⟨rfl, hi, env2, acc, rest, F2, held, el2, ea⟩ := w
            obtain ⟨w1, w2⟩ := wk.go C.blk _ i _ env2 H2 hi F2 held
            by_cases lt : i < ds.length
            · refine .inr ⟨w1 lt, fun H' => Wt (i + 1) (ds.length - (i + 1)) H', fun H' z => ⟨_, by omega, z⟩, fun x H3 y => ?_⟩
              have ed : ds[i]? = some ds[i] := List.getElem?_eq_getElem lt
              obtain ⟨F3, _⟩ := wk.yld C.blk _ i _ env2 H2 x H3 _ F2 held ed y
              rw [List.drop_eq_getElem_cons lt] at el2
              simp only [lcL] at el2
              -- the turn's end
              have fin : ∀ {σ' : St} {acc' : List D} {o : Option D} {env' : Env} {H' : Hp}, FR G C.blk σ' (((.ref p, .val (.lst true acc')) :: tm.filter isVal) ++ st) env' H' → L2.wipe σ' vs = L2.wipe σ vs → acc' = acc ++ optL o [] → turnE evb evc tg ss ds[i] env2 = .ok o (forget tg env') →
                  Wt (i + 1) (ds.length - (i + 1)) H' := by
                rintro σ' acc' o env' H' ⟨O', F'⟩ hw rfl et
                rw [et] at el2
                simp only [R.noX_ok, R.bind_ok] at el2
                split at el2
                · rename_i hh
                  cases e5 : lcL (turnE evb evc tg ss) (fun e' => ∀ t ∈ ss, Held t env1 e') (ds.drop (i + 1)) (forget tg env') with
                  | err => rw [e5] at el2; cases el2
                  | exc x e => rw [e5] at el2; cases el2
                  | ok rest' e6 =>
                    rw [e5] at el2
                    simp only [R.bind_ok, R.ok.injEq] at el2
                    obtain ⟨rfl, rfl⟩ := el2
                    rw [hWt]
                    refine ⟨rfl, lt, forget tg env', acc ++ optL o [], rest', ⟨O', ?_⟩, hh, e5, ?_⟩
                    · have := FRo.wipe F' hv out
                      rw [hw] at this
                      exact this
                    · rw [← ea]
                      cases o with
                      | none => simp [optL]
                      | some d => simp [optL]
                · cases el2
              have accz : ∀ {o : Option D} {env' : Env}, turnE evb evc tg ss ds[i] env2 = .ok o env' → ∀ d, o = some d → acc.length < sizeLine := by
                rintro o env' et d rfl
                rw [et] at el2
                simp only [R.noX_ok, R.bind_ok] at el2
                split at el2
                · cases e5 : lcL (turnE evb evc tg ss) (fun e' => ∀ t ∈ ss, Held t env1 e') (ds.drop (i + 1)) env' with
                  | err => rw [e5] at el2; cases el2
                  | exc x e => rw [e5] at el2; cases el2
                  | ok rest' e6 =>
                    rw [e5] at el2
                    simp only [R.bind_ok, R.ok.injEq] at el2
                    obtain ⟨rfl, rfl⟩ := el2
                    have : xs.length = acc.length + (rest'.length + 1) := by rw [← ea]; simp [optL]
                    rw [sizeL_eq] at hz
                    omega
                · cases el2
              have ok2 : (turnE evb evc tg ss ds[i] env2).noX ≠ .err := fun z => by rw [z] at el2; cases el2
              unfold turnE at ok2
              cases e1 : asgTD (srcs ss []) tg ds[i] env2 with
              | nx env3 =>
                rw [e1] at ok2
                simp only [LT.F.nxR_nx, R.bind_ok] at ok2
                have step := hg.ok C.blk (fun _ _ _ _ => False) _ env2 (srcs ss []) (L2.wipe σ vs) H3 ds[i] x (fun σ' H' => FR G C.blk σ' (((.ref p, .val (.lst true acc)) :: tm.filter isVal) ++ st) env3 H') F3 pend (fun q m => by cases m) (by rw [e1]; exact fun σ' H' z => z)
                have step := hg.loc _ _ _ _ vs hv' step
                refine hg.mono _ _ _ _ _ ?_ step
                rintro σ4 H4 ⟨hw, F4⟩
                rw [wipe_idem] at hw
                refine ⟨hw, _, env3, F4, fun _ => roots, ?_⟩
                unfold asT
                cases e2 : evc env3 with
                | err => rw [e2] at ok2; exact (ok2 rfl).elim
                | exc x e => rw [e2] at ok2; exact (ok2 rfl).elim
                | ok t env4 =>
                  rw [e2] at ok2
                  simp only [R.bind_ok] at ok2 ⊢
                  cases e3 : bool1 t with
                  | none => rw [e3] at ok2; exact (ok2 rfl).elim
                  | some bb =>
                    rw [e3] at ok2
                    intro H5 F5 _
                    cases bb with
                    | false =>
                      rw [if_neg (by decide)]
                      refine fin (o := none) F5 hw (by simp [optL]) ?_
                      unfold turnE
                      rw [e1]
                      simp only [LT.F.nxR_nx, R.bind_ok]
                      rw [e2]
                      simp only [R.bind_ok]
                      rw [e3]
                    | true =>
                      rw [if_pos rfl]
                      dsimp only at ok2
                      refine ⟨_, env4, F5, fun _ => roots, ?_⟩
                      cases e4 : evb env4 with
                      | err => rw [e4] at ok2; exact (ok2 rfl).elim
                      | exc x e => rw [e4] at ok2; exact (ok2 rfl).elim
                      | ok u env5 =>
                        rw [e4] at ok2
                        simp only [R.bind_ok] at ok2
                        intro yv H6 F6 _
                        cases e5 : esc u env5 with
                        | err => rw [e5] at ok2; exact (ok2 rfl).elim
                        | exc x e => rw [e5] at ok2; exact (ok2 rfl).elim
                        | ok d env6 =>
                          obtain ⟨O7, F7⟩ := F6.esc1 e5
                          have et : turnE evb evc tg ss ds[i] env2 = .ok (some d) (forget tg env6) := by
                            unfold turnE
                            rw [e1]
                            simp only [LT.F.nxR_nx, R.bind_ok]
                            rw [e2]
                            simp only [R.bind_ok]
                            rw [e3]
                            dsimp only
                            rw [e4]
                            simp only [R.bind_ok]
                            rw [e5]
                            rfl
                          have rt : Roots (tm.filter isVal ++ st) := fun v i q m => roots (acc := acc) v i q (List.mem_cons_of_mem _ m)
                          obtain ⟨ws, k1, k2, F8⟩ := FRo.app1 (tm := tm.filter isVal ++ st) F7 rt
                          exact ⟨ws, k1, by rw [k2]; exact accz et d rfl, fin (o := some d) ⟨O7, F8⟩ hw rfl et⟩
              | _ => rw [e1] at ok2; exact (ok2 rfl).elim
            · obtain rfl : i = ds.length := by omega
              refine .inl ⟨w2 (Nat.le_refl _), ?_⟩
              rw [List.drop_length] at el2
              simp only [lcL, R.ok.injEq] at el2
              obtain ⟨rfl, rfl⟩ := el2
              rw [List.append_nil] at ea
              subst ea
              obtain ⟨O2, F2⟩ := F2
              obtain ⟨O1, F1⟩ := F1
              have F3 : FRo G C.blk (L2.wipe σ vs) (tm.filter isVal ++ [(.ref p, .val (.lst true acc))]) env2 H2 O2 := FRo.perm (List.perm_append_singleton _ _).symm (FRo.pop (tm' := st) F2)
              exact h (.ref p) H2 ⟨O2, F3.unwipe F1.pop hr (fun v i q m => by simp at m)⟩ (fun z => by cases z)
        · rw [if_neg hz] at h; exact h.elim
    · rw [if_neg ap] at h; exact h.elim
end
end LT
/-! LtS: calls of defs. -/
namespace LT
open PySem L2
def argL (ds : List D) (vs : List V) : List (Option D × Option V) := (vs.zip (ds.map T.val)).map te
/-- a call's end, as the callee promises it -/
def spR (G : GK) (H : Hp) (Q : VK) (E : XK) (O hid : Ad) (vs : List V) : CR → Prop
  | .ret d outs => ∀ v H' O', Kept O H H' → (∀ a, O' a → O a ∨ H a = none) → (∀ a, O' a → Mut (H' a)) → outs.length = vs.length → RepL G H' (fun a => O' a ∨ hid a) ((some d, some v) :: argL outs vs) O' → Q v H'
  | .exc x outs => ∀ cls dx H' O', G.XR x cls dx H' → Kept O H H' → (∀ a, O' a → O a ∨ H a = none) → (∀ a, O' a → Mut (H' a)) → outs.length = vs.length → RepL G H' (fun a => O' a ∨ hid a) (argL outs vs) O' → E cls dx H'
  | .err => False
/-- the promise of the def j -/
def spF (G : GK) (cl : Nat → List D → CR) (j np : Nat) : Sp := fun vs H Q E => ∃ (ds : List D) (O hid : Ad), vs.length = np ∧ ds.length = np ∧ (∀ a, hid a → H a ≠ none) ∧ (∀ a, hid a → ¬ O a) ∧ RepL G H (fun a => O a ∨ hid a) (argL ds vs) O ∧ (∀ a, O a → Mut (H a)) ∧ spR G H Q E O hid vs (cl j ds)
section
variable {G : GK} {C : Fc} {W : WX} {X : Cx} {σ : St} {tm : Tm} {env : Env} {H H' : Hp} {O A : Ad} {ln : List Nat} {pos : Pos} {sa : Bool}
theorem FRo.moved1 {v : V} {d : D} {i : Nat} (F : FRo G C σ (tm ++ [(v, .ref i [])]) env H O) (e1 : env[i]?.getD none = some d) : FRo G C σ (tm ++ [(v, .val d)]) (env.set i none) H O := by
  obtain ⟨sv, hs, he, lt⟩ := ents_get (tm := tm) F.len e1
  obtain ⟨P, Q, h1, h2, h3, h4, h5⟩ := F.split
  obtain ⟨w, O1, R, ev, g1, g2, g3, g4, g5⟩ := RepL.focus h1 he
  subst ev
  obtain ⟨v₀, q1, q2⟩ := F.refs v i [] (List.mem_append_right _ List.mem_cons_self)
  rw [hs] at q1; cases q1
  obtain rfl : v = w := q2
  have r := g5 H (fun a => O a ∨ C.hid a) no (none, some v) no (Kept.refl H) (fun _ z => z.elim) (fun a z => .inl z) (fun _ z => z.elim) (fun _ _ z => z) trivial fun _ z => z.elim
  rw [← ents_set hs (by rw [List.length_zip, F.len]; omega)] at r
  refine ⟨by rw [List.length_set]; exact F.len, ?_, F.nw, F.mu, fun w j p m => ?_, F.kept, F.lent⟩
  · have e2 : ents σ (tm ++ [(v, T.val d)]) (env.set i none) = ents σ tm (env.set i none) ++ [(some d, some v)] := by
      unfold ents
      rw [List.map_append, ← List.append_assoc]
      rfl
    rw [e2]
    exact RepL.append r (O' := O1) ⟨O1, no, fun _ z => z, fun _ z => z.elim, fun _ _ z => z, g4, trivial⟩ (fun a z => h3 a (z.elim (g2 a) fun z => z.elim)) (fun a z => h3 a (g1 a z)) fun a z q => z.elim (fun z => g3 a q z) fun z => z
  · rcases List.mem_append.mp m with m | m
    · exact F.pop.refs w j p m
    · simp at m
theorem perm_mid {α : Type} {l1 l2 : List α} {x : α} : (l1 ++ x :: l2).Perm (l1 ++ l2 ++ [x]) := by
  refine List.perm_middle.trans ?_
  exact (List.perm_append_singleton x (l1 ++ l2)).symm
theorem FRo.lend : ∀ {ts : List T} {vs : List V} {ds : List D} {tm : Tm} {env e' : Env}, vs.length = ts.length → FRo G C σ (tm ++ vs.zip ts) env H O → LT.lend ts env = some (ds, e') → FRo G C σ (tm ++ vs.zip (ds.map T.val)) e' H O ∧ ds.length = vs.length ∧ ∀ v i p, (v, T.ref i p) ∈ vs.zip ts → σ[i]? = some (some v)
  | [], vs, ds, tm, env, e', hl, F, h => by
    simp only [LT.lend, Option.some.injEq, Prod.mk.injEq] at h
    obtain ⟨rfl, rfl⟩ := h
    obtain rfl : vs = [] := List.length_eq_zero_iff.mp hl
    exact ⟨by simpa using F, rfl, fun v i p m => by simp at m⟩
  | t :: ts, [], ds, tm, env, e', hl, F, h => by simp at hl
  | .val d :: ts, v :: vs, ds, tm, env, e', hl, F, h => by
    simp only [LT.lend] at h
    obtain ⟨r, e1, e2⟩ := Option.map_eq_some_iff.mp h
    cases e2
    rw [List.zip_cons_cons] at F
    obtain ⟨F2, l2, k2⟩ := FRo.lend (tm := tm ++ [(v, .val d)]) (ds := r.1) (e' := r.2) (by simpa using hl) (by rw [List.append_assoc]; exact F) e1
    refine ⟨by rw [List.append_assoc] at F2; simpa using F2, by simp [l2], fun w i p m => ?_⟩
    rw [List.zip_cons_cons] at m
    rcases List.mem_cons.mp m with m | m
    · cases m
    · exact k2 w i p m
  | .ref i p :: ts, v :: vs, ds, tm, env, e', hl, F, h => by
    simp only [LT.lend] at h
    by_cases hp : p.isEmpty = true
    · rw [if_pos hp] at h
      obtain rfl : p = [] := List.isEmpty_iff.mp hp
      cases ed : env[i]?.getD none with
      | none => rw [ed] at h; cases h
      | some d =>
        rw [ed] at h
        obtain ⟨r, e1, e2⟩ := Option.map_eq_some_iff.mp h
        cases e2
        rw [List.zip_cons_cons] at F
        have Fp : FRo G C σ (tm ++ vs.zip ts ++ [(v, .ref i [])]) env H O := F.perm perm_mid
        have F1 : FRo G C σ ((tm ++ [(v, .val d)]) ++ vs.zip ts) (env.set i none) H O := by
          rw [List.append_assoc]
          exact (Fp.moved1 ed).perm perm_mid.symm
        obtain ⟨F2, l2, k2⟩ := FRo.lend (ds := r.1) (e' := r.2) (by simpa using hl) F1 e1
        refine ⟨by rw [List.append_assoc] at F2; simpa using F2, by simp [l2], fun w j q m => ?_⟩
        rw [List.zip_cons_cons] at m
        rcases List.mem_cons.mp m with m | m
        · cases m
          obtain ⟨v₀, q1, q2⟩ := F.refs v i [] (List.mem_append_right _ List.mem_cons_self)
          rw [show v = v₀ from q2]
          exact q1
        · exact k2 w j q m
    · rw [if_neg hp] at h; cases h
/-- it comes back into its slot -/
theorem FRo.unlend {v : V} {d : D} {i : Nat} (F : FRo G C σ (tm ++ [(v, .val d)]) env H O) (hs : σ[i]? = some (some v)) : FRo G C σ tm (env.set i (some d)) H O := by
  obtain ⟨P, Q, h1, ⟨O1, O2, g1, g2, g3, g4, g5⟩, h3, h4, h5⟩ := F.split
  refine ⟨by rw [List.length_set]; exact F.len, ?_, F.nw, F.mu, F.pop.refs, F.kept, F.lent⟩
  have lt : i < (env.zip σ).length := by
    have := (List.getElem?_eq_some_iff.mp hs).1
    rw [List.length_zip, ← F.len]; omega
  rw [ents_set hs lt]
  exact RepL.put i (e := (some d, some v)) h1 g4 h3 (fun a z => h4 a (g1 a z)) fun a z q => h5 a z (g1 a q)
theorem FRo.back : ∀ {ts : List T} {vs : List V} {ds : List D} {tm : Tm} {env : Env}, vs.length = ts.length → ds.length = vs.length → FRo G C σ (tm ++ vs.zip (ds.map T.val)) env H O → (∀ v i p, (v, T.ref i p) ∈ vs.zip ts → σ[i]? = some (some v)) → FRo G C σ tm (LT.back ts ds env) H O
  | [], vs, ds, tm, env, hl, hd, F, k => by
    obtain rfl : vs = [] := List.length_eq_zero_iff.mp hl
    obtain rfl : ds = [] := List.length_eq_zero_iff.mp hd
    simpa [LT.back] using F
  | t :: ts, [], ds, tm, env, hl, hd, F, k => by simp at hl
  | t :: ts, v :: vs, [], tm, env, hl, hd, F, k => by simp at hd
  | .val _ :: ts, v :: vs, d :: ds, tm, env, hl, hd, F, k => by
    simp only [LT.back]
    refine FRo.back (vs := vs) (by simpa using hl) (by simpa using hd) ?_ fun w i p m => k w i p (by rw [List.zip_cons_cons]; exact List.mem_cons_of_mem _ m)
    rw [List.map_cons, List.zip_cons_cons] at F
    exact F.subT (List.Sublist.append_left (List.sublist_cons_self _ _) _)
  | .ref i p :: ts, v :: vs, d :: ds, tm, env, hl, hd, F, k => by
    simp only [LT.back]
    rw [List.map_cons, List.zip_cons_cons] at F
    have hs := k v i p (by rw [List.zip_cons_cons]; exact List.mem_cons_self)
    refine FRo.back (vs := vs) (by simpa using hl) (by simpa using hd) ((F.perm perm_mid).unlend hs) fun w i p m => k w i p (by rw [List.zip_cons_cons]; exact List.mem_cons_of_mem _ m)
/-- behind a call -/
theorem FRo.behind {vs : List V} {ds es : List D} {P Q O' : Ad} {l : Tm} (F : FRo G C σ (tm ++ vs.zip (ds.map T.val)) env H O) (hr : Roots tm) (hlr : ∀ v i p, (v, T.ref i p) ∉ l) (h1 : RepL G H (fun a => O a ∨ C.hid a) (ents σ tm env) P) (h3 : ∀ a, P a → O a) (h4 : ∀ a, Q a → O a) (h5 : ∀ a, P a → ¬ Q a)
    (kk : Kept Q H H') (n1 : ∀ a, O' a → Q a ∨ H a = none) (n2 : ∀ a, O' a → Mut (H' a)) (r : RepL G H' (fun a => O' a ∨ (P a ∨ C.hid a)) (l.map te) O') : FRo G C σ (tm ++ l) env H' (fun a => P a ∨ O' a) := by
  have sM : ∀ a, Q a → Mut (H a) := fun a z => F.mu a (h4 a z)
  refine ⟨F.len, ?_, fun a z => z.elim (fun z => F.nw a (h3 a z)) fun z => (n1 a z).elim (fun z => F.nw a (h4 a z)) fun z => F.tracked z, fun a z => z.elim (fun z => ?_) (n2 a), fun w i q m => ?_, fun a x e z => kk a x (F.kept a x e z) fun q => F.nw a (h4 a q) z, F.lent⟩
  · unfold ents
    rw [List.map_append, ← List.append_assoc]
    refine RepL.append (O := P) (O' := O') (RepL.kept kk sM ?_ (fun a z => .inl (h4 a z)) h5 h1) (RepL.kept (S := no) (Kept.refl H') (fun _ z => z.elim) (fun a z => .inl ?_) (fun _ z => z.elim) (fun _ _ z => z) r) (fun _ z => .inl z) (fun _ z => .inr z) fun a z q => ?_
    · rintro a ((z | z) | z)
      · exact .inl (.inl (h3 a z))
      · exact (n1 a z).elim (fun z => .inl (.inl (h4 a z))) .inr
      · exact .inl (.inr z)
    · rcases z with (z | z) | z
      · exact .inr (.inl z)
      · exact .inl z
      · exact .inr (.inr z)
    · rcases n1 a q with q | q
      · exact h5 a z q
      · have := F.mu a (h3 a z)
        rw [q] at this; exact this
  · have m := F.mu a (h3 a z)
    cases e : H a with
    | none => rw [e] at m; exact m.elim
    | some x => rw [kk a x e (h5 a z), ← e]; exact m
  · rcases List.mem_append.mp m with m | m
    · obtain rfl := hr w i q m
      obtain ⟨v₀, e, z⟩ := F.refs w i [] (List.mem_append_left _ m)
      exact ⟨v₀, e, z⟩
    · exact absurd m (hlr w i q)
theorem vals_norefs {vs : List V} {ds : List D} : ∀ v i p, (v, T.ref i p) ∉ vs.zip (ds.map T.val) := fun v i p m => by
  have := (List.of_mem_zip m).2
  obtain ⟨d, _, e⟩ := List.mem_map.mp this
  cases e
theorem Rep.atom {d : D} {v : V} {H' : Hp} {A' O' : Ad} (hd : d.atom = true) (h : Rep G H A d v O) : Rep G H' A' d v O' := by
  cases d <;> first | (simpa [Rep] using h) | cases hd
theorem FRo.borrow : ∀ {ts : List T} {vs : List V} {ds : List D} {tm : Tm}, vs.length = ts.length → FRo G C σ (tm ++ vs.zip ts) env H O → LT.borrow ts env = some ds → ds.length = vs.length ∧ RepL G H (fun a => no a ∨ no a) (argL ds vs) no
  | [], vs, ds, tm, hl, F, h => by
    simp only [LT.borrow, Option.some.injEq] at h
    subst h
    obtain rfl : vs = [] := List.length_eq_zero_iff.mp hl
    exact ⟨rfl, trivial⟩
  | t :: ts, [], ds, tm, hl, F, h => by simp at hl
  | t :: ts, v :: vs, ds, tm, hl, F, h => by
    rw [List.zip_cons_cons] at F
    have F2 : FRo G C σ ((tm ++ [(v, t)]) ++ vs.zip ts) env H O := by rw [List.append_assoc]; exact F
    obtain ⟨d, ds', hb, e3, r⟩ : ∃ d ds', LT.borrow ts env = some ds' ∧ ds = d :: ds' ∧ Rep G H (fun a => no a ∨ no a) d v no := by
      cases t with
      | val d =>
        simp only [LT.borrow] at h
        split at h
        · cases h
        · rename_i hd
          obtain ⟨ds', e1, e2⟩ := Option.map_eq_some_iff.mp h
          obtain ⟨O1, O', _, _, _, r, _⟩ := F.take
          refine ⟨d, ds', e1, e2.symm, Rep.noown (by simpa using hd) (Rep.kept (S := no) (Kept.refl H) (fun _ z => z.elim) (fun a z => z.elim (fun z => z.elim) fun z => z.elim) (fun _ z => z.elim) d v O1 (fun _ _ z => z) r)⟩
      | ref i p =>
        simp only [LT.borrow] at h
        cases ed : env.at i p with
        | none => rw [ed] at h; cases h
        | some d =>
          rw [ed] at h
          obtain ⟨ds', e1, e2⟩ := Option.map_eq_some_iff.mp h
          obtain ⟨w, O1, R, _, u, _, _, _, r, _⟩ := F.alter ed
          obtain rfl := u v (F.refs v i p (List.mem_append_right _ List.mem_cons_self))
          exact ⟨d.frz, ds', e1, e2.symm, Rep.frz (fun a z => z.elim (fun z => z.elim) fun z => z.elim) d v O1 (fun a _ q => q.elim (fun z => z) fun z => z) r no⟩
    subst e3
    obtain ⟨l2, r2⟩ := FRo.borrow (ds := ds') (by simpa using hl) F2 hb
    exact ⟨by simp [l2], no, no, fun _ z => z, fun _ z => z, fun _ z _ => z, r, r2⟩
theorem tE_call {cl : Nat → List D → CR} {j np : Nat} {evas : Env → R (List T)} {σ : St} {H : Hp} {Q : VK} (hnp : ∀ ds, cl j ds ≠ .err → ds.length = np) (h : tE G C W false (fun e => (evas e).bind fun ts e => callT cl j ts e) σ H Q) : tCallS (spF G cl j np) (WE W) (tEs G C W sa evas) σ H Q := by
  refine tEs_bind (Q' := fun vs H1 => spF G cl j np vs H1 Q (WE W σ)) (by simp) h fun tm vs ts env env0 H1 _ hl ⟨O, F⟩ hr _ k => ?_
  have hr := hr rfl
  unfold callT at k
  cases e1 : lend ts env with
  | none =>
    rw [e1] at k
    dsimp only at k
    cases eb : LT.borrow ts env with
    | none => rw [eb] at k; exact k.elim
    | some ds =>
      rw [eb] at k
      dsimp only [callB] at k
      obtain ⟨l1, r1⟩ := F.borrow hl eb
      have hne : cl j ds ≠ .err := fun z => by rw [z] at k; exact k
      refine ⟨ds, no, no, by rw [← l1]; exact hnp ds hne, hnp ds hne, fun _ z => z.elim, fun _ z => z.elim, r1, fun _ z => z.elim, ?_⟩
      cases ec : cl j ds with
      | err => exact absurd ec hne
      | ret d outs =>
        rw [ec] at k
        dsimp only at k
        intro v H' O' kk n1 n2 lo r
        cases hd : d.atom with
        | false => rw [hd] at k; exact k.elim
        | true =>
          rw [hd] at k
          obtain ⟨O1, O2, _, _, _, r1, _⟩ := r
          have ho : d.own = false := by cases d <;> first | rfl | cases hd
          exact k v H' ⟨_, F.pop.push0 kk.same ho (O1 := O1) (Rep.atom (O := O1) hd r1)⟩ fun z => by cases z
      | exc x outs =>
        rw [ec] at k
        dsimp only at k
        intro cls dx H' O' xr kk n1 n2 lo r
        exact k cls dx H' xr ⟨_, F.pop.same kk.same⟩
  | some r =>
    obtain ⟨ds, e'⟩ := r
    rw [e1] at k
    dsimp only at k
    obtain ⟨F1, l1, ks⟩ := F.lend hl e1
    obtain ⟨P, Qa, h1, h2, h3, h4, h5⟩ := F1.split
    have hne : cl j ds ≠ .err := fun z => by rw [z] at k; exact k
    have hidN : ∀ a, P a ∨ C.hid a → H1 a ≠ none := by
      rintro a (z | z) e
      · have := F1.mu a (h3 a z)
        rw [e] at this; exact this
      · exact F1.tracked e (C.hn a z)
    have hidO : ∀ a, P a ∨ C.hid a → ¬ Qa a := by
      rintro a (z | z) q
      · exact h5 a z q
      · exact F1.hidO a (h4 a q) z
    have rQ : RepL G H1 (fun a => Qa a ∨ (P a ∨ C.hid a)) (argL ds vs) Qa := RepL.kept (S := no) (Kept.refl H1) (fun _ z => z.elim) (fun a z => .inl (by
      rcases z with z | z | z
      · exact .inl (h4 a z)
      · exact .inl (h3 a z)
      · exact .inr z)) (fun _ z => z.elim) (fun _ _ z => z) h2
    refine ⟨ds, Qa, fun a => P a ∨ C.hid a, by rw [← l1]; exact hnp ds hne, hnp ds hne, hidN, hidO, rQ, fun a z => F1.mu a (h4 a z), ?_⟩
    cases ec : cl j ds with
    | err => exact absurd ec hne
    | ret d outs =>
      rw [ec] at k
      intro v H' O' kk n1 n2 lo r
      have F2 := F1.behind (es := outs) (l := (v, .val d) :: vs.zip (outs.map T.val)) hr (fun w i p m => by
        rcases List.mem_cons.mp m with m | m
        · cases m
        · exact vals_norefs w i p m) h1 h3 h4 h5 kk n1 n2 r
      have F3 := FRo.back (tm := tm ++ [(v, .val d)]) hl lo (by rw [List.append_assoc]; exact F2) ks
      exact k v H' ⟨_, F3⟩ fun z => by cases z
    | exc x outs =>
      rw [ec] at k
      intro cls dx H' O' xr kk n1 n2 lo r
      have F2 := F1.behind (es := outs) (l := vs.zip (outs.map T.val)) hr vals_norefs h1 h3 h4 h5 kk n1 n2 r
      exact k cls dx H' xr ⟨_, FRo.back hl lo F2 ks⟩
variable {cl : Nat → List D → CR} {j np k : Nat} {f : Addr} {fd : FuncData} {ps : List Str} {x : Str} {p : Pos} {e : Expr} {es : List Expr} {evas : Env → R (List T)}
theorem se_call (Fn : FnOk X.prog X.w X.K X.mg X.base (L2.CX X.prog X.w) k f fd ps (spF G cl j np)) (hnp : ∀ ds, cl j ds ≠ .err → ds.length = np) (hr : Room k X.A) (hg : Gl X x) (hm : X.mg x = some (.ref f)) (hk : PySem.W.keepIn X.K (.ref f) = true) (hb : Binds X.K fd ps []) (tk : Takes X W)
    (ha : PA X (e :: es) (tEs G C W sa evas)) (hdb : (x == ("__debug__" : Str)) = false) (he : starEach (e :: es) X.env = (false, eval e X.env) :: starEach es X.env) (hpl : (backTo pos (starEach es X.env)).any (·.1) = false) :
    PE X (.Call (.Name x p) (e :: es) [] pos) (tE G C W false (fun e => (evas e).bind fun ts e => callT cl j ts e)) :=
  PE.mono (pe_callS (CX := L2.CX X.prog X.w) Fn hr hg hm hk hb (fun σ => passAt tk σ) ha hdb he hpl) fun σ H Q h => tE_call hnp h
end
end LT
/-! LtT: a def keeps its promise. -/
namespace LT
open PySem L2
open PyProof.Rows (envOfC)
section
variable {G : GK} {C : Fc} {W : WX} {X : Cx} {σ : St} {tm : Tm} {env : Env} {H H' : Hp} {O A : Ad} {ln : List Nat} {pos : Pos} {sa : Bool}
def lnV : Nat → List D → List V → List (Nat × V)
  | n, d :: ds, v :: vs => if d.own then (n, v) :: lnV (n + 1) ds vs else lnV (n + 1) ds vs
  | _, _, _ => []
theorem lnV_get : ∀ {n : Nat} {ds : List D} {vs : List V} {p : Nat × V}, p ∈ lnV n ds vs → n ≤ p.1 ∧ vs[p.1 - n]? = some p.2
  | n, [], vs, p, h => by simp [lnV] at h
  | n, d :: ds, [], p, h => by simp [lnV] at h
  | n, d :: ds, v :: vs, p, h => by
    have tl : p ∈ lnV (n + 1) ds vs → n ≤ p.1 ∧ (v :: vs)[p.1 - n]? = some p.2 := fun h => by
      obtain ⟨h1, h2⟩ := lnV_get h
      refine ⟨by omega, ?_⟩
      have : p.1 - n = (p.1 - (n + 1)) + 1 := by omega
      rw [this, List.getElem?_cons_succ]
      exact h2
    simp only [lnV] at h
    split at h
    · rcases List.mem_cons.mp h with e | h
      · subst e; simp
      · exact tl h
    · exact tl h
theorem lnV_has : ∀ {n i : Nat} {ds : List D} {vs : List V} {d : D} {v : V}, ds[i]? = some d → vs[i]? = some v → d.own = true → (n + i, v) ∈ lnV n ds vs
  | n, i, [], vs, d, v, h, _, _ => by simp at h
  | n, i, d :: ds, [], _, _, _, h, _ => by simp at h
  | n, 0, d :: ds, v :: vs, d', v', h1, h2, h3 => by
    simp at h1 h2
    subst h1 h2
    simp only [lnV, if_pos h3]
    exact List.mem_cons_self
  | n, i + 1, d :: ds, v :: vs, d', v', h1, h2, h3 => by
    have := lnV_has (n := n + 1) (i := i) (ds := ds) (vs := vs) (by simpa using h1) (by simpa using h2) h3
    rw [show n + 1 + i = n + (i + 1) by omega] at this
    simp only [lnV]
    split
    · exact List.mem_cons_of_mem _ this
    · exact this
theorem lnV_ix : ∀ {n : Nat} {ds : List D} {vs : List V} {p : Nat × V}, p ∈ lnV n ds vs → p.1 ∈ lentIx n ds
  | n, [], vs, p, h => by simp [lnV] at h
  | n, d :: ds, [], p, h => by simp [lnV] at h
  | n, d :: ds, v :: vs, p, h => by
    simp only [lnV] at h
    simp only [lentIx]
    split at h
    · rename_i hd
      rw [if_pos hd]
      rcases List.mem_cons.mp h with e | h
      · subst e; exact List.mem_cons_self
      · exact List.mem_cons_of_mem _ (lnV_ix h)
    · rename_i hd
      rw [if_neg hd]
      exact lnV_ix h
theorem RepL.nones : ∀ {n m : Nat} {O : Ad}, RepL G H A ((List.replicate n (none : Option D)).zip (List.replicate m (none : Option V))) O
  | 0, _, _ => by simp [RepL]
  | n + 1, 0, _ => by simp [RepL]
  | n + 1, m + 1, O => by
    simp only [List.replicate_succ, List.zip_cons_cons]
    exact ⟨no, O, fun _ z => z.elim, fun _ z => z, fun _ z => z.elim, trivial, RepL.nones⟩
theorem argL_zip : ∀ {ds : List D} {vs : List V}, ds.length = vs.length → (ds.map some).zip (vs.map some) = argL ds vs
  | [], [], _ => rfl
  | [], _ :: _, h => by simp at h
  | _ :: _, [], h => by simp at h
  | d :: ds, v :: vs, h => by
    simp only [List.map_cons, List.zip_cons_cons, argL]
    rw [argL_zip (by simpa using h)]
    rfl
/-- the entry -/
theorem entry {N : List Str} {vs : List V} {ds : List D} {ns np : Nat} (hns : ns = N.length) (hv : vs.length = np) (hd : ds.length = np) (rep : RepL G H (fun a => O a ∨ C.hid a) (argL ds vs) O) (hC : C.H0 = H) (hnw : C.nw = fun a => H a ≠ none ∧ ¬ O a) (hln : C.ln = lnV 0 ds vs) (mu : ∀ a, O a → Mut (H a)) :
    FRo G C (L2.start N vs) [] (ds.map some ++ List.replicate (ns - np) none) H O := by
  refine ⟨?_, ?_, fun a z q => ?_, mu, fun v i p m => by simp at m, fun a x e z => by rw [hC] at e; exact e, fun p m => ?_⟩
  · unfold L2.start
    simp only [List.length_append, List.length_map, List.length_replicate]
    rw [hns, hv, hd]
  · unfold ents L2.start
    rw [List.map_nil, List.append_nil, List.zip_append (by simp [hv, hd]), argL_zip (by rw [hv, hd])]
    exact RepL.append (O' := no) rep RepL.nones (fun _ z => z) (fun _ z => z.elim) fun _ _ z => z
  · rw [hnw] at q; exact q.2 z
  · rw [hln] at m
    obtain ⟨_, h2⟩ := lnV_get m
    rw [Nat.sub_zero] at h2
    unfold L2.start
    have lt := (List.getElem?_eq_some_iff.mp h2).1
    rw [List.getElem?_append_left (by simpa using lt), List.getElem?_map, h2]
    rfl
/-- the arguments behind it -/
theorem outs_rep {S : Ad} {A' : Ad} (kk : Kept S H H') (hS : ∀ a, S a → Mut (H a)) (hA : ∀ a, A' a → A a ∨ H a = none) (hSA : ∀ a, S a → A a) : ∀ {ds : List D} {vs : List V} {env : Env} {σ : St} {l : List D} {P O : Ad}, ds.length = vs.length → LT.outs ds env = some l → σ.length = env.length → RepL G H' A' (env.zip σ) P → RepL G H A (argL ds vs) O →
      (∀ (i : Nat) d v, ds[i]? = some d → vs[i]? = some v → d.own = true → σ[i]? = some (some v)) → RepL G H' A' (argL l vs) P ∧ l.length = vs.length
  | [], [], env, σ, l, P, O, _, ho, _, r, _, _ => by
    simp only [LT.outs, Option.some.injEq] at ho
    subst ho
    exact ⟨trivial, rfl⟩
  | [], _ :: _, _, _, _, _, _, h, _, _, _, _, _ => by simp at h
  | _ :: _, [], _, _, _, _, _, h, _, _, _, _, _ => by simp at h
  | d :: ds, v :: vs, [], σ, l, P, O, _, ho, _, r, _, _ => by simp [LT.outs] at ho
  | d :: ds, v :: vs, o :: env, [], l, P, O, _, ho, hl, r, _, _ => by simp at hl
  | d :: ds, v :: vs, o :: env, sv :: σ, l, P, O, hl, ho, hle, ⟨P1, P2, h1, h2, h3, h4, h5⟩, ⟨O1, O2, g1, g2, g3, g4, g5⟩, k => by
    simp only [LT.outs] at ho
    have k' : ∀ (i : Nat) d v, ds[i]? = some d → vs[i]? = some v → d.own = true → σ[i]? = some (some v) := fun i d' v' e1 e2 e3 => by
      have := k (i + 1) d' v' (by simpa using e1) (by simpa using e2) e3
      simpa using this
    by_cases hd : d.own = true
    · rw [if_pos hd] at ho
      cases o with
      | none => cases ho
      | some x =>
        obtain ⟨l', e1, rfl⟩ := Option.map_eq_some_iff.mp ho
        obtain ⟨r2, l2⟩ := outs_rep kk hS hA hSA (by simpa using hl) e1 (by simpa using hle) h5 g5 k'
        have e := k 0 d v rfl rfl hd
        simp at e
        subst e
        exact ⟨⟨P1, P2, h1, h2, h3, h4, r2⟩, by simp [l2]⟩
    · rw [if_neg hd] at ho
      obtain ⟨l', e1, rfl⟩ := Option.map_eq_some_iff.mp ho
      obtain ⟨r2, l2⟩ := outs_rep kk hS hA hSA (by simpa using hl) e1 (by simpa using hle) h5 g5 k'
      refine ⟨⟨no, P2, fun _ z => z.elim, h2, fun _ z => z.elim, ?_, r2⟩, by simp [l2]⟩
      have r0 : Rep G H A d v O1 := g4
      exact Rep.kept kk hS hA hSA d v no (fun _ z => z.elim) (r0.noown (by simpa using hd))
/-- what is behind a body is what is promised -/
theorem leave {vs : List V} {ds : List D} {hid : Ad} {Q : VK} {E : XK} {f : F} (hl : ds.length = vs.length) (rep : RepL G H (fun a => O a ∨ hid a) (argL ds vs) O) (mu : ∀ a, O a → Mut (H a)) (hC : C.H0 = H) (hnw : C.nw = fun a => H a ≠ none ∧ ¬ O a) (hh : C.hid = hid) (hln : C.ln = lnV 0 ds vs)
    (k : spR G H Q E O hid vs (F.fin ds f)) : DoneF G C (fun cls d _ H => E cls d H) [] { nx := fun _ H' => Q .non H', rt := Q } f := by
  have key : ∀ {tm : Tm} {env : Env} {σ : St} {H' : Hp} {l : List D}, LT.outs ds env = some l → FR G C σ tm env H' → ∃ O', Kept O H H' ∧ (∀ a, O' a → O a ∨ H a = none) ∧ (∀ a, O' a → Mut (H' a)) ∧ l.length = vs.length ∧ RepL G H' (fun a => O' a ∨ hid a) (tm.map te ++ argL l vs) O' := by
    rintro tm env σ H' l ho ⟨O', F⟩
    have kk : Kept O H H' := fun a x e z => F.kept a x (by rw [hC]; exact e) (by rw [hnw]; exact ⟨ne_none e, z⟩)
    have n1 : ∀ a, O' a → O a ∨ H a = none := fun a z => by
      have := F.nw a z
      rw [hnw] at this
      by_cases q : O a
      · exact .inl q
      · refine .inr ?_
        cases e : H a with
        | none => rfl
        | some x => exact absurd ⟨ne_none e, q⟩ this
    obtain ⟨P, Q', g1, g2, g3, g4, g5⟩ := RepL.split F.rep
    rw [hh] at g1 g2
    obtain ⟨r2, l2⟩ := outs_rep (A := fun a => O a ∨ hid a) (A' := fun a => O' a ∨ hid a) kk mu (fun a z => z.elim (fun z => (n1 a z).elim (fun z => .inl (.inl z)) .inr) fun z => .inl (.inr z)) (fun a z => .inl z) hl ho F.len g1 rep fun i d v e1 e2 e3 => by
      have := lnV_has (n := 0) e1 e2 e3
      rw [Nat.zero_add, ← hln] at this
      exact F.lent _ this
    exact ⟨O', kk, n1, F.mu, l2, RepL.append g2 r2 g4 g3 fun a z q => g5 a q z⟩
  cases f with
  | nx env =>
    simp only [F.fin] at k
    cases ho : LT.outs ds env with
    | none => rw [ho] at k; exact k.elim
    | some l =>
      rw [ho] at k
      intro σ H' F
      obtain ⟨O', kk, n1, n2, lo, r⟩ := key (tm := []) ho F
      exact k .non H' O' kk n1 n2 lo ⟨no, O', fun _ z => z.elim, fun _ z => z, fun _ z => z.elim, rfl, r⟩
  | ret d env =>
    simp only [F.fin] at k
    cases ho : LT.outs ds env with
    | none => rw [ho] at k; exact k.elim
    | some l =>
      rw [ho] at k
      intro v σ H' F
      obtain ⟨O', kk, n1, n2, lo, r⟩ := key (tm := [(v, .val d)]) ho F
      exact k v H' O' kk n1 n2 lo r
  | exc x env =>
    simp only [F.fin] at k
    cases ho : LT.outs ds env with
    | none => rw [ho] at k; exact k.elim
    | some l =>
      rw [ho] at k
      intro cls dx σ H' xr F
      obtain ⟨O', kk, n1, n2, lo, r⟩ := key (tm := []) ho F
      exact k cls dx H' O' xr kk n1 n2 lo r
  | brk env => exact (show False from k).elim
  | cnt env => exact (show False from k).elim
  | err => exact (show False from k).elim
variable {P : Program} {w : World} {mg : Str → Option Value} {base : Heap} {x qual : Str} {params : Arguments} {body : List Stmt} {scope : Scope} {f : Addr} {fd : FuncData} {N ps : List Str} {k j : Nat} {fns : Nat → Option Fn} {fn : Fn} {n : Nat}
theorem fn_ok {CX : CXT} (F : FunD G.K x qual params body scope [] [] f fd) (S : FnScope N ps scope) (hf : fns j = some fn) (hnp : fn.np = ps.length) (hns : fn.ns = N.length)
    (hbody : ∀ (cdv : Value) (A : Around) (outer : List PySem.Env) (s : Shared) (H : Hp) (E : XK), Room k (A.deeper (envOfC qual scope s.heap.objs.size f cdv)) → ∀ (C : Fc) (ln : List Nat),
      PSs (cxOf CX P w G.K mg base N qual scope f cdv A outer s H E) body (tS G C (fun cls d _ H => E cls d H) ln (fun e => evSs (call n fns k) n fn.body ln e))) :
    FnOk P w G.K mg base CX (k + 1) f fd ps (spF G (call n fns (k + 1)) j ps.length) := by
  refine F.ok S (fun vs H Q E h => ?_) fun cdv A outer s H vs Q E hr h => ?_
  · obtain ⟨ds, O, hid, h1, _⟩ := h
    exact h1
  · obtain ⟨ds, O, hid, hv, hd, hN, hO, rep, mu, kk⟩ := h
    let C : Fc := ⟨H, fun a => H a ≠ none ∧ ¬ O a, hid, lnV 0 ds vs, fun a z => ⟨hN a z, hO a z⟩, fun a z => z.1⟩
    refine ⟨_, hbody cdv A outer s H E hr C (lentIx 0 ds), [], ds.map some ++ List.replicate (fn.ns - fn.np) none, ⟨O, ?_⟩, fun v i p m => by simp at m, fun p m => lnV_ix m, ?_⟩
    · rw [hnp]
      exact entry (C := C) hns hv hd rep rfl rfl rfl mu
    · simp only [call, hf, runF] at kk
      rw [if_pos (by rw [hd, hnp])] at kk
      exact leave (C := C) (by rw [hv, hd]) rep mu rfl rfl rfl rfl kk
end
end LT
/-! LtU: builtins. -/
namespace LT
open PySem L2
section
open PySem.Spec PyProof.Rows
section
variable {X : Cx}
theorem signs_vals {x : PySem.Str} {acc : Array Value} (h : ItemsOf (SignAt x) acc x.cps.size) : Vals (x.cps.toList.map fun c => V.str ⟨#[c]⟩) acc.toList := by
  obtain ⟨h1, h2⟩ := h
  have key : ∀ (l : List Nat) (vs : List Value), vs.length = l.length → (∀ (i : Nat) (v : Value), vs[i]? = some v → ∃ (c : Nat) (u : Tok), l[i]? = some c ∧ v = Value.str ⟨#[c]⟩ u) → Vals (l.map fun c => V.str ⟨#[c]⟩) vs := by
    intro l
    induction l with
    | nil => intro vs hl _; cases vs with
      | nil => exact .nil
      | cons v vs => simp at hl
    | cons c l ih => intro vs hl hv; cases vs with
      | nil => simp at hl
      | cons v vs =>
        obtain ⟨c', u, e1, e2⟩ := hv 0 v rfl
        simp at e1; subst e1
        exact .cons ⟨u, e2⟩ (ih vs (by simpa using hl) fun i v e => by
          obtain ⟨c', u, e1, e2⟩ := hv (i + 1) v (by simpa using e)
          exact ⟨c', u, by simpa using e1, e2⟩)
  refine key _ _ (by simp [h1]) fun i v e => ?_
  obtain ⟨c, u, e1, e2⟩ := h2 i v (by rw [← Array.getElem?_toList]; exact e)
  exact ⟨c, u, by rw [Array.getElem?_toList]; exact e1, e2⟩
theorem call_list_text (hc : X.calm = true) : CallR X (.type "list") (fun xs H Q => ∃ x : PySem.Str, xs = [.str x] ∧ x.cps.size ≤ sizeLine ∧ ∀ l, H l = none → Q (.ref l) (upd H l (.lst (x.cps.toList.map fun c => .str ⟨#[c]⟩)))) := by
  intro pins s σ H xs us Q I r h
  obtain ⟨x, rfl, hz, q⟩ := h
  obtain ⟨u, rfl, t, rfl⟩ := vals1 r
  refine call_list_str (I.ok.hd hc) x t (fun h' tk acc c kp e hi => ?_) hz
  have r' := signs_vals hi
  refine ⟨.ref s.heap.objs.size, _, I.laid (t' := tk) (o := .lst (x.cps.toList.map fun c => .str ⟨#[c]⟩)) kp (Nat.le_refl _) ⟨by rw [List.length_map]; simpa using hz, acc.toList, c, r', by rw [Array.toArray_toList]; exact e⟩, rfl, q _ (I.hok.fresh (Nat.le_refl _))⟩
end
end
section
variable {G : GK} {C : Fc} {W : WX} {X : Cx} {H : Hp} {sa : Bool} {pos : Pos}
theorem Vws.one {B : Ad} {d : D} {xs : List V} (h : Vws G H B [d] xs) : ∃ x, xs = [x] ∧ Vw G H B d x := by
  obtain ⟨v, vs', e, h1, rfl⟩ := h
  exact ⟨v, e, h1⟩
theorem Vws.two {B : Ad} {d d' : D} {xs : List V} (h : Vws G H B [d, d'] xs) : ∃ x y, xs = [x, y] ∧ Vw G H B d x ∧ Vw G H B d' y := by
  obtain ⟨v, vs', e, h1, w, ws, e2, h2, rfl⟩ := h
  exact ⟨v, w, by rw [e, e2], h1, h2⟩
theorem CallR.mono {f : Value} {r r' : List V → Hp → VK → Prop} (h : CallR X f r) (m : ∀ xs H Q, r' xs H Q → r xs H Q) : CallR X f r' := fun pins s σ H xs us Q I rv q => h pins s σ H xs us Q I rv (m xs H Q q)
/-- a builtin's reading is served -/
structure BiOk (G : GK) (X : Cx) (x : Str) (p : Bi) : Prop where
  ok : (∃ id, bootBuiltins x = some (.builtin id) ∧ CallR X (.builtin id) (rB G (bi p))) ∨ ∃ T, bootBuiltins x = some (.type T) ∧ CallR X (.type T) (rB G (bi p))
  nm : x ≠ ("__name__" : Str)
  db : (x == ("__debug__" : Str)) = false
theorem bi_abs {x : Str} (hx : x = ("abs" : Str)) : BiOk G X x .abs := by
  subst hx
  refine ⟨.inl ⟨_, PyProof.Rows.boot_abs, CallR.mono call_abs fun xs H Q ⟨B, ds, z, hb, hv, e, k⟩ => ?_⟩, by decide, by decide⟩
  dsimp only [bi] at e
  split at e
  · cases Option.some.inj e
    obtain ⟨x, rfl, h1⟩ := hv.one
    exact ⟨_, by rw [h1.int], k _ _ (Fresh.int _)⟩
  · cases e
theorem bi_min2 {x : Str} (hc : X.calm = true) (hx : x = ("min" : Str)) : BiOk G X x .min2 := by
  subst hx
  refine ⟨.inl ⟨_, PyProof.Rows.boot_min, CallR.mono (call_min2 hc) fun xs H Q ⟨B, ds, z, hb, hv, e, k⟩ => ?_⟩, by decide, by decide⟩
  dsimp only [bi] at e
  split at e
  · cases Option.some.inj e
    obtain ⟨x, y, rfl, h1, h2⟩ := hv.two
    exact ⟨_, _, by rw [h1.int, h2.int], k _ _ (Fresh.int _)⟩
  · cases e
theorem bi_max2 {x : Str} (hc : X.calm = true) (hx : x = ("max" : Str)) : BiOk G X x .max2 := by
  subst hx
  refine ⟨.inl ⟨_, PyProof.Rows.boot_max, CallR.mono (call_max2 hc) fun xs H Q ⟨B, ds, z, hb, hv, e, k⟩ => ?_⟩, by decide, by decide⟩
  dsimp only [bi] at e
  split at e
  · cases Option.some.inj e
    obtain ⟨x, y, rfl, h1, h2⟩ := hv.two
    exact ⟨_, _, by rw [h1.int, h2.int], k _ _ (Fresh.int _)⟩
  · cases e
theorem bi_int {x : Str} (hx : x = ("int" : Str)) : BiOk G X x .int := by
  subst hx
  refine ⟨.inr ⟨_, PyProof.Rows.boot_int, CallR.mono call_int1 fun xs H Q ⟨B, ds, z, hb, hv, e, k⟩ => ?_⟩, by decide, by decide⟩
  dsimp only [bi] at e
  split at e
  · cases Option.some.inj e
    obtain ⟨x, rfl, h1⟩ := hv.one
    exact .inl ⟨_, by rw [h1.int], k _ _ (Fresh.int _)⟩
  · cases Option.some.inj e
    obtain ⟨x, rfl, h1⟩ := hv.one
    exact .inr ⟨_, by rw [h1.bl], k _ _ (Fresh.int _)⟩
  · cases e
theorem bi_list {x : Str} (hK : X.K = G.K) (hc : X.calm = true) (hx : x = ("list" : Str)) : BiOk G X x .list := by
  subst hx
  refine ⟨.inr ⟨_, PyProof.Rows.boot_list, CallR.mono (call_list_of.or (call_list_text hc)) fun xs H Q ⟨B, ds, z, hb, hv, e, k⟩ => ?_⟩, by decide, by decide⟩
  dsimp only [bi] at e
  rw [hK]
  split at e
  · cases Option.some.inj e
    obtain ⟨x, rfl, h1⟩ := hv.one
    obtain ⟨a, vs, rfl, g1, g2⟩ := h1.lst
    exact .inl ⟨a, vs, rfl, .inl (.inl (.inl g1)), fun l hl => k _ _ (Fresh.lst g2 hl)⟩
  · cases Option.some.inj e
    obtain ⟨x, rfl, h1⟩ := hv.one
    obtain ⟨a, vs, rfl, g1, g2⟩ := h1.tup
    exact .inl ⟨a, vs, rfl, .inr g1, fun l hl => k _ _ (Fresh.lst g2 hl)⟩
  · cases Option.some.inj e
    obtain ⟨x, rfl, h1⟩ := hv.one
    obtain ⟨a, rfl, g1⟩ : ∃ a, x = .ref a ∧ ScrAt G.K H a _ := by simpa [Vw, Rep] using h1
    exact .inl ⟨a, _, rfl, .inl g1.sq, fun l hl => k _ _ (Fresh.lst Reps.scr hl)⟩
  · rename_i s
    split at e
    · rename_i hs
      cases Option.some.inj e
      obtain ⟨x, rfl, h1⟩ := hv.one
      refine .inr ⟨sOf s, by rw [h1.str], ?_, fun l hl => k _ _ (Fresh.lst (reps_str s) hl)⟩
      rw [← sizeL_eq]
      simpa [sOf] using hs
    · cases e
  · cases e
theorem bi_tuple {x : Str} (hK : X.K = G.K) (hx : x = ("tuple" : Str)) : BiOk G X x .tuple := by
  subst hx
  refine ⟨.inr ⟨_, PyProof.Rows.boot_tuple, CallR.mono call_tuple_of fun xs H Q ⟨B, ds, z, hb, hv, e, k⟩ => ?_⟩, by decide, by decide⟩
  dsimp only [bi] at e
  rw [hK]
  split at e
  · cases Option.some.inj e
    obtain ⟨x, rfl, h1⟩ := hv.one
    obtain ⟨a, vs, rfl, g1, g2⟩ := h1.lst
    exact ⟨a, vs, rfl, .inl ⟨.inl (.inl g1), fun l hl => k _ _ (Fresh.tup g2 hl)⟩⟩
  · cases Option.some.inj e
    obtain ⟨x, rfl, h1⟩ := hv.one
    have h1' := h1
    obtain ⟨a, vs, rfl, g1, g2⟩ := h1.tup
    exact ⟨a, vs, rfl, .inr ⟨g1, k _ _ (Fresh.old rfl (by simpa [Vw] using h1'))⟩⟩
  · cases e
theorem allInt_reps {B : Ad} : ∀ {xs : List D} {ns : List Int} {vs : List V} {O : Ad}, allInt xs = some ns → Reps G H B xs vs O → vs = ns.map V.int
  | [], ns, vs, O, h, r => by
    cases h
    simp only [Reps] at r
    exact r
  | d :: xs, ns, vs, O, h, r => by
    simp only [Reps] at r
    obtain ⟨v, vs', O1, O2, e, _, _, _, h4, h5⟩ := r
    cases d with
    | int i =>
      simp only [allInt] at h
      obtain ⟨l, e1, rfl⟩ := Option.map_eq_some_iff.mp h
      rw [e, allInt_reps e1 h5, List.map_cons]
      have : v = .int i := h4
      rw [this]
    | _ => simp [allInt] at h
theorem allBl_reps {B : Ad} : ∀ {xs : List D} {ns : List Bool} {vs : List V} {O : Ad}, allBl xs = some ns → Reps G H B xs vs O → vs = ns.map V.bl
  | [], ns, vs, O, h, r => by
    cases h
    simp only [Reps] at r
    exact r
  | d :: xs, ns, vs, O, h, r => by
    simp only [Reps] at r
    obtain ⟨v, vs', O1, O2, e, _, _, _, h4, h5⟩ := r
    cases d with
    | bl i =>
      simp only [allBl] at h
      obtain ⟨l, e1, rfl⟩ := Option.map_eq_some_iff.mp h
      rw [e, allBl_reps e1 h5, List.map_cons]
      have : v = .bl i := h4
      rw [this]
    | _ => simp [allBl] at h
theorem bi_sum {x : Str} (hK : X.K = G.K) (hc : X.calm = true) (hx : x = ("sum" : Str)) : BiOk G X x .sum := by
  subst hx
  refine ⟨.inl ⟨_, PyProof.Rows.boot_sum, CallR.mono (cr_sum hc) fun xs H Q ⟨B, ds, z, hb, hv, e, k⟩ => ?_⟩, by decide, by decide⟩
  dsimp only [bi] at e
  rw [hK]
  split at e
  · obtain ⟨l, e1, rfl⟩ := Option.map_eq_some_iff.mp e
    obtain ⟨x, rfl, h1⟩ := hv.one
    obtain ⟨a, vs, rfl, g1, g2⟩ := h1.lst
    rw [allInt_reps e1 g2] at g1
    exact ⟨a, l, rfl, .inl (.inl g1), k _ _ (Fresh.int _)⟩
  · cases e
/-- isinstance -/
def tyName (n : Nat) : String := match n with | 0 => "NoneType" | 1 => "bool" | 2 => "int" | 3 => "str" | 4 => "tuple" | 5 => "list" | _ => "dict"
theorem kit_ty {K : PySem.W.Frag} {H : Hp} {B : Ad} {d : D} {v : V} {t : Nat} (h : Vw G H B d v) (e : tyD d = some t) : ∃ u, TyX G.K H v u ∧ u = .type (tyName t) := by
  cases d with
  | non => cases e; obtain rfl := h.non; exact ⟨_, .base .non, rfl⟩
  | bl b => cases e; obtain rfl := h.bl; exact ⟨_, .base (.bl _), rfl⟩
  | int b => cases e; obtain rfl := h.int; exact ⟨_, .base (.int _), rfl⟩
  | str b => cases e; obtain rfl := h.str; exact ⟨_, .base (.str _), rfl⟩
  | tup b =>
    cases e
    obtain ⟨a, vs, rfl, g1, g2⟩ := h.tup
    rcases g1 with (g1 | ⟨o, g1⟩) | g1
    · exact ⟨_, .base (.tup g1), rfl⟩
    · exact ⟨_, .fTuple g1, rfl⟩
    · obtain ⟨o, its, n, g1, g2, _⟩ := g1
      exact ⟨_, .kTuple g1 g2, rfl⟩
  | lst o b =>
    cases e
    obtain ⟨a, vs, rfl, g1, g2⟩ := h.lst
    exact ⟨_, .base (.lst g1), rfl⟩
  | scr ns =>
    cases e
    obtain ⟨a, rfl, g1⟩ : ∃ a, v = .ref a ∧ ScrAt G.K H a _ := by simpa [Vw, Rep] using h
    rcases g1 with ⟨o, g1⟩ | ⟨o, its, n, g1, g2, _⟩
    · exact ⟨_, .base (.frz g1), rfl⟩
    · exact ⟨_, .kList g1 g2, rfl⟩
  | dic o ks vs =>
    obtain ⟨a, kv, ws, rfl, g, g2, _⟩ := h
    rcases g with ⟨kvs, g1, rfl, _⟩ | ⟨xs, n0, g1, _, _, e2, hn⟩
    · simp only [tyD, dK_head g2, Bool.false_eq_true, if_false] at e
      cases e
      exact ⟨_, .base (.dK g1), rfl⟩
    · cases ks with
      | nil => exact absurd (by simpa using e2) n0
      | cons k ks =>
        have := hn k List.mem_cons_self
        rw [Bool.and_eq_true] at this
        simp only [tyD, headT, this.1, if_true] at e
        cases e
  | ins o c fs vs => cases e
  | exn c fs => cases e
theorem tyD_le {d : D} {t : Nat} (e : tyD d = some t) : t ≤ 6 := by
  cases d with
  | dic o ks vs =>
    simp only [tyD] at e
    split at e
    · cases e
    · cases e; decide
  | _ => cases e <;> decide
theorem kit_one {K : PySem.W.Frag} {t n : Nat} (ht : t ≤ 6) (hn : n ≤ 6) : PySem.W.kitOne K (.type (tyName t)) (.type (tyName n)) = some (t == n || (n == 2 && t == 1)) := by
  match t, n, ht, hn with
  | 0, 0, _, _ => rfl
  | 0, 1, _, _ => rfl
  | 0, 2, _, _ => rfl
  | 0, 3, _, _ => rfl
  | 0, 4, _, _ => rfl
  | 0, 5, _, _ => rfl
  | 0, 6, _, _ => rfl
  | 1, 0, _, _ => rfl
  | 1, 1, _, _ => rfl
  | 1, 2, _, _ => rfl
  | 1, 3, _, _ => rfl
  | 1, 4, _, _ => rfl
  | 1, 5, _, _ => rfl
  | 1, 6, _, _ => rfl
  | 2, 0, _, _ => rfl
  | 2, 1, _, _ => rfl
  | 2, 2, _, _ => rfl
  | 2, 3, _, _ => rfl
  | 2, 4, _, _ => rfl
  | 2, 5, _, _ => rfl
  | 2, 6, _, _ => rfl
  | 3, 0, _, _ => rfl
  | 3, 1, _, _ => rfl
  | 3, 2, _, _ => rfl
  | 3, 3, _, _ => rfl
  | 3, 4, _, _ => rfl
  | 3, 5, _, _ => rfl
  | 3, 6, _, _ => rfl
  | 4, 0, _, _ => rfl
  | 4, 1, _, _ => rfl
  | 4, 2, _, _ => rfl
  | 4, 3, _, _ => rfl
  | 4, 4, _, _ => rfl
  | 4, 5, _, _ => rfl
  | 4, 6, _, _ => rfl
  | 5, 0, _, _ => rfl
  | 5, 1, _, _ => rfl
  | 5, 2, _, _ => rfl
  | 5, 3, _, _ => rfl
  | 5, 4, _, _ => rfl
  | 5, 5, _, _ => rfl
  | 5, 6, _, _ => rfl
  | 6, 0, _, _ => rfl
  | 6, 1, _, _ => rfl
  | 6, 2, _, _ => rfl
  | 6, 3, _, _ => rfl
  | 6, 4, _, _ => rfl
  | 6, 5, _, _ => rfl
  | 6, 6, _, _ => rfl
  | n + 7, _, h, _ => omega
  | _, n + 7, _, h => omega
def oneL (t : T) (e : Env) : R (List T) := .ok [t] e
theorem se_isi {x y : Str} {p p2 : Pos} {n : Nat} {a : Expr} {eva : Env → R T} (hK : X.K = G.K) (hx : x = ("isinstance" : Str)) (hg : Gl X x) (hm : X.mg x = none) (hgy : Gl X y) (hmy : X.mg y = none) (hy : bootBuiltins y = some (.type (tyName n))) (hyn : y ≠ ("__name__" : Str)) (hyd : (y == ("__debug__" : Str)) = false) (hn : n ≤ 6)
    (he : starEach [a, .Name y p2] X.env = (false, eval a X.env) :: starEach [.Name y p2] X.env) (ha : PE X a (tE G C W sa eva)) :
    PE X (.Call (.Name x p) [a, .Name y p2] [] pos) (tE G C W sa (fun e => ((eva e).bind oneL).bind fun ts e => (rsL ts e).bind fun ds e => (R.of (bi (.isT n) ds) e).bind fun z e => .ok (.val z) e)) := by
  subst hx
  refine PE.mono (pe_callB call_isi hg hm PyProof.Rows.boot_isinstance (pa_cons ha (pa_cons (pe_bltn (v := .ty (tyName n)) hgy hmy hy rfl hyn hyd) pa_nil rfl) he) (by decide) (by decide) he (by rfl)) fun σ H Q h => ?_
  have h' := tE_bi (sa := sa) (g := bi (.isT n)) (evas := fun e => (eva e).bind oneL) σ H Q h
  obtain ⟨tm, env, F, hr, h'⟩ := h'
  refine ⟨tm, env, F, hr, ?_⟩
  dsimp only at h'
  cases ea : eva env with
  | err => rw [ea] at h'; exact h'
  | exc x e => rw [ea] at h'; exact h'
  | ok t env1 =>
    rw [ea] at h'
    intro v H1 F1 s1
    have := h' [v] H1 rfl (by simpa using F1) s1
    obtain ⟨B, ds, z, hb, hv, e, k⟩ := this
    match ds, hv, e with
    | [d], hv, e =>
      dsimp only [bi] at e
      obtain ⟨t, e1, rfl⟩ := Option.map_eq_some_iff.mp e
      obtain ⟨v', q, h1⟩ := hv.one
      cases q
      obtain ⟨u, ty, rfl⟩ := kit_ty (K := G.K) h1 e1
      rw [hK]
      exact ⟨v, .ty (tyName n), _, _, _, rfl, .ty _, ty, kit_one (tyD_le e1) hn, k _ _ (Fresh.bl _)⟩
    | [], hv, e => dsimp only [bi] at e; cases e
    | _ :: _ :: _, hv, e => dsimp only [bi] at e; cases e
theorem se_bi {x : Str} {p : Bi} {pp : Pos} {e : Expr} {es : List Expr} {evas : Env → R (List T)} (h : BiOk G X x p) (hg : Gl X x) (hm : X.mg x = none) (ha : PA X (e :: es) (tEs G C W sa evas))
    (he : starEach (e :: es) X.env = (false, eval e X.env) :: starEach es X.env) (hpl : (backTo pos (starEach es X.env)).any (·.1) = false) :
    PE X (.Call (.Name x pp) (e :: es) [] pos) (tE G C W sa (fun e => (evas e).bind fun ts e => (rsL ts e).bind fun ds e => (R.of (bi p ds) e).bind fun z e => .ok (.val z) e)) := by
  rcases h.ok with ⟨id, hv, hc⟩ | ⟨T, hv, hc⟩
  · exact PE.mono (pe_callB hc hg hm hv ha h.nm h.db he hpl) tE_bi
  · exact PE.mono (pe_callTy hc hg hm hv ha h.nm h.db he hpl) tE_bi
end
end LT
/-! LtU2: more builtins: all, any, min and max of a list and of three. -/
namespace LT
open PySem L2
section
variable {G : GK} {C : Fc} {W : WX} {X : Cx} {H : Hp} {sa : Bool} {pos : Pos}
theorem bi_all {x : Str} (hK : X.K = G.K) (hc : X.calm = true) (hx : x = ("all" : Str)) : BiOk G X x .all := by
  subst hx
  refine ⟨.inl ⟨_, by decide +kernel, CallR.mono (cr_all hc) fun xs H Q ⟨B, ds, z, hb, hv, e, k⟩ => ?_⟩, by decide, by decide⟩
  dsimp only [bi] at e
  rw [hK]
  split at e
  · obtain ⟨l, e1, rfl⟩ := Option.map_eq_some_iff.mp e
    obtain ⟨x, rfl, h1⟩ := hv.one
    obtain ⟨a, vs, rfl, g1, g2⟩ := h1.lst
    rw [allBl_reps e1 g2] at g1
    exact ⟨a, l, rfl, .inl (.inl g1), k _ _ (Fresh.bl _)⟩
  · cases e
theorem bi_any {x : Str} (hK : X.K = G.K) (hc : X.calm = true) (hx : x = ("any" : Str)) : BiOk G X x .any := by
  subst hx
  refine ⟨.inl ⟨_, by decide +kernel, CallR.mono (cr_any hc) fun xs H Q ⟨B, ds, z, hb, hv, e, k⟩ => ?_⟩, by decide, by decide⟩
  dsimp only [bi] at e
  rw [hK]
  split at e
  · obtain ⟨l, e1, rfl⟩ := Option.map_eq_some_iff.mp e
    obtain ⟨x, rfl, h1⟩ := hv.one
    obtain ⟨a, vs, rfl, g1, g2⟩ := h1.lst
    rw [allBl_reps e1 g2] at g1
    exact ⟨a, l, rfl, .inl (.inl g1), k _ _ (Fresh.bl _)⟩
  · cases e
theorem minL_le : ∀ (l : List Int) (m : Int), minL m l ≤ m ∧ (∀ y ∈ l, minL m l ≤ y) ∧ (minL m l = m ∨ minL m l ∈ l)
  | [], m => ⟨Int.le_refl _, fun y h => (by cases h), .inl rfl⟩
  | x :: l, m => by
    obtain ⟨h1, h2, h3⟩ := minL_le l (if x < m then x else m)
    simp only [minL]
    refine ⟨Int.le_trans h1 (by split <;> omega), fun y h => ?_, ?_⟩
    · rcases List.mem_cons.mp h with rfl | h
      · exact Int.le_trans h1 (by split <;> omega)
      · exact h2 y h
    · rcases h3 with h3 | h3
      · rw [h3]
        split
        · exact .inr List.mem_cons_self
        · exact .inl rfl
      · exact .inr (List.mem_cons_of_mem _ h3)
theorem maxL_ge : ∀ (l : List Int) (m : Int), m ≤ maxL m l ∧ (∀ y ∈ l, y ≤ maxL m l) ∧ (maxL m l = m ∨ maxL m l ∈ l)
  | [], m => ⟨Int.le_refl _, fun y h => (by cases h), .inl rfl⟩
  | x :: l, m => by
    obtain ⟨h1, h2, h3⟩ := maxL_ge l (if m < x then x else m)
    simp only [maxL]
    refine ⟨Int.le_trans (by split <;> omega) h1, fun y h => ?_, ?_⟩
    · rcases List.mem_cons.mp h with rfl | h
      · exact Int.le_trans (by split <;> omega) h1
      · exact h2 y h
    · rcases h3 with h3 | h3
      · rw [h3]
        split
        · exact .inr List.mem_cons_self
        · exact .inl rfl
      · exact .inr (List.mem_cons_of_mem _ h3)
theorem minL_mem (i : Int) (l : List Int) : minL i l ∈ i :: l := by
  rcases (minL_le l i).2.2 with h | h
  · rw [h]; exact List.mem_cons_self
  · exact List.mem_cons_of_mem _ h
theorem maxL_mem (i : Int) (l : List Int) : maxL i l ∈ i :: l := by
  rcases (maxL_ge l i).2.2 with h | h
  · rw [h]; exact List.mem_cons_self
  · exact List.mem_cons_of_mem _ h
theorem minL_uniq {i m : Int} {l : List Int} (h : m ∈ i :: l) (hle : ∀ y ∈ i :: l, m ≤ y) : m = minL i l := by
  have h1 := hle _ (minL_mem i l)
  obtain ⟨g1, g2, _⟩ := minL_le l i
  rcases List.mem_cons.mp h with rfl | h
  · exact Int.le_antisymm h1 g1
  · exact Int.le_antisymm h1 (g2 _ h)
theorem minL_fold : ∀ (l : List Int) (i : Int), l.foldl min i = minL i l
  | [], i => rfl
  | x :: l, i => by
    rw [List.foldl_cons, minL_fold l]
    simp only [minL]
    congr 1
    split <;> omega
theorem maxL_fold : ∀ (l : List Int) (i : Int), l.foldl max i = maxL i l
  | [], i => rfl
  | x :: l, i => by
    rw [List.foldl_cons, maxL_fold l]
    simp only [maxL]
    congr 1
    split <;> omega
theorem bi_min1 {x : Str} (hK : X.K = G.K) (hc : X.calm = true) (hx : x = ("min" : Str)) : BiOk G X x .min1 := by
  subst hx
  refine ⟨.inl ⟨_, PyProof.Rows.boot_min, CallR.mono (cr_min hc) fun xs H Q ⟨B, ds, z, hb, hv, e, k⟩ => ?_⟩, by decide, by decide⟩
  dsimp only [bi] at e
  rw [hK]
  split at e
  · rename_i o xs
    split at e
    · rename_i i r e1
      cases e
      obtain ⟨x, rfl, h1⟩ := hv.one
      obtain ⟨a, vs, rfl, g1, g2⟩ := h1.lst
      rw [allInt_reps e1 g2] at g1
      exact ⟨a, i :: r, rfl, .inl (.inl g1), by simp, fun m hm hle => by rw [minL_uniq hm hle]; exact k _ _ (Fresh.int _)⟩
    · cases e
  · cases e
theorem nuMax_int (i j : Int) : nuMax2 (.int i) (.int j) = some (.int (if i < j then j else i)) := by
  show Option.map _ (some (decide (i < j))) = _
  simp only [Option.map_some]
  by_cases h : i < j <;> simp [h]
theorem nuMin_int (i j : Int) : nuMin2 (.int i) (.int j) = some (.int (if j < i then j else i)) := by
  show Option.map _ (some (decide (j < i))) = _
  simp only [Option.map_some]
  by_cases h : j < i <;> simp [h]
theorem Vws.three {B : Ad} {d d' d'' : D} {xs : List V} (h : Vws G H B [d, d', d''] xs) : ∃ x y z, xs = [x, y, z] ∧ Vw G H B d x ∧ Vw G H B d' y ∧ Vw G H B d'' z := by
  obtain ⟨v, vs', e, h1, h⟩ := h
  obtain ⟨x, y, rfl, h2, h3⟩ := Vws.two h
  exact ⟨v, x, y, e, h1, h2, h3⟩
theorem bi_max3 {x : Str} (hc : X.calm = true) (hx : x = ("max" : Str)) : BiOk G X x .max3 := by
  subst hx
  refine ⟨.inl ⟨_, PyProof.Rows.boot_max, CallR.mono (call_max3Nu hc) fun xs H Q ⟨B, ds, z, hb, hv, e, k⟩ => ?_⟩, by decide, by decide⟩
  dsimp only [bi] at e
  split at e
  · cases Option.some.inj e
    obtain ⟨x, y, z, rfl, h1, h2, h3⟩ := hv.three
    rw [h1.int, h2.int, h3.int]
    refine ⟨_, _, _, _, rfl, ?_, k _ _ (Fresh.int _)⟩
    unfold nuMax3
    rw [nuMax_int, Option.bind_some, nuMax_int]
    rfl
  · cases e
theorem bi_min3 {x : Str} (hc : X.calm = true) (hx : x = ("min" : Str)) : BiOk G X x .min3 := by
  subst hx
  refine ⟨.inl ⟨_, PyProof.Rows.boot_min, CallR.mono (call_min3Nu hc) fun xs H Q ⟨B, ds, z, hb, hv, e, k⟩ => ?_⟩, by decide, by decide⟩
  dsimp only [bi] at e
  split at e
  · cases Option.some.inj e
    obtain ⟨x, y, z, rfl, h1, h2, h3⟩ := hv.three
    rw [h1.int, h2.int, h3.int]
    refine ⟨_, _, _, _, rfl, ?_, k _ _ (Fresh.int _)⟩
    unfold nuMin3
    rw [nuMin_int, Option.bind_some, nuMin_int]
    rfl
  · cases e
/-! min and max of a list with a default -/
theorem readsAll_ints {h : Heap} : ∀ {vs : List Value} {ns : List Int}, PyProof.Rows.IntsAre vs ns → ReadsAll h vs (ns.map .int) []
  | _, _, .nil => .nil
  | _, _, .cons n t r => by
    have := readsAll_ints (h := h) r
    exact .cons (as := []) (bs := []) (.int n t) this
theorem alike_ints (ns : List Int) : PySem.W.AlikeAll (ns.map PyData.int) := by
  refine ⟨fun x hx y hy => ?_, fun x hx => ?_⟩
  · obtain ⟨i, _, rfl⟩ := List.mem_map.mp hx
    obtain ⟨j, _, rfl⟩ := List.mem_map.mp hy
    rfl
  · obtain ⟨i, _, rfl⟩ := List.mem_map.mp hx
    exact fun h => by cases h
theorem depth_ints : ∀ (ns : List Int), PyData.depthAll (ns.map PyData.int) ≤ 1
  | [] => by simp [PyData.depthAll]
  | n :: ns => by
    have := depth_ints ns
    simp [PyData.depthAll, PyData.depth]
    omega
def rBest (K : PySem.W.Frag) (f : Int → List Int → Int) : List V → List V → Hp → VK → Prop := fun xs zs H Q => ∃ (a : Addr) (ns : List Int) (z : V), xs = [.ref a] ∧ zs = [z] ∧ SqL K H a (ns.map V.int) ∧ (ns = [] → Q z H) ∧ ∀ i r, ns = i :: r → Q (.int (f i r)) H
theorem crk_minD (hc : X.calm = true) (hu : X.A.units + 64 < cLine) : CallRK X (.builtin "min") ["default"] (rBest X.K minL) := by
  intro pins s σ H xs zs us ws Q I r r2 h
  obtain ⟨a, ns, z, rfl, rfl, hs, q0, q1⟩ := h
  obtain ⟨its, rv, hl, _⟩ := I.list hs
  rw [Vals.ref1 r]
  cases r2 with
  | cons rz rr =>
    cases rr
    rename_i wz
    have hd := depth_ints ns
    refine PySem.W.min_list_default (d := wz) (I.ok.hd hc) hl.isList (readsAll_ints (by simpa using rv.ints)) (alike_ints ns) (by omega) (fun e h' tk hk => ?_) fun y ys i v h' tk bs e hv rd hk => ?_
    · exact ⟨z, H, I.kept (t' := tk) hk, rz, q0 (by simpa using e)⟩
    · cases ns with
      | nil => cases e
      | cons n ns =>
        simp only [List.map_cons, List.cons.injEq] at e
        obtain ⟨rfl, rfl⟩ := e
        rw [PySem.W.minD_ints, minL_fold] at rd
        cases rd
        exact ⟨.int _, H, I.kept (t' := tk) hk, ⟨_, rfl⟩, q1 n ns rfl⟩
theorem crk_maxD (hc : X.calm = true) (hu : X.A.units + 64 < cLine) : CallRK X (.builtin "max") ["default"] (rBest X.K maxL) := by
  intro pins s σ H xs zs us ws Q I r r2 h
  obtain ⟨a, ns, z, rfl, rfl, hs, q0, q1⟩ := h
  obtain ⟨its, rv, hl, _⟩ := I.list hs
  rw [Vals.ref1 r]
  cases r2 with
  | cons rz rr =>
    cases rr
    rename_i wz
    have hd := depth_ints ns
    refine PySem.W.max_list_default (d := wz) (I.ok.hd hc) hl.isList (readsAll_ints (by simpa using rv.ints)) (alike_ints ns) (by omega) (fun e h' tk hk => ?_) fun y ys i v h' tk bs e hv rd hk => ?_
    · exact ⟨z, H, I.kept (t' := tk) hk, rz, q0 (by simpa using e)⟩
    · cases ns with
      | nil => cases e
      | cons n ns =>
        simp only [List.map_cons, List.cons.injEq] at e
        obtain ⟨rfl, rfl⟩ := e
        rw [PySem.W.maxD_ints, maxL_fold] at rd
        cases rd
        exact ⟨.int _, H, I.kept (t' := tk) hk, ⟨_, rfl⟩, q1 n ns rfl⟩
theorem vw_uq {B : Ad} {d2 : D} {v : V} (h : Vw G H B d2 v) (hv : ∀ a, v ≠ .ref a) : (v = .non → d2 = .non) ∧ (∀ b, v = .bl b → d2 = .bl b) ∧ (∀ i, v = .int i → d2 = .int i) ∧ ∀ s, v = .str s → d2 = .str s.cps.toList := by
  cases d2 with
  | non => obtain rfl := h.non; exact ⟨fun _ => rfl, fun _ q => (by cases q), fun _ q => (by cases q), fun _ q => by cases q⟩
  | bl b => obtain rfl := h.bl; exact ⟨fun q => (by cases q), fun _ q => (by cases q; rfl), fun _ q => (by cases q), fun _ q => by cases q⟩
  | int b => obtain rfl := h.int; exact ⟨fun q => (by cases q), fun _ q => (by cases q), fun _ q => (by cases q; rfl), fun _ q => by cases q⟩
  | str b => obtain rfl := h.str; exact ⟨fun q => (by cases q), fun _ q => (by cases q), fun _ q => (by cases q), fun _ q => by cases q; simp [sOf]⟩
  | tup b => obtain ⟨a, _, rfl, _⟩ := h.tup; exact absurd rfl (hv a)
  | lst o b => obtain ⟨a, _, rfl, _⟩ := h.lst; exact absurd rfl (hv a)
  | scr b =>
    obtain ⟨a, rfl, g1⟩ : ∃ a, v = .ref a ∧ ScrAt G.K H a _ := by simpa [Vw, Rep] using h
    exact absurd rfl (hv a)
  | dic o ks vs =>
    obtain ⟨a, kvs, ws, rfl, _⟩ := h
    exact absurd rfl (hv a)
  | ins o c fs vs =>
    obtain ⟨a, dx, fvs, rfl, _⟩ := h
    exact absurd rfl (hv a)
  | exn c fs =>
    obtain ⟨a, oe, rfl, _⟩ : ∃ a oe, v = .ref a ∧ H a = some (.frz oe (exU a oe)) := by simp only [Vw, Rep] at h; obtain ⟨a, oe, e, h1, _⟩ := h; exact ⟨a, oe, e, h1⟩
    exact absurd rfl (hv a)
/-- min(list, default=constant), max(list, default=constant) -/
theorem se_best {x : Str} {p kp : Pos} {id : String} {pb : Bi} {f : Int → List Int → Int} {a c : Expr} {d : D} {v : V} {eva : Env → R T} (hK : X.K = G.K) (hcr : CallRK X (.builtin id) ["default"] (rBest X.K f))
    (hbi : ∀ ds z, bi pb ds = some z → ∃ o xs d2, ds = [.lst o xs, d2] ∧ ∃ l, allInt xs = some l ∧ ((l = [] ∧ z = d2) ∨ ∃ i r, l = i :: r ∧ z = .int (f i r)))
    (huq : ∀ H B d2, Vw G H B d2 v → d2 = d)
    (hg : Gl X x) (hm : X.mg x = none) (hv : bootBuiltins x = some (.builtin id)) (hn : x ≠ ("__name__" : Str)) (hdb : (x == ("__debug__" : Str)) = false)
    (hd : d.own = false) (hrd : ∀ H A, Rep G H A d v no) (hc : PE X c (fun _ H Q => Q v H))
    (he : starEach [a] X.env = [(false, eval a X.env)]) (ha : PE X a (tE G C W sa eva)) :
    PE X (.Call (.Name x p) [a] [⟨some ("default" : Str), c, kp⟩] pos) (tE G C W sa (fun e => ((eva e).bind fun t e => .ok [t, .val d] e).bind fun ts e => (rsL ts e).bind fun ds e => (R.of (bi pb ds) e).bind fun z e => .ok (.val z) e)) := by
  refine PE.mono (pe_callBK hcr hg hm hv (pa_cons ha pa_nil he) (pk_cons hc pk_nil) hn hdb (by rw [he]; rfl) (by rw [he]; rfl)) fun σ H Q h => ?_
  have h' := tE_bi (sa := sa) (g := bi pb) (evas := fun e => (eva e).bind fun t e => .ok [t, .val d] e) σ H Q h
  obtain ⟨tm, env, F, hr, h'⟩ := h'
  refine ⟨tm, env, F, hr, ?_⟩
  dsimp only at h'
  cases ea : eva env with
  | err => rw [ea] at h'; exact h'
  | exc x e => rw [ea] at h'; exact h'
  | ok t env1 =>
    rw [ea] at h'
    intro w H1 F1 s1
    have F1' : FR G C σ (tm ++ [w, v].zip [t, .val d]) env1 H1 := by
      obtain ⟨O, F1⟩ := F1
      have := F1.push0 (fun _ _ z => z) hd (O1 := no) (hrd H1 _)
      exact ⟨O, by simpa using this⟩
    obtain ⟨B, ds, z, hb, hv2, e, k⟩ := h' [w, v] H1 rfl F1' s1
    obtain ⟨o, xs, d2, rfl, l, e1, e2⟩ := hbi ds z e
    obtain ⟨x1, x2, q, h1, h2⟩ := hv2.two
    simp only [List.cons.injEq, and_true] at q
    obtain ⟨rfl, rfl⟩ := q
    obtain rfl := huq _ _ _ h2
    obtain ⟨a', vs, rfl, g1, g2⟩ := h1.lst
    rw [allInt_reps e1 g2] at g1
    refine ⟨a', l, v, rfl, rfl, by rw [hK]; exact .inl (.inl g1), fun hl => ?_, fun i r hl => ?_⟩
    · rcases e2 with ⟨_, rfl⟩ | ⟨i, r, e3, _⟩
      · exact k _ _ (Fresh.old hd (hrd H1 _))
      · rw [hl] at e3; cases e3
    · rcases e2 with ⟨e3, _⟩ | ⟨i', r', e3, rfl⟩
      · rw [hl] at e3; cases e3
      · rw [hl] at e3; cases e3
        exact k _ _ (Fresh.int _)
end
end LT
/-! LtU3: slices. -/
namespace LT
open PySem L2
section
variable {G : GK} {C : Fc} {W : WX} {X : Cx} {H : Hp} {sa sb : Bool} {pos : Pos}
theorem Reps.dr {B : Ad} : ∀ (n : Nat) {ds : List D} {vs : List V}, Reps G H B ds vs no → Reps G H B (ds.drop n) (vs.drop n) no
  | 0, ds, vs, h => by simpa using h
  | n + 1, [], vs, h => by
    simp only [Reps] at h
    subst h
    simp [Reps]
  | n + 1, d :: ds, vs, h => by
    simp only [Reps] at h
    obtain ⟨v, vs', O1, O2, rfl, _, h2, _, _, h5⟩ := h
    exact Reps.dr n (Reps.mono (fun a z => h2 a z) h5)
theorem Reps.tk {B : Ad} : ∀ (n : Nat) {ds : List D} {vs : List V}, Reps G H B ds vs no → Reps G H B (ds.take n) (vs.take n) no
  | 0, ds, vs, h => by simp [Reps]
  | n + 1, [], vs, h => by
    simp only [Reps] at h
    subst h
    simp [Reps]
  | n + 1, d :: ds, vs, h => by
    simp only [Reps] at h
    obtain ⟨v, vs', O1, O2, rfl, h1, h2, h3, h4, h5⟩ := h
    simp only [List.take_succ_cons, Reps]
    exact ⟨v, _, no, no, rfl, fun _ z => z, fun _ z => z, fun _ z => z.elim, Rep.mono d v _ _ (fun a z => h1 a z) h4, Reps.tk n (Reps.mono (fun a z => h2 a z) h5)⟩
theorem sIx_cut (n d : Nat) : ∀ o : Option Int, HT.sIx n d o = (o.map (cutIx n)).getD d
  | none => rfl
  | some i => rfl
def rSl3 (K : PySem.W.Frag) : V → Option Int → Option Int → Hp → VK → Prop := fun x lo hi H Q => rSlL K x lo hi H Q ∨ (rSlA K x lo hi H Q ∨ rSlS x lo hi H Q)
theorem sl3 : SlR X (rSl3 X.K) := SlR.or sl_list (SlR.or sl_tupA sl_str)
theorem sl3_of {B : Ad} {d z : D} {x : V} {lo hi : Option Int} {Q : VK} (h : Vw G H B d x) (e : cutD lo hi d = some z) (k : ∀ v H', Fresh G H H' B z v → Q v H') : rSl3 G.K x lo hi H Q := by
  cases d with
  | lst o s =>
    simp only [cutD, Option.some.injEq] at e
    subst e
    obtain ⟨a, vs, rfl, g1, g2⟩ := h.lst
    refine .inl ⟨a, vs, rfl, .inl (.inl g1), fun p hp => k _ _ ?_⟩
    unfold cutV
    rw [← g2.length, sIx_cut, sIx_cut]
    exact Fresh.lst (Reps.tk _ (Reps.dr _ g2)) hp
  | tup s =>
    simp only [cutD, Option.some.injEq] at e
    obtain ⟨a, vs, rfl, g1, g2⟩ := id h.tup
    refine .inr (.inl ⟨a, vs, rfl, g1, fun hw => ?_, fun hw p hp => k _ _ ?_⟩)
    · refine k _ _ (Fresh.old (by subst e; rfl) ?_)
      rw [← g2.length, sIx_cut, sIx_cut] at hw
      rw [hw.1, hw.2] at e
      simp only [List.drop_zero, Nat.sub_zero, List.take_length] at e
      subst e
      simpa [Vw] using h
    · unfold cutV
      rw [← g2.length, sIx_cut, sIx_cut]
      subst e
      exact Fresh.tup (Reps.tk _ (Reps.dr _ g2)) hp
  | str s =>
    simp only [cutD] at e
    split at e
    · rename_i hz
      cases e
      rw [h.str]
      have hl := sOf_len s
      refine .inr (.inr ⟨_, rfl, by rw [hl, ← sizeL_eq]; exact hz, ?_⟩)
      have := k _ _ (Fresh.str (G := G) (H := H) (B := B) ((s.drop ((lo.map (cutIx s.length)).getD 0)).take ((hi.map (cutIx s.length)).getD s.length - (lo.map (cutIx s.length)).getD 0)))
      unfold cutS
      rw [hl, sIx_cut, sIx_cut]
      exact this
    · cases e
  | _ => cases e
theorem tEs_nil {σ : St} {Q : List V → Hp → Prop} {sm : Bool} (h : tEs G C W sm (fun e => .ok [] e) σ H Q) : Q [] H := by
  obtain ⟨tm, env, F, hr, h⟩ := h
  exact h [] H rfl (by simpa using F) fun _ => Same.refl H
def consS (eva : Env → R T) (sb : Bool) (evs : Env → R (List T)) : Env → R (List T) := fun e => (eva e).bind fun t e => if t.root || sb then (evs e).bind fun ts e => .ok (t :: ts) e else .err
theorem tEs_cons {eva : Env → R T} {evs : Env → R (List T)} {σ : St} {Q : List V → Hp → Prop} (h : tEs G C W (sa && sb) (consS eva sb evs) σ H Q) : tE G C W sa eva σ H fun x H1 => tEs G C W sb evs σ H1 fun xs H2 => Q (x :: xs) H2 := by
  obtain ⟨tm, env, F, hr, h⟩ := h
  refine ⟨tm, env, F, fun e => hr (by rw [e]; rfl), ?_⟩
  unfold consS at h
  cases ea : eva env with
  | err => rw [ea] at h; exact h
  | exc x env1 => rw [ea] at h; exact h
  | ok t env1 =>
    rw [ea] at h
    simp only [R.bind_ok] at h
    intro x H1 F1 s1
    by_cases hc : (t.root || sb) = true
    · rw [if_pos hc] at h
      refine ⟨tm ++ [(x, t)], env1, F1, fun e => (hr (by rw [e]; simp)).val (by rw [e] at hc; simpa using hc), ?_⟩
      cases eb : evs env1 with
      | err => rw [eb] at h; exact h
      | exc x env2 =>
        rw [eb] at h
        intro cls dx H2 xr F2
        exact h cls dx H2 xr F2.pop
      | ok ts env2 =>
        rw [eb] at h
        simp only [R.bind_ok] at h
        intro vs H2 hl F2 s2
        refine h (x :: vs) H2 (by simpa using hl) (by rw [List.append_assoc] at F2; simpa using F2) fun e => (s1 (Bool.and_eq_true_iff.mp e).1).trans (s2 (Bool.and_eq_true_iff.mp e).2)
    · rw [if_neg hc] at h
      exact h.elim
theorem se_cut1 {pb : Bi} {a l : Expr} {p2 : Pos} {eva evl : Env → R T} {lo hi : Option Expr} {f : Int → Option Int × Option Int} (hK : X.K = G.K) (ha : PE X a (tE G C W sa eva)) (hl : PE X l (tE G C W sb evl))
    (hlo : (lo = some l ∧ hi = none ∧ f = fun i => (some i, none)) ∨ (lo = none ∧ hi = some l ∧ f = fun i => (none, some i)))
    (hbi : ∀ ds z, bi pb ds = some z → ∃ d i, ds = [d, .int i] ∧ cutD (f i).1 (f i).2 d = some z) :
    PE X (.Subscript a (.Slice lo hi none p2) pos) (tE G C W (sa && (sb && true)) (fun e => (consS eva (sb && true) (consS evl true fun e => .ok [] e) e).bind fun ts e => (rsL ts e).bind fun ds e => (R.of (bi pb ds) e).bind fun z e => .ok (.val z) e)) := by
  have key : ∀ (σ : St) (H : Hp) (Q : VK), tE G C W (sa && (sb && true)) (fun e => (consS eva (sb && true) (consS evl true fun e => .ok [] e) e).bind fun ts e => (rsL ts e).bind fun ds e => (R.of (bi pb ds) e).bind fun z e => .ok (.val z) e) σ H Q →
      tE G C W sa eva σ H fun x H1 => tE G C W sb evl σ H1 fun y H2 => ∃ i, y = .int i ∧ rSl3 X.K x (f i).1 (f i).2 H2 Q := fun σ H Q h => by
    have h1 := tE_bi (sa := sa && (sb && true)) (g := bi pb) (evas := consS eva (sb && true) (consS evl true fun e => .ok [] e)) σ H Q h
    have h2 := tEs_cons h1
    refine tE_imp h2 fun x H1 h3 => ?_
    refine tE_imp (tEs_cons h3) fun y H2 h4 => ?_
    obtain ⟨B, ds, z, hb, hv, e, k⟩ := tEs_nil h4
    obtain ⟨d, i, rfl, e2⟩ := hbi ds z e
    obtain ⟨x', y', q, g1, g2⟩ := hv.two
    simp only [List.cons.injEq, and_true] at q
    obtain ⟨rfl, rfl⟩ := q
    refine ⟨i, g2.int, ?_⟩
    rw [hK]
    exact sl3_of g1 e2 k
  rcases hlo with ⟨rfl, rfl, rfl⟩ | ⟨rfl, rfl, rfl⟩
  · exact PE.mono (pe_slice sl3 ha (po_some hl) po_none) key
  · exact PE.mono (pe_slice sl3 ha po_none (po_some hl)) key
where
  tE_imp {eva : Env → R T} {sa : Bool} {σ : St} {H : Hp} {Q Q' : VK} (h : tE G C W sa eva σ H Q) (m : ∀ x H1, Q x H1 → Q' x H1) : tE G C W sa eva σ H Q' := by
    obtain ⟨tm, env, F, hr, h⟩ := h
    refine ⟨tm, env, F, hr, ?_⟩
    cases ea : eva env with
    | err => rw [ea] at h; exact h
    | exc x env1 => rw [ea] at h; exact h
    | ok t env1 => rw [ea] at h; exact fun v H' F' s => m _ _ (h v H' F' s)
end
end LT
/-! LtU4: slices by both bounds; methods that look. -/
namespace LT
open PySem L2
section
variable {G : GK} {C : Fc} {W : WX} {X : Cx} {H : Hp} {sa sb sc : Bool} {pos : Pos}
def cutS3 (eva evl evu : Env → R T) : Env → R T := fun e => (eva e).bind fun t e => if t.root then (evl e).bind fun tl e => match int1 tl with
    | some i => (evu e).bind fun tu e => match int1 tu with
      | some j => (rs t e).bind fun d e => (R.of (cutD (some i) (some j) d) e).bind fun z e => .ok (.val z) e
      | none => .err
    | none => .err else .err
theorem se_cut2 {a l u : Expr} {p2 : Pos} {eva evl evu : Env → R T} (hK : X.K = G.K) (ha : PE X a (tE G C W sa eva)) (hl : PE X l (tE G C W sb evl)) (hu : PE X u (tE G C W sc evu)) :
    PE X (.Subscript a (.Slice (some l) (some u) none p2) pos) (tE G C W false (cutS3 eva evl evu)) := by
  refine PE.mono (pe_slice sl3 ha (po_some hl) (po_some hu)) fun σ H Q h => ?_
  obtain ⟨tm, env, F, hr, h⟩ := h
  have hr0 := hr rfl
  refine ⟨tm, env, F, fun _ => hr0, ?_⟩
  unfold cutS3 at h
  cases ea : eva env with
  | err => rw [ea] at h; exact h
  | exc x env1 => rw [ea] at h; exact h
  | ok t env1 =>
    rw [ea] at h
    simp only [R.bind_ok] at h
    intro x H1 F1 s1
    by_cases ht : t.root = true
    · rw [if_pos ht] at h
      refine ⟨tm ++ [(x, t)], env1, F1, fun _ => hr0.val ht, ?_⟩
      cases el : evl env1 with
      | err => rw [el] at h; exact h
      | exc y env2 => rw [el] at h; exact fun cls dx H' xr F2 => h cls dx H' xr F2.pop
      | ok tl env2 =>
        rw [el] at h
        simp only [R.bind_ok] at h
        intro y H2 F2 s2
        cases e1 : int1 tl with
        | none => rw [e1] at h; exact h.elim
        | some i =>
          rw [e1] at h
          dsimp only at h
          obtain rfl := int1_some e1
          have hy : y = .int i := F2.int
          refine ⟨i, hy, tm ++ [(x, t)], env2, F2.pop, fun _ => hr0.val ht, ?_⟩
          cases eu : evu env2 with
          | err => rw [eu] at h; exact h
          | exc y env3 => rw [eu] at h; exact fun cls dx H' xr F3 => h cls dx H' xr F3.pop
          | ok tu env3 =>
            rw [eu] at h
            simp only [R.bind_ok] at h
            intro z H3 F3 s3
            cases e2 : int1 tu with
            | none => rw [e2] at h; exact h.elim
            | some j =>
              rw [e2] at h
              dsimp only at h
              obtain rfl := int1_some e2
              have hz : z = .int j := F3.int
              refine ⟨j, hz, ?_⟩
              obtain ⟨O3, F3⟩ := F3.pop
              cases e3 : rs t env3 with
              | err => rw [e3] at h; exact h.elim
              | exc y e => exact (rs_noexc e3).elim
              | ok d env4 =>
                rw [e3] at h
                simp only [R.bind_ok] at h
                obtain ⟨O4, m4, F4, v4⟩ := FRo.rs (tm₁ := tm) (tm₂ := []) F3 e3
                rw [List.append_nil] at F4
                cases e4 : cutD (some i) (some j) d with
                | none => rw [e4] at h; exact h.elim
                | some w =>
                  rw [e4] at h
                  simp only [R.of_some, R.bind_ok] at h
                  rw [hK]
                  exact sl3_of v4 e4 fun v H' fr => h v H' (F4.fresh fr) fun e => by cases e
    · rw [if_neg ht] at h; exact h.elim
/-- what a method that looks is told of -/
def rMe (G : GK) (m : Me) : V → List V → Hp → VK → Prop := fun x xs H Q => rB G (bi (.me m)) (x :: xs) H Q
theorem ty_ok {d : D} {m : Me} {v : V} {T : String} {A : Ad} {O : Ad} (h : meOk m (some d) = true) (r : Rep G H A d v O) (hT : T = meTy m) : tyV G.K T v H := by
  cases m <;> cases d <;> try (cases h; done)
  all_goals subst hT
  · obtain ⟨a, vs, O', rfl, h1, _⟩ := r.isLst
    exact .inl ⟨rfl, vs, .inl (.inl h1)⟩
  · obtain ⟨a, vs, O', rfl, h1, _⟩ := r.isLst
    exact .inl ⟨rfl, vs, .inl (.inl h1)⟩
  all_goals (simp only [Rep] at r; subst r; rfl)
def mthS (m : Me) (evo : Env → R T) (sb : Bool) (evs : Env → R (List T)) : Env → R T := fun e => (evo e).bind fun t e => if (t.root || sb) && meOk m (peek t e) then (evs e).bind fun ts e => (rsL (t :: ts) e).bind fun ds e => (R.of (bi (.me m) ds) e).bind fun z e => .ok (.val z) e else .err
theorem mth_tE {m : Me} {T : String} {evo : Env → R LT.T} {evs : Env → R (List LT.T)} (hK : X.K = G.K) (hT : T = meTy m) (σ : St) (H : Hp) (Q : VK) (h : tE G C W false (mthS m evo sb evs) σ H Q) :
    tBM X.K T (rMe G m) (tE G C W sa evo) (tEs G C W sb evs) σ H Q := by
  obtain ⟨tm, env, F, hr, h⟩ := h
  have hr0 := hr rfl
  refine ⟨tm, env, F, fun _ => hr0, ?_⟩
  unfold mthS at h
  cases ea : evo env with
  | err => rw [ea] at h; exact h
  | exc x env1 => rw [ea] at h; exact h
  | ok t env1 =>
    rw [ea] at h
    simp only [R.bind_ok] at h
    intro x H1 F1 s1
    by_cases hc : ((t.root || sb) && meOk m (peek t env1)) = true
    · rw [if_pos hc] at h
      simp only [Bool.and_eq_true] at hc
      constructor
      · obtain ⟨O1, F1⟩ := F1
        cases ep : peek t env1 with
        | none =>
          rw [ep] at hc
          cases m <;> exact absurd hc.2 (by simp [meOk])
        | some d =>
          obtain ⟨O2, _, r⟩ := F1.look ep
          rw [hK]
          exact ty_ok (by rw [← ep]; exact hc.2) r hT
      · refine ⟨tm ++ [(x, t)], env1, F1, fun e => hr0.val (by have := hc.1; rw [e] at this; simpa using this), ?_⟩
        cases eb : evs env1 with
        | err => rw [eb] at h; exact h
        | exc x env2 => rw [eb] at h; exact fun cls dx H' xr F2 => h cls dx H' xr F2.pop
        | ok ts env2 =>
          rw [eb] at h
          simp only [R.bind_ok] at h
          intro vs H2 hl ⟨O2, F2⟩ s2
          cases e1 : rsL (t :: ts) env2 with
          | err => rw [e1] at h; exact h.elim
          | exc x e => exact (rsL_noexc e1).elim
          | ok ds env3 =>
            rw [e1] at h
            simp only [R.bind_ok] at h
            obtain ⟨O3, m3, F3, v3⟩ := FRo.rsL (ts := t :: ts) (vs := x :: vs) (by simpa using hl) (by rw [List.append_assoc] at F2; exact F2) e1
            cases e3 : bi (.me m) ds with
            | none => rw [e3] at h; exact h.elim
            | some z =>
              rw [e3] at h
              simp only [R.of_some, R.bind_ok] at h
              exact ⟨_, ds, z, F3.bad, v3, e3, fun v H3 fr => h v H3 (F3.fresh fr) fun e => by cases e⟩
    · rw [if_neg hc] at h; exact h.elim
/-! index -/
theorem indexD_spec {x : D} : ∀ {xs : List D} {n k : Nat}, indexD x xs n = some k → n ≤ k ∧ ∃ z, xs[k - n]? = some z ∧ z.eqv x = true ∧ ∀ m z', m < k - n → xs[m]? = some z' → z'.eqv x = false
  | [], n, k, h => by simp [indexD] at h
  | y :: ys, n, k, h => by
    simp only [indexD] at h
    split at h
    · rename_i hy
      cases h
      exact ⟨Nat.le_refl _, y, by simp, hy, fun m z' hm => by omega⟩
    · rename_i hy
      obtain ⟨h1, z, h2, h3, h4⟩ := indexD_spec h
      have e : k - n = (k - (n + 1)) + 1 := by omega
      refine ⟨by omega, z, by rw [e, List.getElem?_cons_succ]; exact h2, h3, fun m z' hm hz => ?_⟩
      cases m with
      | zero =>
        simp at hz
        subst hz
        simpa using hy
      | succ m => exact h4 m z' (by omega) (by simpa using hz)
theorem dats_mem {k : Nat} : ∀ {xs : List D} {m : Nat} {w : D}, dats k xs = true → xs[m]? = some w → w.dat k = true
  | [], m, w, _, h => by simp at h
  | d :: xs, 0, w, hd, h => by
    simp only [dats, Bool.and_eq_true] at hd
    simp at h
    subst h
    exact hd.1
  | d :: xs, m + 1, w, hd, h => by
    simp only [dats, Bool.and_eq_true] at hd
    exact dats_mem hd.2 (by simpa using h)
theorem pds_get : ∀ {xs : List D} {m : Nat} {w : D}, xs[m]? = some w → (pds xs)[m]? = some (pd w)
  | [], m, w, h => by simp at h
  | d :: xs, 0, w, h => by
    simp at h
    subst h
    simp [pds]
  | d :: xs, m + 1, w, h => by
    have := pds_get (xs := xs) (m := m) (w := w) (by simpa using h)
    simpa [pds] using this
theorem pds_get' : ∀ {xs : List D} {m : Nat} {z : PyData}, (pds xs)[m]? = some z → ∃ w, xs[m]? = some w ∧ z = pd w
  | [], m, z, h => by simp [pds] at h
  | d :: xs, 0, z, h => by
    simp [pds] at h
    exact ⟨d, by simp, h.symm⟩
  | d :: xs, m + 1, z, h => by
    obtain ⟨w, h1, h2⟩ := pds_get' (xs := xs) (m := m) (z := z) (by simpa [pds] using h)
    exact ⟨w, by simpa using h1, h2⟩
theorem mr_index (hK : X.K = G.K) (hu : X.A.units + 65 < cLine) : MtR X "list.index" (rMe G .index) := by
  intro pins s σ H x xs v us Q I r rs h
  refine mt_indexD hu pins s σ H x xs v us Q I r rs ?_
  obtain ⟨B, ds, z, hb, hv, e, k⟩ := h
  match ds, e with
  | [.lst o xs', y], e =>
    simp only [bi, meth] at e
    split at e
    · rename_i hd
      simp only [Bool.and_eq_true] at hd
      obtain ⟨n, e1, rfl⟩ := Option.map_eq_some_iff.mp e
      obtain ⟨x1, y1, q, g1, g2⟩ := hv.two
      simp only [List.cons.injEq] at q
      obtain ⟨rfl, rfl⟩ := q
      obtain ⟨_, w, h2, h3, h4⟩ := indexD_spec e1
      rw [Nat.sub_zero] at h2 h4
      have h1' : Vw G H B (.lst false xs') x := by
        cases o with
        | true => exact (Vw.lst g1)
        | false => exact g1
      have dp := h1'.dp hd.1
      obtain ⟨a, vs, rfl, l1, l2⟩ := g1.lst
      have hds : dats 59 xs' = true := by
        have := hd.1
        simpa [D.dat] using this
      have hmem : ∀ (m : Nat) (w : D), xs'[m]? = some w → w.dat 59 = true := fun m w hm => dats_mem hds hm
      rw [hK]
      refine ⟨a, y1, pd y, pds xs', n, pd w, rfl, rfl, dp, g2.dp hd.2, pd_shaped hd.1, pd_shaped hd.2, pds_get h2, ?_, fun m z' hm hz => ?_, k _ _ (Fresh.int _)⟩
      · rw [pd_eqv 59 60 w y (hmem n w h2) hd.2]; exact h3
      · obtain ⟨w', hw, rfl⟩ := pds_get' hz
        rw [pd_eqv 59 60 w' y (hmem m w' hw) hd.2]
        exact h4 m w' hm hw
    · cases e
  | [], e => cases e
  | [_], e => simp [bi, meth] at e
  | _ :: _ :: _ :: _, e => simp [bi, meth] at e
  | [.non, _], e => simp [bi, meth] at e
  | [.bl _, _], e => simp [bi, meth] at e
  | [.int _, _], e => simp [bi, meth] at e
  | [.str _, _], e => simp [bi, meth] at e
  | [.tup _, _], e => simp [bi, meth] at e
  | [.scr _, _], e => simp [bi, meth] at e
  | [.dic _ _ _, _], e => simp [bi, meth] at e
  | [.ins _ _ _ _, _], e => simp [bi, meth] at e
/-! join -/
theorem allStr_reps {B : Ad} : ∀ {xs : List D} {ns : List Cs} {vs : List V} {O : Ad}, allStr xs = some ns → Reps G H B xs vs O → vs = (ns.map sOf).map V.str
  | [], ns, vs, O, h, r => by
    cases h
    simp only [Reps] at r
    exact r
  | d :: xs, ns, vs, O, h, r => by
    simp only [Reps] at r
    obtain ⟨v, vs', O1, O2, e, _, _, _, h4, h5⟩ := r
    cases d with
    | str i =>
      simp only [allStr] at h
      obtain ⟨l, e1, rfl⟩ := Option.map_eq_some_iff.mp h
      rw [e, allStr_reps e1 h5, List.map_cons, List.map_cons]
      have : v = .str (sOf i) := h4
      rw [this]
    | _ => simp [allStr] at h
theorem join_cs0 (sep : Cs) : ∀ l : List Cs, PySem.Str.join (sOf sep) (l.map sOf) = sOf (joinC sep l)
  | [] => rfl
  | [a] => rfl
  | a :: b :: r => by
    have ih := join_cs0 sep (b :: r)
    show sOf a ++ sOf sep ++ PySem.Str.join (sOf sep) ((b :: r).map sOf) = sOf (a ++ sep ++ joinC sep (b :: r))
    rw [ih, sOf_app, sOf_app]
theorem join_cs (sep : Cs) (l : List Cs) : Txt.join (sOf sep) (l.map sOf) = sOf (joinC sep l) := by
  rw [TL.join_eq]
  exact join_cs0 sep l
theorem mr_join (hK : X.K = G.K) : MtR X "str.join" (rMe G .join) := by
  intro pins s σ H x xs v us Q I r rs h
  refine mt_join pins s σ H x xs v us Q I r rs ?_
  obtain ⟨B, ds, z, hb, hv, e, k⟩ := h
  have fin : ∀ {sep : Cs} {l : List Cs} {a : Addr} {vs : List V} {x1 y1 : V}, [x1, y1] = x :: xs → Vw G H B (.str sep) x1 → y1 = .ref a → (SqL G.K H a vs ∨ SqT G.K H a vs) → vs = (l.map sOf).map V.str → (if (l.map (·.length)).sum + l.length * sep.length ≤ 16777216 then some (D.str (joinC sep l)) else none) = some z →
      ∃ a p, ∃ ys : List PySem.Str, x = .str a ∧ xs = [.ref p] ∧ (SqL X.K H p (ys.map V.str) ∨ SqT X.K H p (ys.map V.str)) ∧ (ys.map (·.length)).sum + ys.length * a.length ≤ 16777216 ∧ Q (.str (Txt.join a ys)) H := by
    intro sep l a vs x1 y1 q g1 hy sq hvs e
    simp only [List.cons.injEq] at q
    obtain ⟨rfl, rfl⟩ := q
    split at e
    · rename_i hz
      cases e
      subst hvs
      refine ⟨sOf sep, a, l.map sOf, g1.str, by rw [hy], by rw [hK]; exact sq, ?_, ?_⟩
      · have e1 : (l.map sOf).map (·.length) = l.map (·.length) := by
          rw [List.map_map]
          apply List.map_congr_left
          intro c _
          exact sOf_len c
        rw [e1, List.length_map, sOf_len]
        exact hz
      · rw [join_cs]
        exact k _ _ (Fresh.str _)
    · cases e
  match ds, e with
  | [.str sep, .lst o ys], e =>
    simp only [bi, meth] at e
    obtain ⟨l, e1, e2⟩ := Option.bind_eq_some_iff.mp e
    obtain ⟨x1, y1, q, g1, g2⟩ := hv.two
    obtain ⟨a, vs, hy, l1, l2⟩ := g2.lst
    exact fin q.symm g1 hy (.inl (.inl (.inl l1))) (allStr_reps e1 l2) e2
  | [.str sep, .tup ys], e =>
    simp only [bi, meth] at e
    obtain ⟨l, e1, e2⟩ := Option.bind_eq_some_iff.mp e
    obtain ⟨x1, y1, q, g1, g2⟩ := hv.two
    obtain ⟨a, vs, hy, l1, l2⟩ := g2.tup
    exact fin q.symm g1 hy (.inr l1) (allStr_reps e1 l2) e2
  | [], e => cases e
  | [_], e => simp [bi, meth] at e
  | _ :: _ :: _ :: _, e => simp [bi, meth] at e
  | [.non, _], e => simp [bi, meth] at e
  | [.bl _, _], e => simp [bi, meth] at e
  | [.int _, _], e => simp [bi, meth] at e
  | [.lst _ _, _], e => simp [bi, meth] at e
  | [.tup _, _], e => simp [bi, meth] at e
  | [.scr _, _], e => simp [bi, meth] at e
  | [.dic _ _ _, _], e => simp [bi, meth] at e
  | [.ins _ _ _ _, _], e => simp [bi, meth] at e
  | [.str _, .non], e => simp [bi, meth] at e
  | [.str _, .bl _], e => simp [bi, meth] at e
  | [.str _, .int _], e => simp [bi, meth] at e
  | [.str _, .str _], e => simp [bi, meth] at e
  | [.str _, .scr _], e => simp [bi, meth] at e
  | [.str _, .dic _ _ _], e => simp [bi, meth] at e
  | [.str _, .ins _ _ _ _], e => simp [bi, meth] at e
/-! bit_length -/
theorem se_bits {o : Expr} {apos cpos : Pos} {evo : Env → R T} (ho : PE X o (tE G C W sa evo)) (hbase : attributeBase o "bit_length" X.env (eval o X.env) = eval o X.env) (hline : (apos.endLine == cpos.line) = true) :
    PE X (.Call (.Attribute o "bit_length" apos) [] [] cpos) (tE G C W false (mthS .bitlen evo true fun e => .ok [] e)) := by
  refine PE.mono (pe_bits ho hbase hline) fun σ H Q h => ?_
  obtain ⟨tm, env, F, hr, h⟩ := h
  have hr0 := hr rfl
  refine ⟨tm, env, F, fun _ => hr0, ?_⟩
  unfold mthS at h
  cases ea : evo env with
  | err => rw [ea] at h; exact h
  | exc x env1 => rw [ea] at h; exact h
  | ok t env1 =>
    rw [ea] at h
    simp only [R.bind_ok] at h
    intro x H1 ⟨O1, F1⟩ s1
    split at h
    · cases e1 : rsL [t] env1 with
      | err => rw [e1] at h; exact h.elim
      | exc x e => exact (rsL_noexc e1).elim
      | ok ds env3 =>
        rw [e1] at h
        simp only [R.bind_ok] at h
        obtain ⟨O3, m3, F3, v3⟩ := FRo.rsL (ts := [t]) (vs := [x]) rfl F1 e1
        cases e3 : bi (.me .bitlen) ds with
        | none => rw [e3] at h; exact h.elim
        | some z =>
          rw [e3] at h
          simp only [R.of_some, R.bind_ok] at h
          match ds, e3, v3 with
          | [.int i], e3, v3 =>
            cases e3
            obtain ⟨x1, q, g1⟩ := v3.one
            simp only [List.cons.injEq, and_true] at q
            subst q
            exact ⟨i, g1.int, h _ H1 (F3.fresh (Fresh.int _)) fun e => by cases e⟩
          | [], e3, _ => cases e3
          | _ :: _ :: _, e3, _ => simp [bi, meth] at e3
          | [.non], e3, _ => simp [bi, meth] at e3
          | [.bl _], e3, _ => simp [bi, meth] at e3
          | [.str _], e3, _ => simp [bi, meth] at e3
          | [.lst _ _], e3, _ => simp [bi, meth] at e3
          | [.tup _], e3, _ => simp [bi, meth] at e3
          | [.scr _], e3, _ => simp [bi, meth] at e3
          | [.dic _ _ _], e3, _ => simp [bi, meth] at e3
          | [.ins _ _ _ _], e3, _ => simp [bi, meth] at e3
    · exact h.elim
end
end LT
/-! LtU5: lists and texts from the end on. -/
namespace LT
open PySem L2 PySem.Spec PyProof.Rows
section
variable {X : Cx} {prog : Program} {w : World} {A : Around} {E : Value → Shared → Prop} {s : Shared}
theorem str_rev (x : PySem.Str) (t : Tok) (tk : Tok) : sliceMade x t none none (some (-1, tk)) = .str ⟨x.cps.toList.reverse.toArray⟩ := by
  unfold sliceMade
  rw [if_neg (by simp)]
  congr 2
  show ((Builtin.Str.strSliceIndices none none (-1) x.length).filterMap (x.cps[·]?)).toArray = _
  have e : Builtin.Str.strSliceIndices none none (-1) x.length = sliceRange ((x.length : Int) - 1) (-1) (-1) := rfl
  rw [e, PySem.W.krv_sliceRange, PySem.W.krv_range, List.filterMap_reverse]
  have := PySem.W.krv_all x.cps
  rw [show x.length = x.cps.size from rfl, this]
def tRevA (K : PySem.W.Frag) (te : TE) : TE := fun σ H Q => te σ H fun x H1 => (∃ a xs, x = .ref a ∧ SqL K H1 a xs ∧ ∀ p, H1 p = none → Q (.ref p) (upd H1 p (.lst xs.reverse))) ∨ ∃ s : PySem.Str, x = .str s ∧ s.length ≤ sizeLine ∧ Q (.str ⟨s.cps.toList.reverse.toArray⟩) H1
theorem pe_revA {e : Expr} {te : TE} {k : Nat} {p1 p2 p3 pos : Pos} (he : PE X e te) : PE X (.Subscript e (.Slice none none (some (.UnaryOp .USub (.Constant (.int 1) k p1) p2)) p3) pos) (tRevA X.K te) := by
  refine ⟨fun pins s σ H Q I h => ?_⟩
  refine Subscript_ (thn (he.run pins s σ H _ I h) fun v s1 ⟨x, H1, I1, r1, q1⟩ => ?_)
  have hst : PO X (some (.UnaryOp .USub (.Constant (.int 1) k p1) p2)) (tPart (tUn (rU fun i => .int (-i)) (tC (.int 1)))) := po_some (pe_un un_neg pe_int)
  refine wpAny_Slice (thn (po_none.run pins s1 σ H1 (fun o H2 => o = none ∧ H2 = H1) I1 ⟨rfl, rfl⟩) fun vl s2 ⟨l, H2, I2, pl, el, e2⟩ => ?_)
  subst el e2
  refine thn (po_none.run pins s2 σ H2 (fun o H3 => o = none ∧ H3 = H2) I2 ⟨rfl, rfl⟩) fun vu s3 ⟨u, H3, I3, pu, eu, e3⟩ => ?_
  subst eu e3
  refine thn (hst.run pins s3 σ H3 (fun o H4 => o = some (-1) ∧ H4 = H3) I3 ⟨1, rfl, -1, rfl, rfl, rfl⟩) fun vs s4 ⟨o, H4, I4, ps, eo, e4⟩ => ?_
  subst eo e4
  have I5 : Inv X pins σ H4 { s4 with heap := s4.heap.push { cls := .type "slice", data := .fields #[vl, vu, vs] } } := I4.kept (t' := s4.toks) fun b ob q => Heap.get?_push_of_some _ q
  rcases q1 with ⟨a, xs, ex, hx, q⟩ | ⟨x', ex, hsz, q⟩
  · subst ex
    cases r1
    obtain ⟨its, r, ht, hz⟩ := I5.list hx
    have hlen := r.length
    show wpAny (model X.prog X.w) X.A (subscriptTail e (.Slice none none (some (.UnaryOp .USub (.Constant (.int 1) k p1) p2)) p3) (.ref a) (.ref s4.heap.objs.size)) (EP X pins σ Q) X.xe { s4 with heap := s4.heap.push { cls := .type "slice", data := .fields #[vl, vu, vs] } }
    refine tail_any (ops := [.ref a, .ref s4.heap.objs.size]) ht.isList.typeIs (PySem.slot_list_getitem.lookup) ?_ (by with_unfolding_all rfl)
    refine wpAny_getItem_list_slice ht.isList (Heap.IsSliceOf.new _ vl vu vs) pl pu ps (by decide) ?_ (by rw [List.size_toArray]; omega)
    rw [PySem.W.krv_pick]
    refine ⟨.ref _, _, I5.laid (t' := s4.toks) (o := .lst xs.reverse) (fun b ob q => Heap.get?_push_of_some _ q) (Nat.le_refl _) ?_, rfl, q _ (I5.hok.fresh (Nat.le_refl _))⟩
    exact ⟨by rw [List.length_reverse]; exact hz, _, 0, r.reverse, Heap.get?_push_size _ rfl⟩
  · subst ex
    obtain ⟨t, rfl⟩ := r1
    cases pl
    cases pu
    cases ps with
    | int i tk =>
    show wpAny (model X.prog X.w) X.A (subscriptTail e (.Slice none none (some (.UnaryOp .USub (.Constant (.int 1) k p1) p2)) p3) (.str x' t) (.ref s4.heap.objs.size)) (EP X pins σ Q) X.xe { s4 with heap := s4.heap.push { cls := .type "slice", data := .fields #[.none, .none, .int (-1) tk] } }
    refine tail_any (ops := [.str x' t, .ref s4.heap.objs.size]) (typeIs_str _ x' t) (F.slot_str_getitem.lookup) ?_ (by with_unfolding_all rfl)
    refine wpAny_getItem_str_slice (l := none) (u := none) (st := some (-1, tk)) ⟨_, Heap.get?_push_size _ rfl, rfl, rfl⟩ rfl ?_
    rw [str_rev]
    refine ⟨?_, .str _, H4, I5.tok _, ⟨_, rfl⟩, q⟩
    show x'.cps.toList.reverse.toArray.size ≤ sizeLine
    rw [List.size_toArray, List.length_reverse, Array.length_toList]
    exact hsz
end
section
variable {G : GK} {C : Fc} {W : WX} {X : Cx} {H : Hp} {sa sb sc : Bool} {pos : Pos}
theorem bi_rev {ds : List D} {z : D} (e : bi .rev ds = some z) : (∃ o xs, ds = [.lst o xs] ∧ z = .lst true xs.reverse) ∨ ∃ s : Cs, ds = [.str s] ∧ s.length ≤ sizeL ∧ z = .str s.reverse := by
  unfold bi at e
  dsimp only at e
  split at e
  · cases e
    exact .inl ⟨_, _, rfl, rfl⟩
  · split at e
    · cases e
      rename_i h
      exact .inr ⟨_, rfl, h, rfl⟩
    · cases e
  · cases e
theorem se_rev {a : Expr} {k : Nat} {p1 p2 p3 : Pos} {eva : Env → R T} (hK : X.K = G.K) (ha : PE X a (tE G C W sa eva)) :
    PE X (.Subscript a (.Slice none none (some (.UnaryOp .USub (.Constant (.int 1) k p1) p2)) p3) pos) (tE G C W (sa && true) (fun e => (consS eva true (fun e => .ok [] e) e).bind fun ts e => (rsL ts e).bind fun ds e => (R.of (bi .rev ds) e).bind fun z e => .ok (.val z) e)) := by
  refine PE.mono (pe_revA ha) fun σ H Q h => ?_
  have h1 := tE_bi (sa := sa && true) (g := bi .rev) (evas := consS eva true fun e => .ok [] e) σ H Q h
  refine se_cut1.tE_imp (tEs_cons h1) fun x H1 h3 => ?_
  obtain ⟨B, ds, z, hb, hv, e, kk⟩ := tEs_nil h3
  rcases bi_rev e with ⟨o, xs, rfl, rfl⟩ | ⟨s, rfl, hs, rfl⟩
  · obtain ⟨y, q, g⟩ := hv.one
    simp only [List.cons.injEq, and_true] at q
    subst q
    obtain ⟨p, vs, e1, hH, r1⟩ := g.lst
    exact .inl ⟨p, vs, e1, .inl (.inl hH), fun l hl => kk _ _ (Fresh.lst r1.reverse hl)⟩
  · obtain ⟨y, q, g⟩ := hv.one
    simp only [List.cons.injEq, and_true] at q
    subst q
    refine .inr ⟨sOf s, g.str, by rw [sOf_len, ← sizeL_eq]; exact hs, ?_⟩
    have : (⟨(sOf s).cps.toList.reverse.toArray⟩ : PySem.Str) = sOf s.reverse := by simp [sOf]
    rw [this]
    exact kk _ _ (Fresh.str _)
end
end LT
/-! LtV: from the program's tree to the small language. -/
namespace LT
open PySem L2
/-- what a def's body is read in: its names, its scope, the module's defs (name, number, arity), the names that the module has not -/
structure CC where
  N : List Str
  sc : Scope
  funs : List (Str × Nat × Nat)
  free : List Str
  con : List (Str × D)
  exc : List (Str × Nat)
  calm : Bool
def isVis : Option NameKind → Bool
  | some .local => true
  | some .cell => true
  | some .free => true
  | _ => false
def isLoc : Option NameKind → Bool
  | some .local => true
  | some .cell => true
  | _ => false
def CC.kind (c : CC) (x : Str) : Option NameKind := c.sc.names.lookup x
def okName (x : Str) : Bool := x != ("__debug__" : Str) && x != ("__classdict__" : Str) && x != ("__name__" : Str)
def ixName (x : Str) : List Str → Nat → Option Nat
  | [], _ => none
  | y :: ys, n => if y = x then some n else ixName x ys (n + 1)
theorem ixName_get {x : Str} : ∀ {l : List Str} {n i : Nat}, ixName x l n = some i → n ≤ i ∧ l[i - n]? = some x
  | [], n, i, h => by cases h
  | y :: ys, n, i, h => by
    simp only [ixName] at h
    split at h
    · rename_i e
      cases h
      subst e
      exact ⟨Nat.le_refl _, by simp⟩
    · obtain ⟨h1, h2⟩ := ixName_get h
      refine ⟨by omega, ?_⟩
      have : i - n = (i - (n + 1)) + 1 := by omega
      rw [this, List.getElem?_cons_succ]
      exact h2
def CC.slot (c : CC) (x : Str) : Option Nat := if isVis (c.kind x) && okName x then ixName x c.N 0 else none
def CC.loc (c : CC) (x : Str) : Option Nat := if isLoc (c.kind x) && okName x then ixName x c.N 0 else none
def CC.glo (c : CC) (x : Str) : Bool := c.kind x == some .globalImplicit && okName x
def CC.blt (c : CC) (x : Str) : Bool := c.glo x && c.free.contains x
def constD : Const → Option D
  | .none => some .non
  | .bool b => some (.bl b)
  | .int i => some (.int i)
  | .str s => some (.str s.cps.toList)
  | _ => none
def isStar : Expr → Bool
  | .Starred .. => true
  | _ => false
def noStar (es : List Expr) : Bool := es.all fun e => !isStar e
/-- [::-1] -/
def isRev : Option Expr → Option Expr → Expr → Bool
  | none, none, .UnaryOp .USub (.Constant (.int 1) _ _) _ => true
  | _, _, _ => false
def isSlice : Expr → Bool
  | .Slice .. => true
  | _ => false
def isCall : Expr → Bool
  | .Call .. => true
  | _ => false
def isComp : Expr → Bool
  | .ListComp .. => true
  | .SetComp .. => true
  | .DictComp .. => true
  | _ => false
def isTupE : Expr → Bool
  | .Tuple .. => true
  | _ => false
def isSet : Expr → Bool
  | .Set .. => true
  | _ => false
def isIf : Expr → Bool
  | .IfExp .. => true
  | _ => false
def tyOf (y : Str) : Option Nat := if y = ("int" : Str) then some 2 else if y = ("bool" : Str) then some 1 else if y = ("str" : Str) then some 3 else if y = ("tuple" : Str) then some 4 else if y = ("list" : Str) then some 5 else none
def biTab : List (Str × Nat × Bi) := [("abs", 1, .abs), ("min", 2, .min2), ("max", 2, .max2), ("int", 1, .int), ("list", 1, .list), ("tuple", 1, .tuple), ("sum", 1, .sum), ("all", 1, .all), ("any", 1, .any), ("min", 1, .min1), ("min", 3, .min3), ("max", 3, .max3)]
def biOf (x : Str) (n : Nat) : Option Bi := (biTab.find? fun q => q.1 == x && q.2.1 == n).map (·.2.2)
def muOf (x : Str) (n : Nat) : Option Mu :=
  if x = ("append" : Str) ∧ n = 1 then some .append else if x = ("extend" : Str) ∧ n = 1 then some .extend else if x = ("pop" : Str) ∧ n = 0 then some .pop else if x = ("clear" : Str) ∧ n = 0 then some .clear else if x = ("reverse" : Str) ∧ n = 0 then some .reverse else none
def meOf (x : Str) (n : Nat) : Option Me :=
  if x = ("index" : Str) ∧ n = 1 then some .index else if x = ("bit_length" : Str) ∧ n = 0 then some .bitlen else if x = ("join" : Str) ∧ n = 1 then some .join else none
def bestOf (x : Str) : Option Bi := if x = ("min" : Str) then some .min1d else if x = ("max" : Str) then some .max1d else none
/-- a class of exceptions by its name -/
def CC.excOf (c : CC) (y : Str) : Option Nat := if c.glo y then (match c.exc.lookup y with
  | some k => some k
  | none => if c.free.contains y && y == ("ValueError" : Str) then some 10 else none) else none
def excsOf (c : CC) : List Expr → Option (List Nat)
  | [] => some []
  | .Name y _ :: es => match c.excOf y, excsOf c es with
    | some k, some ks => some (k :: ks)
    | _, _ => none
  | _ => none
/-- isinstance(e, X), isinstance(e, (X, ..)) -/
def isEOf (c : CC) (f : Expr) (as : List Expr) (kws : List Keyword) : Option (Expr × List Nat) := match f, as, kws with
  | .Name x _, [a, .Name y _], [] => if c.blt x && x == ("isinstance" : Str) && !isStar a then (c.excOf y).map fun k => (a, [k]) else none
  | .Name x _, [a, .Tuple es _ _], [] => if c.blt x && x == ("isinstance" : Str) && !isStar a && decide (es.length ≤ 1000) then (match es with
    | [] => none
    | _ => (excsOf c es).map fun ks => (a, ks)) else none
  | _, _, _ => none
mutual
def tgOf (c : CC) : Nat → Expr → Option Tg
  | 0, _ => none
  | n + 1, .Name x _ => (c.loc x).map .v
  | n + 1, .Tuple es _ _ => if c.calm && noStar es then tgsOf c n es else none
  | _ + 1, _ => none
def tgsOf (c : CC) : Nat → List Expr → Option Tg
  | 0, _ => none
  | n + 1, [] => some .nil
  | n + 1, e :: es => match tgOf c n e, tgsOf c n es with
    | some t, some ts => some (.cons t ts)
    | _, _ => none
end
mutual
/-- a target's names with their slots -/
def ownOf (c : CC) : Nat → Expr → List (Str × Nat)
  | 0, _ => []
  | n + 1, .Name x _ => match c.loc x with
    | some i => [(x, i)]
    | none => []
  | n + 1, .Tuple es _ _ => ownsOf c n es
  | _ + 1, _ => []
def ownsOf (c : CC) : Nat → List Expr → List (Str × Nat)
  | 0, _ => []
  | n + 1, [] => []
  | n + 1, e :: es => ownOf c n e ++ ownsOf c n es
end
/-- list(range(n)): n -/
def lrOf (c : CC) (x : Str) (a : Expr) : Option Expr := match a with
  | .Call (.Name y _) [b] [] _ => if x == ("list" : Str) && y == ("range" : Str) && c.blt y && noStar [b] then some b else none
  | _ => none
mutual
def compE (c : CC) : Nat → Expr → E
  | 0, _ => .never
  | n + 1, .Name x _ => match c.slot x with
    | some i => .var i
    | none => if c.glo x then (match c.con.lookup x with
      | some d => .con d
      | none => .never) else .never
  | n + 1, .Constant k _ _ => match constD k with
    | some d => .con d
    | none => .never
  | n + 1, .BinOp a op b _ => match opOf op with
    | some o => .bin o (compE c n a) (compE c n b)
    | none => .never
  | n + 1, .UnaryOp .USub a _ => .neg (compE c n a)
  | n + 1, .UnaryOp .Not a _ => .not (compE c n a)
  | n + 1, .BoolOp op vs pos => match vs with
    | [a, b] => (match op with
      | .And => .and (compE c n a) (compE c n b)
      | .Or => .or (compE c n a) (compE c n b))
    | a :: b :: d :: rest => (match op with
      | .And => .and (compE c n a) (compE c n (.BoolOp .And (b :: d :: rest) pos))
      | .Or => .or (compE c n a) (compE c n (.BoolOp .Or (b :: d :: rest) pos)))
    | _ => .never
  | n + 1, .Compare a ops bs _ => match ops, bs with
    | [op], [b] => (match cmOf op with
      | some o => if behindInMarks op b then .never else .cmp o (compE c n a) (compE c n b)
      | none => .never)
    | [op, op'], [b, d] => (match cmOf op, cmOf op' with
      | some o, some o' => if lastMarks [op, op'] [b, d] then .never else .cmp2 o o' (compE c n a) (compE c n b) (compE c n d)
      | _, _ => .never)
    | _, _ => .never
  | n + 1, .IfExp t a b _ => .ite (compE c n t) (compE c n a) (compE c n b)
  | n + 1, .List es _ => if noStar es && decide (es.length ≤ 1000) then .lstE (compEs c n es) else .never
  | n + 1, .Tuple es _ _ => if noStar es && decide (es.length ≤ 1000) then .tupE (compEs c n es) else .never
  | n + 1, .Dict ks vs _ => (match ks, vs with
    | [], [] => .dicE .nil .nil
    | [some a], [b] => .dic1 (compE c n a) (compE c n b)
    | _, _ => .never)
  | n + 1, .Subscript a b _ => (match b with
    | .Slice (some l) none none _ => .bi .cutL (.cons (compE c n a) (.cons (compE c n l) .nil))
    | .Slice none (some u) none _ => .bi .cutU (.cons (compE c n a) (.cons (compE c n u) .nil))
    | .Slice (some l) (some u) none _ => .cut (compE c n a) (compE c n l) (compE c n u)
    | .Slice lo hi (some s) _ => if isRev lo hi s then .bi .rev (.cons (compE c n a) .nil) else .never
    | .Slice none none none _ => .never
    | _ => .idx (compE c n a) (compE c n b))
  | n + 1, .ListComp elt gs scope _ => (match gs with
    | [⟨tg, it, ifs, 0⟩] => if isSet it || !c.calm then .never else (match tgOf { c with sc := scope } n tg with
      | some t => if blkC c.N c.sc scope (ownOf { c with sc := scope } n tg) && decide ((ownOf { c with sc := scope } n tg).map (·.2) = slots t) then (match ifs with
        | [] => .lc (compE { c with sc := scope } n elt) t (compI c n tg it) (.con (.bl true))
        | [d] => .lc (compE { c with sc := scope } n elt) t (compI c n tg it) (compE { c with sc := scope } n d)
        | _ => .never) else .never
      | none => .never)
    | _ => .never)
  | n + 1, .Call f as kws pos => (match isEOf c f as kws with
    | some q => .isE (compE c n q.1) q.2
    | none => if c.calm then (match kws with
    | [] => (match f with
      | .Name x _ => if c.glo x && noStar as then (match c.funs.lookup x with
        | some p => (match as with
          | [] => .never
          | _ => .call p.1 (compEs c n as))
        | none => if c.free.contains x then (match as with
          | [a] => if x = ("len" : Str) then .len (compE c n a) else (match lrOf c x a with
            | some b => .lrng (compE c n b)
            | none => (match biOf x 1 with
              | some p => .bi p (compEs c n [a])
              | none => .never))
          | [a, .Name y _] => if x = ("isinstance" : Str) then (match tyOf y with
            | some k => if c.blt y then .bi (.isT k) (.cons (compE c n a) .nil) else .never
            | none => .never) else (match biOf x 2 with
            | some p => .bi p (compEs c n as)
            | none => .never)
          | a :: rest => (match biOf x as.length with
            | some p => .bi p (compEs c n as)
            | none => .never)
          | _ => .never) else .never) else .never
      | .Attribute o m apos => if noStar as && !isCall o && (apos.endLine == pos.line) then (match muOf m as.length with
        | some u => .mut u (compE c n o) (compEs c n as)
        | none => (match meOf m as.length with
          | some u => .mth u (compE c n o) (compEs c n as)
          | none => if m = ("get" : Str) then (match as with
            | [a] => .get1 (compE c n o) (compE c n a)
            | [a, b] => .get2 (compE c n o) (compE c n a) (compE c n b)
            | _ => .never) else .never)) else .never
      | _ => .never)
    | [⟨some k, d, _⟩] => (match f, as with
      | .Name x _, [a] => if c.blt x && k == ("default" : Str) && !isStar a then (match bestOf x, d with
        | some p, .Constant cn _ _ => (match constD cn with
          | some z => .bi p (.cons (compE c n a) (.cons (.con z) .nil))
          | none => .never)
        | _, _ => .never) else .never
      | _, _ => .never)
    | _ => .never) else .never)
  | _ + 1, _ => .never
def compEs (c : CC) : Nat → List Expr → Es
  | 0, _ => .cons .never .nil
  | _ + 1, [] => .nil
  | n + 1, e :: es => .cons (compE c n e) (compEs c n es)
def compI (c : CC) : Nat → Expr → Expr → It
  | 0, _, _ => .seq .never
  | n + 1, tg, .Call f as kws pos => (match kws with
    | [] => (match f with
      | .Name x _ => if c.blt x && noStar as then (
        if x = ("range" : Str) then (match as with
          | [_] => .rng 1 (compEs c n as)
          | [_, _] => .rng 2 (compEs c n as)
          | [_, _, _] => .rng 3 (compEs c n as)
          | _ => .seq .never)
        else if x = ("enumerate" : Str) && isTupE tg then (match as with
          | [_] => .enum (compEs c n as)
          | _ => .seq .never)
        else if x = ("zip" : Str) && isTupE tg then (match as with
          | [_, _] => .zip (compEs c n as)
          | _ => .seq .never)
        else .seq (compE c n (.Call f as kws pos))) else .seq (compE c n (.Call f as kws pos))
      | _ => .seq (compE c n (.Call f as kws pos)))
    | _ => .seq .never)
  | n + 1, _, e => .seq (compE c n e)
end
end LT
/-! LtW: the tree does what the small language says. -/
namespace LT
open PySem L2
open PyProof.Rows
/-- the classes of exceptions: what is found of them in the module -/
structure ExF (G : GK) (mg : Str → Option Value) : Prop where
  glo : ∀ x k, G.tab.lookup x = some k → mg x = some (.ref (G.ex k)) ∧ k ≠ 10
  own : ∀ k, G.exIn k → k ≠ 4 → k ≠ 5 → PySem.W.excIn G.K (G.ex k) He.veBase "ValueError.__new__" = true ∧ PySem.W.keepIn G.K (.ref (G.ex k)) = true ∧ PySem.W.subIn G.K (.ref (G.ex k)) (.type "BaseException") = some true ∧ PySem.W.typeIn G.K (.ref (G.ex k)) = some (.type "type")
  exm : ∀ k j, G.exIn k → G.exIn j → PySem.W.exmOne G.K (.ref (G.ex k)) (.ref (G.ex j)) = some (catches j k)
  kit : ∀ k j, G.exIn k → G.exIn j → PySem.W.kitOne G.K (.ref (G.ex k)) (.ref (G.ex j)) = some (catches j k)
  kitV : ∀ k, G.exIn k → PySem.W.kitOne G.K (.ref (G.ex k)) (.type "ValueError") = some true
  isc : ∀ k, G.exIn k → L2.ExcC G.K (G.ex k)
/-- the context serves what it is read in -/
structure XOk (G : GK) (cl : Nat → List D → CR) (k : Nat) (c : CC) (X : Cx) (W : WX) : Prop where
  hK : X.K = G.K
  hw : X.w = G.w
  calm : c.calm = true → X.calm = true
  tk : Takes X W
  nd : X.N.Nodup
  hN : X.N = c.N
  room : c.calm = true → Room k X.A
  un : X.A.units + 65 < cLine
  kd : X.env.scope.kind = .function
  loc : ∀ x, c.kind x = some .local → X.env.scope.names.lookup x = some .local
  cel : ∀ x, c.kind x = some .cell → X.env.scope.names.lookup x = some .cell
  fre : ∀ x, c.kind x = some .free → X.env.scope.names.lookup x = some .free ∨ X.env.scope.names.lookup x = some .cell
  glo : ∀ x, c.kind x = some .globalImplicit → X.env.scope.names.lookup x = some .globalImplicit
  st : ∀ x, c.kind x = some .cell → X.fn x = true
  funs : ∀ x p, c.funs.lookup x = some p → ∃ f fd ps, X.mg x = some (.ref f) ∧ PySem.W.keepIn X.K (.ref f) = true ∧ Binds X.K fd ps [] ∧ FnOk X.prog X.w X.K X.mg X.base (L2.CX X.prog X.w) k f fd ps (spF G cl p.1 p.2)
  arity : ∀ x p, c.funs.lookup x = some p → ∀ ds, cl p.1 ds ≠ .err → ds.length = p.2
  free : ∀ x, c.free.contains x = true → X.mg x = none
  con : ∀ x d, c.con.lookup x = some d → ∃ u v, X.mg x = some u ∧ RelV v u ∧ d.own = false ∧ ∀ H A, Rep G H A d v no
  exf : ExF G X.mg
  tab : c.exc = G.tab
theorem okName_db {x : Str} (h : okName x = true) : (x == ("__debug__" : Str)) = false ∧ (x == ("__classdict__" : Str)) = false ∧ x ≠ ("__name__" : Str) := by
  unfold okName at h
  simp only [Bool.and_eq_true, bne_iff_ne, ne_eq] at h
  exact ⟨by simpa using h.1.1, by simpa using h.1.2, h.2⟩
section
variable {G : GK} {cl : Nat → List D → CR} {k : Nat} {c : CC} {X : Cx} {W : WX}
theorem XOk.vis (h : XOk G cl k c X W) {x : Str} {i : Nat} (e : c.slot x = some i) : X.N[i]? = some x ∧ Vis X.env.scope x ∧ (x == ("__debug__" : Str)) = false ∧ (x == ("__classdict__" : Str)) = false := by
  unfold CC.slot at e
  split at e
  · rename_i hv
    simp only [Bool.and_eq_true] at hv
    obtain ⟨_, h2⟩ := ixName_get e
    refine ⟨by rw [h.hN]; simpa using h2, ?_, (okName_db hv.2).1, (okName_db hv.2).2.1⟩
    have hv := hv.1
    cases ek : c.kind x with
    | none => rw [ek] at hv; cases hv
    | some kd =>
      rw [ek] at hv
      cases kd with
      | «local» => exact .inl (h.loc x ek)
      | cell => exact .inr (.inl (h.cel x ek))
      | free => exact (h.fre x ek).elim (fun z => .inr (.inr z)) fun z => .inr (.inl z)
      | _ => cases hv
  · cases e
theorem XOk.locl (h : XOk G cl k c X W) {x : Str} {i : Nat} (e : c.loc x = some i) : X.N[i]? = some x ∧ Loc X.env.scope x ∧ (X.fn x = true ∨ X.env.scope.names.lookup x = some .local) := by
  unfold CC.loc at e
  split at e
  · rename_i hv
    simp only [Bool.and_eq_true] at hv
    obtain ⟨_, h2⟩ := ixName_get e
    refine ⟨by rw [h.hN]; simpa using h2, ?_⟩
    have hv := hv.1
    cases ek : c.kind x with
    | none => rw [ek] at hv; cases hv
    | some kd =>
      rw [ek] at hv
      cases kd with
      | «local» => exact ⟨.inl (h.loc x ek), .inr (h.loc x ek)⟩
      | cell => exact ⟨.inr (h.cel x ek), .inl (h.st x ek)⟩
      | _ => cases hv
  · cases e
theorem XOk.gl (h : XOk G cl k c X W) {x : Str} (e : c.glo x = true) : Gl X x ∧ (x == ("__debug__" : Str)) = false ∧ x ≠ ("__name__" : Str) := by
  unfold CC.glo at e
  simp only [Bool.and_eq_true, beq_iff_eq] at e
  exact ⟨h.glo x e.1, (okName_db e.2).1, (okName_db e.2).2.2⟩
theorem lookup_relabel {env : PySem.Env} : ∀ {names : List (Str × NameKind)} {x : Str} {kd : NameKind}, names.lookup x = some kd →
    (names.map fun (n, k) => if (k == NameKind.free && env.scope.kind == .function && env.kindOf n == some .cell) then (n, NameKind.cell) else (n, k)).lookup x = some (if (kd == NameKind.free && env.scope.kind == .function && env.kindOf x == some .cell) then .cell else kd)
  | [], _, _, h => by simp at h
  | (n, k) :: r, x, kd, h => by
    rw [List.lookup_cons] at h
    rw [List.map_cons]
    by_cases e : (x == n) = true
    · rw [e] at h
      cases h
      obtain rfl : x = n := by simpa using e
      dsimp only
      split <;> simp
    · have e' : (x == n) = false := by simpa using e
      rw [e'] at h
      dsimp only
      have := lookup_relabel (env := env) h
      split <;> (rw [List.lookup_cons, e']; exact this)
theorem XOk.blk (h : XOk G cl k c X W) (s : Shared) (H : Hp) (scope : Scope) (hk : scope.kind = .function) (cells : List (Str × Addr)) (C : Addr) (fp : List Addr) : XOk G cl k { c with sc := scope } (X.blk s H scope (compEnvC scope cells C X.env) fp) (fun _ _ _ _ => False) where
  hK := h.hK
  hw := h.hw
  calm := h.calm
  tk := fun u s' ⟨a, B, sI, pins, σ, H, cls, d, e, I, nb, up, sky, na, os, ag, w⟩ => w.elim
  nd := h.nd
  hN := h.hN
  room := h.room
  un := h.un
  kd := hk
  loc := fun x e => (lookup_relabel (env := X.env) (show scope.names.lookup x = some .local from e)).trans (by simp)
  cel := fun x e => (lookup_relabel (env := X.env) (show scope.names.lookup x = some .cell from e)).trans (by simp)
  fre := fun x e => by
    have := lookup_relabel (env := X.env) (show scope.names.lookup x = some .free from e)
    by_cases q : (NameKind.free == NameKind.free && X.env.scope.kind == .function && X.env.kindOf x == some .cell) = true
    · rw [if_pos q] at this; exact .inr this
    · rw [if_neg q] at this; exact .inl this
  glo := fun x e => (lookup_relabel (env := X.env) (show scope.names.lookup x = some .globalImplicit from e)).trans (by simp)
  st := fun x e => by
    show (scope.names.lookup x == some .cell) = true
    rw [show scope.names.lookup x = some .cell from e]
    decide
  funs := h.funs
  arity := h.arity
  free := h.free
  con := h.con
  exf := h.exf
  tab := h.tab
theorem XOk.hu (h : XOk G cl k c X W) : X.A.units + 65 < cLine := h.un
theorem starEach_ns {e : Expr} {es : List Expr} {env : PySem.Env} (h : isStar e = false) : starEach (e :: es) env = (false, eval e env) :: starEach es env := by
  cases e <;> first | rfl | cases h
theorem plain_ns {pos : Pos} {env : PySem.Env} : ∀ {es : List Expr}, noStar es = true → (backTo pos (starEach es env)).any (·.1) = false
  | [], _ => rfl
  | e :: es, h => by
    simp only [noStar, List.all_cons, Bool.and_eq_true, Bool.not_eq_true'] at h
    rw [starEach_ns h.1]
    show (false || _) = false
    rw [Bool.false_or]
    exact plain_ns h.2
theorem noStar_cons {e : Expr} {es : List Expr} (h : noStar (e :: es) = true) : isStar e = false ∧ noStar es = true := by
  simpa only [noStar, List.all_cons, Bool.and_eq_true, Bool.not_eq_true'] using h
variable {C : Fc} {e : Expr} {sm : Bool} {ev : Env → R T}
theorem smpF (h : PE X e (tE G C W sm ev)) : PE X e (tE G C W false ev) := PE.mono h fun σ H Q ⟨tm, env, F, hr, k⟩ => ⟨tm, env, F, fun _ => hr rfl, by
  cases ee : ev env with
  | err => rw [ee] at k; exact k
  | exc x e => rw [ee] at k; exact k
  | ok t e => rw [ee] at k; exact fun v H' F' _ => k v H' F' fun z => by cases z⟩
theorem smpT {evt : Env → R Bool} (h : PT X e (tT G C W sm evt)) : PT X e (tT G C W false evt) := PT.mono h fun σ H Q ⟨tm, env, F, hr, k⟩ => ⟨tm, env, F, fun _ => hr rfl, by
  cases ee : evt env with
  | err => rw [ee] at k; exact k
  | exc x e => rw [ee] at k; exact k
  | ok t e => rw [ee] at k; exact fun H' F' _ => k H' F' fun z => by cases z⟩
theorem se_never : PE X e (tE G C W sm (fun _ => .err)) := ⟨fun pins s σ H Q I ⟨tm, env, F, hr, k⟩ => k.elim⟩
theorem evE_never : evE cl .never = fun _ => .err := by funext e; rw [evE]
theorem tru_ns {whole : Sem Value} (h1 : ∀ x p, e ≠ .UnaryOp .Not x p) (h2 : ∀ o x p, e ≠ .BoolOp o x p) (h3 : ∀ a b d p, e ≠ .IfExp a b d p) (h4 : ∀ a b d p, e ≠ .Compare a b d p) : isTrue e X.env whole = (do let v ← whole; standAt e.pos; holding [v] (truthy v)) := by
  cases e <;> first
    | rfl
    | exact absurd rfl (h2 _ _ _)
    | exact absurd rfl (h3 _ _ _ _)
    | exact absurd rfl (h4 _ _ _ _)
    | skip
  rename_i op x p
  cases op <;> first | rfl | exact absurd rfl (h1 _ _)
end
end LT
/-! LtEx: classes of exceptions: isinstance. -/
namespace LT
open PySem L2
open PyProof.Rows
section
variable {X : Cx}
/-- the object of an exception that is in the heap -/
structure ExO (K : PySem.W.Frag) (H : Hp) (a D : Addr) (oe : Obj) : Prop where
  at_ : H a = some (.frz oe (exU a oe))
  cls : oe.cls = .ref D
  dict : oe.dict = none
  flds : ∃ vs, oe.data = .fields vs
  isc : ExcC K D
theorem ExO.inst {K : PySem.W.Frag} {H : Hp} {a D : Addr} {oe : Obj} {h : Heap} (x : ExO K H a D oe) {P : Program} {w : World} (ok : HOk P w H h) : PySem.W.InstAt h a oe D none := by
  obtain ⟨hget, _⟩ := ok a _ x.at_
  obtain ⟨vs, hv⟩ := x.flds
  obtain ⟨oc, od, oda, osl⟩ := oe
  have h1 := x.cls
  have h2 := x.dict
  dsimp only at h1 h2 hv
  subst h1 h2 hv
  exact ⟨hget, rfl, rfl, trivial⟩
theorem call_isF : CallR X (.builtin "isinstance") (fun xs H Q => ∃ (a D : Addr) (oe : Obj) (c : V) (cv : Value) (b : Bool), xs = [.ref a, c] ∧ ExO X.K H a D oe ∧ (∀ u, RelV c u → u = cv) ∧ PySem.W.kitOne X.K (.ref D) cv = some b ∧ Q (.bl b) H) := by
  intro pins s σ H xs us Q I r h
  obtain ⟨a, D, oe, c, cv, b, rfl, x, hcv, e, q⟩ := h
  obtain ⟨u1, u2, rfl, r1, r2⟩ := vals2 r
  cases r1
  have ec := hcv _ r2
  subst ec
  exact PySem.W.kia_one (PySem.W.handS_kitx_exc x.isc.hg x.isc.hk x.isc.hs x.isc.hd x.isc.ha x.isc.hn x.isc.ht x.isc.hm) I.kIn (x.inst I.hok) e (fun z => nomatch z) fun tk => ⟨.bl b, H, I.tok tk, rfl, q⟩
theorem call_isFT : CallR X (.builtin "isinstance") (fun xs H Q => ∃ (a D tp : Addr) (oe : Obj) (cs : List V) (us : List Value) (b : Bool), xs = [.ref a, .ref tp] ∧ ExO X.K H a D oe ∧ H tp = some (.tup cs) ∧ Paired (fun c cv => ∀ u, RelV c u → u = cv) cs us ∧ PySem.W.kitAny X.K (.ref D) us = some b ∧ Q (.bl b) H) := by
  intro pins s σ H xs us Q I r h
  obtain ⟨a, D, tp, oe, cs, ws, b, rfl, x, hT, k, e, q⟩ := h
  obtain ⟨u1, u2, rfl, r1, r2⟩ := vals2 r
  cases r1
  cases r2
  obtain ⟨hlen, its, rv, o, h1, h2, n, h3⟩ := (show ObjOk X.prog X.w H s.heap tp (.tup cs) from I.hok tp _ hT)
  have e2 : its = ws := by
    clear h3 h2 h1 hT e q hlen
    induction rv generalizing ws with
    | nil => cases k; rfl
    | cons ru rr ih =>
      cases k with
      | cons hk kk => rw [hk _ ru, ih _ kk]
  subst e2
  obtain ⟨oc, od, oda, osl⟩ := o
  dsimp only at h2 h3
  subst h2 h3
  exact PySem.W.kia_tup (PySem.W.handS_kitx_exc x.isc.hg x.isc.hk x.isc.hs x.isc.hd x.isc.ha x.isc.hn x.isc.ht x.isc.hm) I.kIn (x.inst I.hok) h1 e (fun z => nomatch z) fun tk => ⟨.bl b, H, I.tok tk, rfl, q⟩
end
section
variable {G : GK} {cl : Nat → List D → CR} {k : Nat} {c : CC} {X : Cx} {W : WX} {C : Fc} {sa : Bool} {a : Expr} {eva : Env → R T}
def excV (G : GK) (k : Nat) : V := if k = 10 then .ty "ValueError" else .ref (G.ex k)
def excU (G : GK) (k : Nat) : Value := if k = 10 then .type "ValueError" else .ref (G.ex k)
theorem excR (G : GK) (k : Nat) : RelV (excV G k) (excU G k) := by
  unfold excV excU
  split <;> rfl
theorem excR_uq (G : GK) (k : Nat) : ∀ u, RelV (excV G k) u → u = excU G k := by
  unfold excV excU
  split <;> exact fun u h => h
theorem excOf_pe (h : XOk G cl k c X W) {y : Str} {j : Nat} {p : Pos} (e : c.excOf y = some j) : PE X (.Name y p) (tC (excV G j)) ∧ (j = 10 ∨ G.exIn j) := by
  unfold CC.excOf at e
  split at e
  · rename_i hg
    obtain ⟨g1, g2, g3⟩ := h.gl hg
    rw [h.tab] at e
    cases q : G.tab.lookup y with
    | some i =>
      rw [q] at e
      cases e
      obtain ⟨h1, h2⟩ := h.exf.glo y j q
      refine ⟨pe_glob g1 h1 ?_ g2, .inr ⟨y, q⟩⟩
      unfold excV
      rw [if_neg h2]
      rfl
    | none =>
      rw [q] at e
      dsimp only at e
      split at e
      · rename_i hf
        cases e
        simp only [Bool.and_eq_true, beq_iff_eq] at hf
        obtain ⟨hf, rfl⟩ := hf
        exact ⟨pe_bltn (u := .type "ValueError") g1 (h.free _ hf) (by decide +kernel) rfl (by decide) (by decide), .inl rfl⟩
      · cases e
  · cases e
theorem kit_of1 (h : ExF G X.mg) {i j : Nat} (hi : G.exIn i) (hj : j = 10 ∨ G.exIn j) : PySem.W.kitOne G.K (.ref (G.ex i)) (excU G j) = some (catches j i) := by
  unfold excU
  by_cases q : j = 10
  · subst q
    rw [if_pos rfl, h.kitV i hi]
    rfl
  · rw [if_neg q]
    exact h.kit i j hi (hj.resolve_left q)
theorem kit_ofA (h : ExF G X.mg) {i : Nat} (hi : G.exIn i) : ∀ {ks : List Nat}, (∀ k ∈ ks, k = 10 ∨ G.exIn k) → PySem.W.kitAny G.K (.ref (G.ex i)) (ks.map (excU G)) = some (ks.any fun c => catches c i)
  | [], _ => rfl
  | j :: ks, hk => by
    rw [List.map_cons]
    unfold PySem.W.kitAny
    rw [kit_of1 h hi (hk j List.mem_cons_self)]
    rw [List.any_cons]
    cases catches j i with
    | true => rfl
    | false => exact kit_ofA h hi fun k m => hk k (List.mem_cons_of_mem _ m)
theorem excsOf_pa (h : XOk G cl k c X W) : ∀ {es : List Expr} {ks : List Nat}, excsOf c es = some ks → PA X es (fun _ H Q => Q (ks.map (excV G)) H) ∧ (∀ k ∈ ks, k = 10 ∨ G.exIn k) ∧ ks.length = es.length
  | [], ks, e => by
    simp only [excsOf, Option.some.injEq] at e
    subst e
    exact ⟨pa_nil, by simp, rfl⟩
  | e0 :: es, ks, e => by
    cases e0 <;> try (simp only [excsOf] at e; cases e; done)
    rename_i y p
    simp only [excsOf] at e
    split at e
    · rename_i j js e1 e2
      cases e
      obtain ⟨p1, q1⟩ := excOf_pe (p := p) h e1
      obtain ⟨p2, q2, l2⟩ := excsOf_pa h e2
      refine ⟨pa_cons p1 p2, fun k m => ?_, by simp [l2]⟩
      rcases List.mem_cons.mp m with rfl | m
      · exact q1
      · exact q2 k m
    · cases e
/-- isinstance of an exception -/
def isEK (ks : List Nat) (t : T) (e : Env) : R T := match t with
  | .val (.exn k _) => .ok (.val (.bl (ks.any fun c => catches c k))) e
  | _ => .err
theorem FR.exn {σ : L2.St} {tm : Tm} {env : Env} {H : Hp} {v : V} {j : Nat} {fs : List D} (F : FR G C σ (tm ++ [(v, .val (.exn j fs))]) env H) : ∃ a oe, v = .ref a ∧ H a = some (.frz oe (exU a oe)) ∧ oe.cls = .ref (G.ex j) ∧ oe.dict = none ∧ (∃ vs, oe.data = .fields vs) ∧ G.exIn j := by
  obtain ⟨O, O1, _, r⟩ := F.top
  simp only [Rep] at r
  obtain ⟨a, oe, e, h1, h2, h3, h4, _, h5⟩ := r
  exact ⟨a, oe, e, h1, h2, h3, h4, h5⟩
theorem se_isE1 (h : XOk G cl k c X W) {x y : Str} {j : Nat} {p p2 pos : Pos} (hx : x = ("isinstance" : Str)) (hg : Gl X x) (hm : X.mg x = none) (e1 : c.excOf y = some j) (he : starEach [a, .Name y p2] X.env = (false, eval a X.env) :: starEach [.Name y p2] X.env) (ha : PE X a (tE G C W sa eva)) :
    PE X (.Call (.Name x p) [a, .Name y p2] [] pos) (tE G C W false (fun e => (eva e).bind (isEK [j]))) := by
  subst hx
  obtain ⟨p1, q1⟩ := excOf_pe (p := p2) h e1
  refine PE.mono (pe_callB call_isF hg hm PyProof.Rows.boot_isinstance (pa_cons ha (pa_cons p1 pa_nil rfl) he) (by decide) (by decide) he (by rfl)) fun σ H Q h' => ?_
  refine tE_bind (fun z => by cases z) h' fun tm v t env H1 F hr s kk => ?_
  unfold isEK at kk
  split at kk
  · rename_i i fs
    obtain ⟨b, oe, rfl, g1, g2, g3, g4, g5⟩ := F.exn
    refine ⟨b, G.ex i, oe, _, excU G j, _, rfl, ?_, excR_uq G j, by rw [h.hK]; exact kit_of1 h.exf g5 q1, ?_⟩
    · rw [h.hK]
      exact ⟨g1, g2, g3, g4, h.exf.isc i g5⟩
    · simp only [List.any_cons, List.any_nil, Bool.or_false] at kk
      exact Done.scal F s kk rfl fun A => rfl
  · exact kk.elim
theorem paired_exc (G : GK) : ∀ ks : List Nat, Paired (fun c cv => ∀ u, RelV c u → u = cv) (ks.map (excV G)) (ks.map (excU G))
  | [] => .nil
  | k :: ks => .cons (excR_uq G k) (paired_exc G ks)
theorem se_isET (h : XOk G cl k c X W) {x : Str} {ks : List Nat} {es : List Expr} {x1 : Nat} {p p2 pos : Pos} (hx : x = ("isinstance" : Str)) (hg : Gl X x) (hm : X.mg x = none) (e1 : excsOf c es = some ks) (hz : es.length ≤ 1000) (he : starEach [a, .Tuple es x1 p2] X.env = (false, eval a X.env) :: starEach [.Tuple es x1 p2] X.env) (ha : PE X a (tE G C W sa eva)) :
    PE X (.Call (.Name x p) [a, .Tuple es x1 p2] [] pos) (tE G C W false (fun e => (eva e).bind (isEK ks))) := by
  subst hx
  obtain ⟨p1, q1, l1⟩ := excsOf_pa h e1
  refine PE.mono (pe_callB call_isFT hg hm PyProof.Rows.boot_isinstance (pa_cons ha (pa_cons (pe_tup p1) pa_nil rfl) he) (by decide) (by decide) he (by rfl)) fun σ H Q h' => ?_
  refine tE_bind (fun z => by cases z) h' fun tm v t env H1 F hr s kk => ?_
  unfold isEK at kk
  split at kk
  · rename_i i fs
    obtain ⟨b, oe, rfl, g1, g2, g3, g4, g5⟩ := F.exn
    refine ⟨by rw [List.length_map, l1, ← sizeL_eq]; exact Nat.le_trans hz (by decide), fun tp ht => ?_⟩
    have nb : b ≠ tp := ne_of_none g1 ht
    refine ⟨b, G.ex i, tp, oe, _, _, _, rfl, ?_, upd_same, paired_exc G ks, by rw [h.hK]; exact kit_ofA h.exf g5 q1, ?_⟩
    · rw [h.hK]
      exact ⟨by rw [upd_ne nb]; exact g1, g2, g3, g4, h.exf.isc i g5⟩
    · obtain ⟨O, F⟩ := F
      exact kk _ _ ⟨O, (F.pop.same (Same.upd ht)).push0 (fun _ _ z => z) rfl (O1 := no) rfl⟩ fun z => by cases z
  · exact kk.elim
end
end LT
/-! LtX: the tree does what the small language says: expressions. -/
namespace LT
open PySem L2
open PyProof.Rows
mutual
noncomputable def gOf (K : PySem.W.Frag) (c : CC) : Nat → Expr → TG
  | 0, _ => gName 0
  | n + 1, .Name x _ => gName ((c.loc x).getD 0)
  | n + 1, .Tuple es _ _ => gTup K es.length (gsOf K c n es)
  | _ + 1, _ => gName 0
noncomputable def gsOf (K : PySem.W.Frag) (c : CC) : Nat → List Expr → TGs
  | 0, _ => gNil
  | n + 1, [] => gNil
  | n + 1, e :: es => gCons (gOf K c n e) (gsOf K c n es)
end
section
variable {G : GK} {cl : Nat → List D → CR} {k : Nat} {c : CC} {X : Cx} {W : WX} {C : Fc}
theorem assignEach_ns {e : Expr} {es : List Expr} {env : PySem.Env} (h : isStar e = false) : assignEach (e :: es) env = (false, assign e env) :: assignEach es env := by
  cases e <;> first | rfl | cases h
theorem assignEach_len {env : PySem.Env} : ∀ {es : List Expr}, noStar es = true → (assignEach es env).length = es.length
  | [], _ => rfl
  | e :: es, h => by
    obtain ⟨h1, h2⟩ := noStar_cons h
    rw [assignEach_ns h1, List.length_cons, List.length_cons, assignEach_len h2]
theorem assignEach_idx {env : PySem.Env} : ∀ {es : List Expr}, noStar es = true → (assignEach es env).findIdx? (·.1) = none
  | [], _ => rfl
  | e :: es, h => by
    obtain ⟨h1, h2⟩ := noStar_cons h
    rw [assignEach_ns h1, List.findIdx?_cons, if_neg (by simp), assignEach_idx h2]
    rfl
theorem asgTD_cons_nx {ln : List Nat} {t ts : Tg} {d : D} {e e' : Env} (h : asgTD ln (.cons t ts) d e = .nx e') : ∃ x xs e1, d = .tup (x :: xs) ∧ asgTD ln ts (.tup xs) e1 = .nx e' := by
  cases d <;> first | (simp only [asgTD] at h; cases h; done) | skip
  rename_i xs
  cases xs with
  | nil => simp only [asgTD] at h; cases h
  | cons x xs =>
    simp only [asgTD] at h
    cases e1 : asgTD ln t x e with
    | nx e2 => rw [e1] at h; exact ⟨x, xs, e2, rfl, h⟩
    | _ => rw [e1] at h; cases h
theorem tg_ok (h : XOk G cl k c X W) : ∀ n, (∀ e t, tgOf c n e = some t → TgOk G X e t (gOf G.K c n e)) ∧
    ∀ es t, noStar es = true → tgsOf c n es = some t → TgsOk G X es t (gsOf G.K c n es) ∧ (∀ ln ds e e', asgTD ln t (.tup ds) e = .nx e' → ds.length = es.length) ∧ ∀ ln d e e', asgTD ln t d e = .nx e' → ∃ ds, d = .tup ds
  | 0 => ⟨fun e t q => by simp [tgOf] at q, fun es t _ q => by simp [tgsOf] at q⟩
  | n + 1 => by
    obtain ⟨ih1, ih2⟩ := tg_ok h n
    refine ⟨fun e t q => ?_, fun es t hs q => ?_⟩
    · cases e <;> try (simp only [tgOf] at q; cases q; done)
      · rename_i x p
        simp only [tgOf] at q
        obtain ⟨i, e1, rfl⟩ := Option.map_eq_some_iff.mp q
        obtain ⟨h1, h2, h3⟩ := h.locl e1
        simp only [gOf, e1, Option.getD_some]
        exact tg_v (pg_name h.nd h1 h2 h3)
      · rename_i es kk p
        simp only [tgOf] at q
        split at q
        · rename_i hs
          rw [Bool.and_eq_true] at hs
          obtain ⟨hcalm, hs⟩ := hs
          obtain ⟨h1, h2, h3⟩ := ih2 es t hs q
          simp only [gOf]
          rw [← h.hK]
          rw [← h.hK] at h1
          exact tg_tup h.hK (h.calm hcalm) h1 (assignEach_len hs) (assignEach_idx hs) h2 h3
        · cases q
    · cases es with
      | nil =>
        simp only [tgsOf, Option.some.injEq] at q
        subst q
        refine ⟨tgs_nil, fun ln ds e e' z => ?_, fun ln d e e' z => ?_⟩
        · cases ds with
          | nil => rfl
          | cons x xs => simp only [asgTD] at z; cases z
        · cases d <;> first | (simp only [asgTD] at z; cases z; done) | exact ⟨_, rfl⟩
      | cons e es =>
        simp only [tgsOf] at q
        split at q
        · rename_i t1 ts e1 e2
          cases q
          obtain ⟨hs1, hs2⟩ := noStar_cons hs
          obtain ⟨h1, h2, h3⟩ := ih2 es ts hs2 e2
          simp only [gsOf]
          refine ⟨tgs_cons (ih1 e t1 e1) h1 (by rw [assignEach_ns hs1]; rfl), fun ln ds e e' z => ?_, fun ln d e e' z => ?_⟩
          · obtain ⟨x, xs, e1, q, z'⟩ := asgTD_cons_nx z
            cases q
            rw [List.length_cons, List.length_cons, h2 _ _ _ _ z']
          · obtain ⟨x, xs, e1, q, z'⟩ := asgTD_cons_nx z
            exact ⟨_, q⟩
        · cases q
/-- what is shown at each depth -/
structure Ok (G : GK) (cl : Nat → List D → CR) (k : Nat) (n : Nat) : Prop where
  e : ∀ c X W, XOk G cl k c X W → ∀ C e, PE X e (tE G C W (compE c n e).simple (evE cl (compE c n e)))
  t : ∀ c X W, XOk G cl k c X W → ∀ C e, PT X e (tT G C W false (asT (evE cl (compE c n e))))
  es : ∀ c X W, XOk G cl k c X W → ∀ C es, noStar es = true → PA X es (tEs G C W (compEs c n es).simple (evEs cl (compEs c n es)))
  i : ∀ c X W, XOk G cl k c X W → ∀ C tg it, PI X tg it (tI G C W (evI cl (compI c n tg it)))
  b : ∀ c X W, XOk G cl k c X W → ∀ C op vs p, PW X (.BoolOp op vs p) (tT G C W false (asT (evE cl (compE c n (.BoolOp op vs p)))))
theorem st_never {e : Expr} {sm : Bool} : PT X e (tT G C W sm (asT fun _ => .err)) := ⟨fun pins s σ H Q I ⟨tm, env, F, hr, k⟩ => k.elim⟩
theorem sa_never {es : List Expr} {sm : Bool} {evs : Env → R (List T)} (h : ∀ e, evs e = .err) : PA X es (tEs G C W sm evs) := ⟨fun pos pins s σ H Q I ⟨tm, env, F, hr, k⟩ => by rw [h] at k; exact k.elim⟩
theorem si_never {tg it : Expr} {evi : Env → R (List D × List T)} (h : ∀ e, evi e = .err) : PI X tg it (tI G C W evi) := ⟨fun pins s σ H Q I ⟨tm, env, F, hr, k⟩ => by rw [h] at k; exact k.elim⟩
theorem evs_never : ∀ e, evEs cl (.cons .never .nil) e = .err := fun e => by rw [evEs, evE]; rfl
theorem ok0 : Ok G cl k 0 where
  e := fun c X W _ C e => by simp only [compE]; rw [evE_never]; exact se_never
  t := fun c X W _ C e => by simp only [compE]; rw [evE_never]; exact st_never
  es := fun c X W _ C es _ => by simp only [compEs]; exact sa_never evs_never
  i := fun c X W _ C tg it => by simp only [compI]; exact si_never fun e => by rw [evI, evE]; rfl
  b := fun c X W _ C op vs p => by simp only [compE]; exact ⟨fun whole pins s σ H Q I ⟨tm, env, F, hr, k⟩ => by rw [evE_never] at k; exact k.elim⟩
theorem es_ok {n : Nat} (ok : Ok G cl k n) (h : XOk G cl k c X W) (es : List Expr) (hs : noStar es = true) : PA X es (tEs G C W (compEs c (n + 1) es).simple (evEs cl (compEs c (n + 1) es))) := by
  cases es with
  | nil =>
    simp only [compEs, Es.simple]
    have : evEs cl .nil = fun e => .ok [] e := by funext e; rw [evEs]
    rw [this]
    exact sa_nil
  | cons e es =>
    obtain ⟨h1, h2⟩ := noStar_cons hs
    simp only [compEs, Es.simple]
    have : evEs cl (.cons (compE c n e) (compEs c n es)) = fun e' => (evE cl (compE c n e) e').bind fun t e => if t.root || (compEs c n es).simple then (evEs cl (compEs c n es) e).bind fun ts e => .ok (t :: ts) e else .err := by funext e'; rw [evEs]
    rw [this]
    exact sa_cons (ok.e c X W h C e) (ok.es c X W h C es h2) (starEach_ns h1)
def Es.len : Es → Nat
  | .nil => 0
  | .cons _ es => es.len + 1
theorem evEs_len : ∀ (as : Es) {e e' : Env} {ts : List T}, evEs cl as e = .ok ts e' → ts.length = as.len
  | .nil, e, e', ts, h => by
    rw [evEs] at h
    cases h; rfl
  | .cons a as, e, e', ts, h => by
    rw [evEs] at h
    cases ea : evE cl a e with
    | err => rw [ea] at h; cases h
    | exc x e1 => rw [ea] at h; cases h
    | ok t e1 =>
      rw [ea] at h
      simp only [R.bind_ok] at h
      split at h
      · cases es : evEs cl as e1 with
        | err => rw [es] at h; cases h
        | exc x e2 => rw [es] at h; cases h
        | ok ts' e2 =>
          rw [es] at h
          cases h
          simp only [List.length_cons, Es.len, evEs_len as es]
      · cases h
theorem compEs_len : ∀ {n : Nat} {es : List Expr}, (compEs c n es).len ≤ es.length + 1
  | 0, es => by simp only [compEs, Es.len]; omega
  | n + 1, [] => by simp only [compEs, Es.len]; omega
  | n + 1, e :: es => by
    have := compEs_len (n := n) (es := es)
    simp only [compEs, Es.len, List.length_cons]; omega
theorem few {n : Nat} {es : List Expr} (hz : es.length ≤ 1000) : ∀ e ts e', evEs cl (compEs c n es) e = .ok ts e' → ts.length ≤ sizeLine := fun e ts e' h => by
  have h1 := evEs_len _ h
  have h2 := compEs_len (c := c) (n := n) (es := es)
  rw [← sizeL_eq]
  have : sizeL = 16777216 := rfl
  omega
/-- the tests -/
theorem st_of {n : Nat} {e : Expr} {ir : E} (hp : PE X e (tE G C W ir.simple (evE cl ir))) (hb : ∀ whole, isTrue e X.env whole = (do let v ← whole; standAt e.pos; holding [v] (truthy v))) : PT X e (tT G C W false (asT (evE cl ir))) := smpT (st_val hp hb)
theorem pw_tt {a : Expr} {sm : Bool} {ta : Env → R Bool} {op : BoolOp} {pos : Pos} (ha : PT X a (tT G C W sm ta)) : PW X (.BoolOp op [a] pos) (tT G C W sm ta) := by
  cases op
  · exact pw_and1 ha
  · exact pw_or1 ha
theorem asT_and {a b : E} : asT (evE cl (.and a b)) = thenB (asT (evE cl a)) (asT (evE cl b)) := by
  funext e
  unfold asT thenB
  rw [evE]
  dsimp only
  generalize evE cl a e = r
  cases r with
  | err => rfl
  | exc x e1 => rfl
  | ok t e1 =>
    simp only [R.bind_ok]
    cases bool1 t with
    | none => rfl
    | some x => cases x <;> rfl
theorem asT_or {a b : E} : asT (evE cl (.or a b)) = elseB (asT (evE cl a)) (asT (evE cl b)) := by
  funext e
  unfold asT elseB
  rw [evE]
  dsimp only
  generalize evE cl a e = r
  cases r with
  | err => rfl
  | exc x e1 => rfl
  | ok t e1 =>
    simp only [R.bind_ok]
    cases bool1 t with
    | none => rfl
    | some x => cases x <;> rfl
theorem asT_not {a : E} : asT (evE cl (.not a)) = fun e => (asT (evE cl a) e).bind fun b e => .ok (!b) e := by
  funext e
  unfold asT
  rw [evE]
  generalize evE cl a e = r
  cases r with
  | err => rfl
  | exc x e1 => rfl
  | ok t e1 =>
    simp only [R.bind_ok, notT]
    cases bool1 t with
    | none => rfl
    | some x => cases x <;> rfl
theorem pes_of {ir : E} {e : Expr} {sm : Bool} {ev : Env → R T} (hp : PE X e (tE G C W sm ev)) (h : evE cl ir = ev) (hs : ir.simple = sm ∨ ir.simple = false) : PE X e (tE G C W ir.simple (evE cl ir)) := by
  rw [h]
  rcases hs with hs | hs
  · rw [hs]; exact hp
  · rw [hs]; exact smpF hp
theorem ev_bin {o : Op} {a b : E} : evE cl (.bin o a b) = fun e => (evE cl a e).bind fun t e => if t.root || b.simple then (evE cl b e).bind fun u e => (rs t e).bind fun x e => (rs u e).bind fun y e => (R.of (binop o x y) e).bind fun z e => .ok (.val z) e else .err := by funext e; rw [evE]
theorem ev_cmp {o : Cm} {a b : E} : evE cl (.cmp o a b) = fun e => (evE cl a e).bind fun t e => if t.root || b.simple then (evE cl b e).bind fun u e => (rs t e).bind fun x e => (rs u e).bind fun y e => (R.of ((cmpop o x y).map .bl) e).bind fun z e => .ok (.val z) e else .err := by funext e; rw [evE]
theorem ev_bi {p : Bi} {as : Es} : evE cl (.bi p as) = fun e => (evEs cl as e).bind fun ts e => (rsL ts e).bind fun ds e => (R.of (bi p ds) e).bind fun z e => .ok (.val z) e := by funext e; rw [evE]
theorem ev_call {j : Nat} {as : Es} : evE cl (.call j as) = fun e => (evEs cl as e).bind fun ts e => callT cl j ts e := by funext e; rw [evE]
theorem name_ok {n : Nat} (h : XOk G cl k c X W) (x : Str) (p : Pos) : PE X (.Name x p) (tE G C W (compE c (n + 1) (.Name x p)).simple (evE cl (compE c (n + 1) (.Name x p)))) := by
  simp only [compE]
  cases es : c.slot x with
  | some i =>
    obtain ⟨h1, h2, h3, h4⟩ := h.vis es
    have := se_var (G := G) (C := C) (W := W) (pe_var (pos := p) h1 h2 h3 h4)
    exact pes_of this (by funext e; first | (rw [evE]; done) | (rw [evE]; rfl)) (.inl rfl)
  | none =>
    dsimp only
    by_cases hg : c.glo x = true
    · rw [if_pos hg]
      cases ec : c.con.lookup x with
      | none => dsimp only; rw [evE_never]; exact se_never
      | some d =>
        obtain ⟨u, v, h1, h2, h3, h4⟩ := h.con x d ec
        obtain ⟨g1, g2, g3⟩ := h.gl hg
        exact pes_of (se_con (fun H A => h4 H A) h3 (pe_glob (pos := p) g1 h1 h2 g2)) (by funext e; rw [evE]) (.inl rfl)
    · rw [if_neg hg, evE_never]; exact se_never
theorem con_ok {n : Nat} {cn : Const} {kk : Nat} {p : Pos} : PE X (.Constant cn kk p) (tE G C W (compE c (n + 1) (.Constant cn kk p)).simple (evE cl (compE c (n + 1) (.Constant cn kk p)))) := by
  simp only [compE]
  cases cn <;> simp only [constD] <;> try (rw [evE_never]; exact se_never)
  · exact pes_of (se_con (d := .non) (v := .non) (fun H A => by simp [Rep]) rfl pe_non) (by funext e; rw [evE]) (.inl rfl)
  · rename_i b; exact pes_of (se_con (d := .bl b) (v := .bl b) (fun H A => by simp [Rep]) rfl pe_bl) (by funext e; rw [evE]) (.inl rfl)
  · rename_i b; exact pes_of (se_con (d := .int b) (v := .int b) (fun H A => by simp [Rep]) rfl pe_int) (by funext e; rw [evE]) (.inl rfl)
  · rename_i b; exact pes_of (se_con (d := .str b.cps.toList) (v := .str b) (fun H A => by simp [Rep, sOf]) rfl pe_str) (by funext e; rw [evE]) (.inl rfl)
end
end LT
/-! LtDg: a display of one pair; d.get(k), d.get(k, x). -/
namespace LT
open PySem L2
section
open PySem.Spec PyProof.Rows
variable {X : Cx} {pins : List (Addr × Obj)} {σ : L2.St} {H : Hp} {s : Shared} {a : Addr} {y v : V} {u r : Value} {o : Option V} {A : Around} {E : Value → Shared → Prop}
theorem x_dictSet {H' : Hp} {Q : Unit → Shared → Prop} (hu : A.units + 9 < cLine) (I : Inv X pins σ H s) (g : XPut X.K X.w H a y v H') (ry : RelV y u) (rv : RelV v r) (h : ∀ s', Inv X pins σ H' s' → Q () s') :
    wpAny (model X.prog X.w) A (dictSet a u r) Q E s := by
  rcases g with (⟨kvs, k, e, ey, l, eH⟩ | ⟨kvs, k, b, e, ey, eb, l, eH⟩) | ⟨xs, k, b, e, ey, hk, hd8, hx, l, eH⟩
  · subst ey eH
    obtain ⟨z, hd, vs, rel, dd⟩ := dk_of I.hok e
    have hz : vs.length ≤ sizeLine := by rw [← rel.length]; exact z
    have hl : (putK kvs k v).length ≤ sizeLine := by have := length_putK kvs k v; omega
    refine wpAny_dictSet_pairs (hsz := hz) (kV_is ry) dd fun h' dd' hs => h _ ?_
    have he : ∃ q, h'.get? a = some q := let ⟨q, _, _, hq, _⟩ := dd'; ⟨q, hq⟩
    exact d_write I (by rw [e]; exact True.intro) hs he (dk_new hl hd (rel.put k rv) dd')
  · subst ey eH
    cases (show u = Value.ref b from ry)
    obtain ⟨z, hd, xs, rel, dd⟩ := dt_of I.hok e
    have hz : xs.length ≤ sizeLine := by rw [← Paired.length rel]; exact z
    have hl : (putK kvs k v).length ≤ sizeLine := by have := length_putK kvs k v; omega
    refine wpAny_dictSet_heap (hsz := hz) (by show A.units < cLine; omega) (key_of I.hok eb) dd fun h' dd' hs => h _ ?_
    obtain ⟨q, es, ep, hq, h2, h3, h4, _, h5⟩ := dd'
    refine d_write I (by rw [e]; exact True.intro) hs ⟨q, hq⟩ ⟨hl, hd, _, (rel.put k eb rv).keeps fun c ys ec => ?_, q, es, ep, hq, h2, h3, h4, h5⟩
    rw [upd_ne (ne_of ec e (fun z => nomatch z))]
    exact ec
  · obtain ⟨z, hd, ys, rel, dd⟩ := nk_held I e hx
    subst ey eH
    cases (show u = Value.ref b from ry)
    have hz : ys.length ≤ sizeLine := by rw [← Paired.length rel]; exact z
    have hl : (storedX xs k b v).length ≤ sizeLine := by have := stored_len xs k b v; omega
    refine wpAny_dictSet_heap (knd := nestedKind X.prog X.w) (hsz := hz) (by show A.units + 8 < cLine; omega) ⟨NkV.is I _ _ _ hk rfl, hd8⟩ dd fun h' dd' hs => h _ ?_
    obtain ⟨q, es, ep, hq, h2, h3, h4, _, h5⟩ := dd'
    refine d_write I (by rcases e with e | ⟨_, e⟩ <;> (rw [e]; exact True.intro)) hs ⟨q, hq⟩ (NkPhi.ok ⟨hl, hd, _, rel.put k b rv, q, es, ep, hq, h2, h3, h4, h5⟩)
/-- {k: v} -/
def tDisp1 (X : Cx) (tk tv : TE) : TE := fun σ H Q => ∀ p, H p = none → tk σ (upd H p (.dK [])) fun x H1 => tv σ H1 fun y H2 => ∃ H3, XPut X.K X.w H2 p x y H3 ∧ Q (.ref p) H3
theorem pe_disp1 {k v : Expr} {tk tv : TE} {pos : Pos} (hu : X.A.units + 9 < cLine) (hk : PE X k tk) (hv : PE X v tv) : PE X (.Dict [some k] [v] pos) (tDisp1 X tk tv) := by
  refine ⟨fun pins s σ H Q I q => ?_⟩
  have hn := I.hok.fresh (Nat.le_refl s.heap.objs.size)
  have I1 := I.laid (a := s.heap.objs.size) (o := .dK []) (h' := s.heap.push { cls := .type "dict", data := .dict #[] }) (t' := s.toks) (fun _ _ q => Heap.get?_push_of_some _ q) (Nat.le_refl _) (dk_empty s.heap I.big)
  have hP := (pps_cons (pos := pos) hk hv pps_nil).run pins _ σ _ (fun ps H' => match ps with
    | [(x, y)] => ∃ H3, XPut X.K X.w H' s.heap.objs.size x y H3 ∧ Q (.ref s.heap.objs.size) H3
    | _ => False) I1 (q _ hn)
  rw [arm_eval_Dict, zip_pairTrees [some k] [v] X.env pos rfl rfl, dictDisplay_pairs (pairTrees [some k] [v] X.env pos) (by simp [pairTrees]) (by simp [pairTrees])]
  refine wpAny_bind (wpAny_standAt (wpAny_bind ?_))
  unfold subDict
  refine wpAny_bind (wpAny_alloc ?_)
  refine wpAny_bind (wpAny_holding ?_)
  rw [if_pos (by simp [pairTrees])]
  refine wpAny_bind (thn hP fun vs s1 ⟨ps, H', I2, rel, h2⟩ => ?_)
  match ps, h2, rel with
  | [(x, y)], h2, rel =>
    obtain ⟨H3, hp, q3⟩ := h2
    cases rel with
    | cons r1 r2 =>
      cases r2
      rename_i kv
      refine wpAny_holding ?_
      rw [List.forIn_cons]
      refine wpAny_bind (wpAny_bind (wpAny_bind (x_dictSet hu I2 hp r1.1 r1.2 fun s' I' => wpAny_pure ?_)))
      dsimp only
      rw [List.forIn_nil]
      exact wpAny_pure (wpAny_pure (wpAny_pure (wpAny_pure ⟨.ref s.heap.objs.size, H3, I', rfl, q3⟩)))
  | [], h2, _ => exact h2.elim
  | _ :: _ :: _, h2, _ => exact h2.elim
end
section
open PySem.Spec PyProof.Rows
/-- a is a dict, whatever its keys -/
def IsX (w : World) (H : Hp) (a : Addr) : Prop := IsD H a ∨ ∃ xs, H a = some (.ext (NkPhi w a xs))
theorem isX_at {X : Cx} {pins : List (Addr × Obj)} {σ : L2.St} {H : Hp} {s : Shared} {a : Addr} (I : Inv X pins σ H s) (d : IsX X.w H a) :
    s.TypeIs (.ref a) "dict" ∧ (∀ b, Value.ref a = .ref b → ∃ ob, s.heap.get? b = some ob ∧ ob.dict = none) ∧ (a == sysModules) = false := by
  rcases d with d | ⟨xs, e⟩
  · exact isD_at I d
  · obtain ⟨⟨p1, p2, ys, p3, o, es, ep, p4, p5, p6⟩, _⟩ := (show ObjOk X.prog X.w H s.heap a (.ext (NkPhi X.w a xs)) from I.hok a _ e)
    refine ⟨⟨o, p4, p5.1⟩, fun b q => ?_, p2⟩
    cases q
    exact ⟨o, p4, p5.2.1⟩
section
variable {X : Cx} {pins : List (Addr × Obj)} {σ : L2.St} {H : Hp} {s : Shared} {a : Addr} {y d : V} {u r : Value} {o : Option V} {A : Around} {E : Value → Shared → Prop}
theorem x_get1 {Q : Value → Shared → Prop} (hu : A.units + 9 < cLine) (I : Inv X pins σ H s) (g : XGet X.K X.w H a y o) (ry : RelV y u) (h : ∀ w' s', Inv X pins σ H s' → RelV (o.getD .non) w' → Q w' s') :
    wpAny (model X.prog X.w) A (PySem.call (.builtin "dict.get") [.ref a, u]) Q E s := by
  rcases g with g | ⟨xs, k, b, e, ey, hk, hd8, hx, l⟩
  · exact d_get1 (by omega) I g ry h
  · obtain ⟨z, hd, ys, rel, dd⟩ := nk_held I e hx
    subst ey
    cases (show u = Value.ref b from ry)
    refine call_meetsIn PySem.F.slot_dict_get dd.typeIs PySem.F.entry_dict_get (PySem.F.args_dict_get_2 _ _) (meetsH_dict_get (nestedKind X.prog X.w) a b hd) ⟨by show A.units + 1 + 8 < cLine; omega, k, ys, ⟨NkV.is I _ _ _ hk rfl, hd8⟩, dd, h _ _ (I.tok _) ?_⟩
    rw [l]
    exact (rel.val k).getD rfl
theorem x_get2 {Q : Value → Shared → Prop} (hu : A.units + 9 < cLine) (I : Inv X pins σ H s) (g : XGet X.K X.w H a y o) (ry : RelV y u) (rd : RelV d r) (h : ∀ w' s', Inv X pins σ H s' → RelV (o.getD d) w' → Q w' s') :
    wpAny (model X.prog X.w) A (PySem.call (.builtin "dict.get") [.ref a, u, r]) Q E s := by
  rcases g with g | ⟨xs, k, b, e, ey, hk, hd8, hx, l⟩
  · exact d_get2 (by omega) I g ry rd h
  · obtain ⟨z, hd, ys, rel, dd⟩ := nk_held I e hx
    subst ey
    cases (show u = Value.ref b from ry)
    refine call_meetsIn PySem.F.slot_dict_get dd.typeIs PySem.F.entry_dict_get (PySem.F.args_dict_get_3 _ _ _) (meetsH_dict_get_default (nestedKind X.prog X.w) a b hd r) ⟨by show A.units + 1 + 8 < cLine; omega, k, ys, ⟨NkV.is I _ _ _ hk rfl, hd8⟩, dd, h _ _ (I.tok _) ?_⟩
    rw [l]
    exact (rel.val k).getD rd
end
def tXGet1 (X : Cx) (td ty : TE) : TE := fun σ H Q => td σ H fun x H1 => ∃ a, x = .ref a ∧ IsX X.w H1 a ∧ ty σ H1 fun y H2 => ∃ o, XGet X.K X.w H2 a y o ∧ Q (o.getD .non) H2
def tXGet2 (X : Cx) (td ty tx : TE) : TE := fun σ H Q => td σ H fun x H1 => ∃ a, x = .ref a ∧ IsX X.w H1 a ∧ ty σ H1 fun y H2 => tx σ H2 fun z H3 => ∃ o, XGet X.K X.w H3 a y o ∧ Q (o.getD z) H3
section
variable {X : Cx} {o e f : Expr} {apos cpos : Pos} {td ty tx : TE}
theorem pe_xget1 (hu : X.A.units + 9 < cLine) (ho : PE X o td) (he : PE X e ty) (m : M1 X o "get" apos e cpos) : PE X (.Call (.Attribute o "get" apos) [e] [] cpos) (tXGet1 X td ty) := by
  refine ⟨fun pins s σ H Q I h => ?_⟩
  refine wpAny_Call_method m.base m.few m.line PySem.F.plainAttrs_dict PySem.F.slot_dict_get PySem.F.type_dict_get (thn (ho.run pins s σ H _ I h) fun u s1 ⟨x, H1, I1, rx, a, ex, d, q1⟩ => ?_)
  subst ex
  obtain rfl : u = Value.ref a := rx
  obtain ⟨t1, t2, _⟩ := isX_at I1 d
  refine ⟨t1, t2, ?_⟩
  rw [m.trees]
  refine Calls.callWith_builtin rfl (Calls.evalArgs_plain (Calls.spliced_cons (thn (he.run pins s1 σ H1 _ I1 q1) fun iv s2 ⟨y, H2, I2, ry, ov, g, q2⟩ => Calls.spliced_nil ?_)))
  exact x_get1 hu I2 g ry fun w' s3 I3 rw' => ⟨_, H2, I3, rw', q2⟩
theorem pe_xget2 (hu : X.A.units + 9 < cLine) (ho : PE X o td) (he : PE X e ty) (hf : PE X f tx) (m : M2 X o "get" apos e f cpos) : PE X (.Call (.Attribute o "get" apos) [e, f] [] cpos) (tXGet2 X td ty tx) := by
  refine ⟨fun pins s σ H Q I h => ?_⟩
  refine wpAny_Call_method m.base m.few m.line PySem.F.plainAttrs_dict PySem.F.slot_dict_get PySem.F.type_dict_get (thn (ho.run pins s σ H _ I h) fun u s1 ⟨x, H1, I1, rx, a, ex, d, q1⟩ => ?_)
  subst ex
  obtain rfl : u = Value.ref a := rx
  obtain ⟨t1, t2, _⟩ := isX_at I1 d
  refine ⟨t1, t2, ?_⟩
  rw [m.trees]
  refine Calls.callWith_builtin rfl (Calls.evalArgs_plain (Calls.spliced_cons (thn (he.run pins s1 σ H1 _ I1 q1) fun iv s2 ⟨y, H2, I2, ry, q2⟩ =>
    Calls.spliced_cons (thn (hf.run pins s2 σ H2 _ I2 q2) fun fv s3 ⟨z, H3, I3, rz, ov, g, q3⟩ => Calls.spliced_nil ?_))))
  exact x_get2 hu I3 g ry rz fun w' s4 I4 rw' => ⟨_, H3, I4, rw', q3⟩
end
end
section
variable {G : GK} {C : Fc} {W : WX} {X : Cx} {a b c : Expr} {sa sb sc : Bool} {eva evb evc : Env → R T} {pos : Pos} {σ : L2.St} {tm : Tm} {env : Env} {H : Hp} {O : Ad}
/-- a thing at hand is changed -/
theorem FRo.alterT {tm₁ tm₂ : Tm} {v : V} {d : D} (F : FRo G C σ (tm₁ ++ (v, .val d) :: tm₂) env H O) : ∃ (O1 R : Ad), (∀ a, O1 a → O a) ∧ (∀ a, R a → O a) ∧ (∀ a, O1 a → ¬ R a) ∧ Rep G H (fun a => O a ∨ C.hid a) d v O1 ∧
    ∀ (H' : Hp) (S : Ad) (n' : D) (O1' : Ad), Kept S H H' → (∀ a, S a → O1 a) → Rep G H' (fun a => (R a ∨ O1' a) ∨ C.hid a) n' v O1' → (∀ a, O1' a → ¬ R a) → (∀ a, O1' a → O1 a ∨ H a = none) → (∀ a, O1' a → Mut (H' a)) →
      (∀ w j q, (w, T.ref j q) ∈ tm₁ ++ (v, .val d) :: tm₂ → PlaceV H' σ j q w) → FRo G C σ (tm₁ ++ (v, .val n') :: tm₂) env H' (fun a => R a ∨ O1' a) := by
  have he : (ents σ (tm₁ ++ (v, .val d) :: tm₂) env)[(env.zip σ).length + tm₁.length]? = some (some d, some v) := by
    unfold ents
    rw [List.getElem?_append_right (by omega), List.map_append, List.getElem?_append_right (by simp)]
    simp [te]
  obtain ⟨w, P1, R1, ev, g1, g2, g3, g4, g5⟩ := RepL.focus F.rep he
  cases ev
  refine ⟨P1, R1, g1, g2, g3, g4, fun H' S n' O1' kk hS r dj hn hm hr => ?_⟩
  have sMut : ∀ a, S a → Mut (H a) := fun a z => F.mu a (g1 a (hS a z))
  have hA : ∀ a, (R1 a ∨ O1' a) ∨ C.hid a → (O a ∨ C.hid a) ∨ H a = none := by
    rintro a ((z | z) | z)
    · exact .inl (.inl (g2 a z))
    · exact (hn a z).elim (fun z => .inl (.inl (g1 a z))) .inr
    · exact .inl (.inr z)
  have hSA : ∀ a, S a → O a ∨ C.hid a := fun a z => .inl (g1 a (hS a z))
  have r2 := g5 H' _ S (some n', some v) O1' kk sMut hA hSA (fun a z q => g3 a (hS a q) z) r fun a z q => dj a z q
  have live : ∀ a, O a → ¬ S a → Mut (H' a) := fun a z q => by
    have m := F.mu a z
    cases e : H a with
    | none => rw [e] at m; exact m.elim
    | some x => rw [kk a x e q, ← e]; exact m
  refine ⟨F.len, ?_, ?_, ?_, fun w j q m => hr w j q ?_, ?_, F.lent⟩
  · have es : ents σ (tm₁ ++ (v, .val n') :: tm₂) env = (ents σ (tm₁ ++ (v, .val d) :: tm₂) env).set ((env.zip σ).length + tm₁.length) (some n', some v) := by
      unfold ents
      rw [List.set_append_right _ _ (by omega), List.map_append, List.map_append, List.set_append_right _ _ (by simp)]
      simp [te]
    rw [es]
    exact r2
  · rintro a (z | z)
    · exact F.nw a (g2 a z)
    · exact (hn a z).elim (fun z => F.nw a (g1 a z)) F.tracked
  · rintro a (z | z)
    · exact live a (g2 a z) fun q => g3 a (hS a q) z
    · exact hm a z
  · rcases List.mem_append.mp m with m | m
    · exact List.mem_append_left _ m
    · rcases List.mem_cons.mp m with e | m
      · cases e
      · exact List.mem_append_right _ (List.mem_cons_of_mem _ m)
  · intro a x e z
    exact kk a x (F.kept a x e z) fun q => F.nw a (g1 a (hS a q)) z
theorem se_dic1 (hK : X.K = G.K) (hw : X.w = G.w) (hu : X.A.units + 65 < cLine) (ha : PE X a (tE G C W sa eva)) (hb : PE X b (tE G C W sb evb)) :
    PE X (.Dict [some a] [b] pos) (tE G C W false (fun e => (eva e).bind fun t e => if t.root then (evb e).bind fun u e => dic1T t u e else .err)) := by
  refine PE.mono (pe_disp1 (by omega) ha hb) fun σ H Q h => ?_
  obtain ⟨tm, env, ⟨O, F⟩, hr, h⟩ := h
  have hr0 := hr rfl
  dsimp only at h
  intro p hp
  have F' : FRo G C σ (tm ++ [(.ref p, .val (.dic true [] []))]) env (upd H p (.dK [])) _ := F.push (Same.upd hp) (O1 := fun x => x = p) (d := .dic true [] []) (by
    simp only [Rep, Reps]
    exact ⟨p, [], [], rfl, .inl ⟨[], upd_same, rfl, rfl⟩, rfl, rfl, rfl⟩) (fun x z => by rw [z]; exact hp) (fun x z => by rw [z, upd_same]; trivial)
  have hr1 : Roots (tm ++ [(V.ref p, T.val (.dic true [] []))]) := hr0.val rfl
  refine ⟨_, env, ⟨_, F'⟩, fun _ => hr1, ?_⟩
  cases ea : eva env with
  | err => rw [ea] at h; exact h
  | exc x env1 => rw [ea] at h; exact fun cls dx H1 xr F1 => h cls dx H1 xr F1.pop
  | ok t env1 =>
    rw [ea] at h
    simp only [R.bind_ok] at h
    intro x H1 F1 s1
    by_cases hc : t.root = true
    · rw [if_pos hc] at h
      refine ⟨_, env1, F1, fun _ => hr1.val hc, ?_⟩
      cases eb : evb env1 with
      | err => rw [eb] at h; exact h
      | exc x env2 =>
        rw [eb] at h
        exact fun cls dx H2 xr F2 => h cls dx H2 xr F2.pop.pop
      | ok u env2 =>
        rw [eb] at h
        simp only [R.bind_ok] at h
        intro y H2 F2 s2
        unfold dic1T at h
        cases t with
        | ref i q => exact h.elim
        | val kd =>
          dsimp only at h
          unfold escF at h
          cases ee : esc u env2 with
          | err => rw [ee] at h; exact h.elim
          | exc x e => exact (esc_noexc ee).elim
          | ok d env3 =>
            rw [ee] at h
            simp only [R.bind_ok] at h
            by_cases hk : okKey kd [] = true
            · rw [if_pos hk] at h
              obtain ⟨O2, F2⟩ := F2
              rw [List.append_assoc] at F2
              obtain ⟨O3, m3, F3⟩ := FRo.esc (tm₁ := tm ++ [(V.ref p, T.val (.dic true [] []))] ++ [(x, T.val kd)]) (tm₂ := []) (by simpa using F2) ee
              obtain ⟨P1, O4, p1, p2, p3, ry, F4⟩ := FRo.take (tm₂ := []) F3
              rw [List.append_nil] at F4
              have ry : Rep G H2 (fun a => O4 a ∨ C.hid a) d.frz y no := Rep.frz (fun a z => .inl (z.elim (fun z => .inl (p2 a z)) .inr)) d y P1 (fun a z q => q.elim (p3 a z) (F3.hidO a (p1 a z))) ry no
              obtain ⟨P2, O5, q1, q2, q3, rx, F5⟩ := FRo.take (tm₂ := []) F4
              rw [List.append_nil] at F5
              have sub : ∀ a, (O5 a ∨ C.hid a) → (O4 a ∨ C.hid a) ∨ H2 a = none := fun a z => .inl (z.elim (fun z => .inl (q2 a z)) .inr)
              have rx : Rep G H2 (fun a => O5 a ∨ C.hid a) kd x P2 := Rep.kept (S := no) (Kept.refl H2) (fun _ z => z.elim) sub (fun _ z => z.elim) kd x P2 (fun _ _ z => z) rx
              have ry : Rep G H2 (fun a => O5 a ∨ C.hid a) d.frz y no := Rep.kept (S := no) (Kept.refl H2) (fun _ z => z.elim) sub (fun _ z => z.elim) d.frz y no (fun _ _ z => z) ry
              obtain ⟨O1, R1, g1, g2, g3, r4, wr⟩ := FRo.alterT (tm₂ := []) F5
              simp only [Rep] at r4
              obtain ⟨a', kv, vs, ev, hd, oa, rk, rv⟩ := r4
              cases ev
              obtain ⟨w', kv', vs', dp, mu, hd', rk', rv'⟩ := hd.put rk rv hk rx ry (by decide)
              have kk : Kept (fun x => x = p) H2 (upd H2 p w') := fun b x e z => by rw [upd_ne z]; exact e
              have hA : ∀ x, (R1 x ∨ x = p) ∨ C.hid x → (O5 x ∨ C.hid x) ∨ H2 x = none := by
                rintro x ((z | z) | z)
                · exact .inl (.inl (g2 x z))
                · rw [z]; exact .inl (.inl (g1 p oa))
                · exact .inl (.inr z)
              have cv : ∀ {es : List D} {ws : List V}, Reps G H2 (fun a => O5 a ∨ C.hid a) es ws no → Reps G (upd H2 p w') (fun x => (R1 x ∨ x = p) ∨ C.hid x) es ws no := fun {es ws} r =>
                Reps.kept kk (fun x z => by rw [z]; exact hd.mut) hA (fun x z => by rw [z]; exact .inl (g1 p oa)) es ws no (fun _ z => z.elim) r
              have F6 := wr (upd H2 p w') (fun x => x = p) (.dic true [kd] [d.frz]) (fun x => x = p) kk (fun x z => by rw [z]; exact oa) (by
                simp only [Rep]
                exact ⟨p, kv', vs', rfl, hd', rfl, cv rk', cv rv'⟩) (fun x z q => by rw [z] at q; exact g3 p oa q) (fun x z => by rw [z]; exact .inl oa) (fun x z => by rw [z, upd_same]; exact mu) (fun w j q m => by
                have hq := hr1 w j q m
                subst hq
                obtain ⟨v₀, e, z⟩ := F5.refs w j [] m
                exact ⟨v₀, e, z⟩)
              refine ⟨_, by rw [hK, hw]; exact dp, h (.ref p) _ ⟨_, F6⟩ fun z => by cases z⟩
            · rw [if_neg hk] at h; exact h.elim
    · rw [if_neg hc] at h; exact h.elim
theorem dget_none {x : D} : ∀ {ks ws : List D}, dget ks ws x = none → ks.length = ws.length → (ks.any fun z => z.eqv x) = false
  | [], _, _, _ => rfl
  | k :: ks, [], _, h => by simp at h
  | k :: ks, w :: ws, e, h => by
    simp only [dget] at e
    split at e
    · cases e
    · rename_i q
      rw [List.any_cons, dget_none e (by simpa using h)]
      simpa using q
theorem isDic_s {o : Option D} (h : isDic o = true) : ∃ b ks vs, o = some (.dic b ks vs) := by
  cases o with
  | none => cases h
  | some d => cases d with
    | dic b ks vs => exact ⟨b, ks, vs, rfl⟩
    | _ => cases h
theorem FR.isX {x : V} {t : T} (hw : X.w = G.w) (F : FR G C σ (tm ++ [(x, t)]) env H) (h : isDic (peek t env) = true) : ∃ a, x = .ref a ∧ IsX X.w H a := by
  obtain ⟨b, ks, vs, e⟩ := isDic_s h
  obtain ⟨O, F⟩ := F
  obtain ⟨O1, _, r⟩ := F.look e
  obtain ⟨a, kv, ws, ex, g, _⟩ := r.isDic
  refine ⟨a, ex, ?_⟩
  rcases g with ⟨kvs, g, _⟩ | ⟨xs, _, g, _⟩
  · exact .inl (.inl ⟨kvs, .inl g⟩)
  · exact .inr ⟨xs, by rw [hw]; exact g⟩
/-- the end of a get -/
theorem get_end (hK : X.K = G.K) (hw : X.w = G.w) {x y z : V} {t : T} {kd dd : D} {ks ws : List D} {b : Bool} {a : Addr} (ex : x = .ref a) {O3 : Ad} (F2 : FRo G C σ (tm ++ [(x, t)] ++ [(y, .val kd)]) env H O3) (ep : peek t env = some (.dic b ks ws)) (hk : okKey kd ks = true) (ho : dd.own = false) (rz : Rep G H (fun a => O3 a ∨ C.hid a) dd z no) :
    ∃ o, XGet X.K X.w H a y o ∧ FR G C σ (tm ++ [(o.getD z, .val ((dget ks ws kd).getD dd))]) env H := by
  obtain ⟨O1, r1⟩ : ∃ O1, Rep G H (fun a => O3 a ∨ C.hid a) (.dic b ks ws) x O1 := by
    obtain ⟨O1, _, r1⟩ := FRo.look (show FRo G C σ (tm ++ [(x, t)]) env H O3 from F2.pop) ep
    exact ⟨O1, r1⟩
  obtain ⟨P1, _, _, _, _, rk, _⟩ := FRo.take (tm₂ := []) F2
  obtain ⟨a', kv, vs, ex', g1, g2, g3⟩ := r1.isDic
  rw [ex] at ex'
  cases ex'
  obtain ⟨ov, g4, gs, g5⟩ := g1.get g2 g3 hk (show Rep G H _ kd y P1 from rk)
  refine ⟨ov, by rw [hK, hw]; exact g4, O3, ?_⟩
  cases e : dget ks ws kd with
  | some d =>
    obtain ⟨v, rfl, rv⟩ := g5 d e
    exact F2.pop.pop.push0 (fun _ _ z => z) rv.noown_of rv
  | none =>
    have hn : ov = none := by
      have hs := gs
      have : (ks.any fun z => z.eqv kd) = false := dget_none e (by
        have q1 := g2.length
        have q2 := g3.length
        rcases g1 with ⟨kvs, _, rfl, rfl⟩ | ⟨xs, _, _, rfl, rfl, _⟩ <;> (simp at q1 q2; omega))
      rw [this] at hs
      cases ov with
      | none => rfl
      | some _ => cases hs
    subst hn
    exact F2.pop.pop.push0 (fun _ _ z => z) ho rz
theorem se_get1 (hK : X.K = G.K) (hw : X.w = G.w) (hu : X.A.units + 65 < cLine) {apos cpos : Pos} (m : M1 X a "get" apos b cpos) (ha : PE X a (tE G C W sa eva)) (hb : PE X b (tE G C W sb evb)) :
    PE X (.Call (.Attribute a "get" apos) [b] [] cpos) (tE G C W false (fun e => (eva e).bind fun t e => if (t.root || sb) && isDic (peek t e) then (evb e).bind fun u e => getT t u (.val .non) e else .err)) := by
  refine PE.mono (pe_xget1 (by omega) ha hb m) fun σ H Q h => ?_
  obtain ⟨tm, env, F, hr, h⟩ := h
  have hr0 := hr rfl
  dsimp only at h
  refine ⟨tm, env, F, fun _ => hr0, ?_⟩
  cases ea : eva env with
  | err => rw [ea] at h; exact h
  | exc x env1 => rw [ea] at h; exact h
  | ok t env1 =>
    rw [ea] at h
    simp only [R.bind_ok] at h
    intro x H1 F1 s1
    split at h
    · rename_i hc
      rw [Bool.and_eq_true] at hc
      obtain ⟨a', ex, ix⟩ := FR.isX hw F1 hc.2
      refine ⟨a', ex, ix, tm ++ [(x, t)], env1, F1, fun e => hr0.val (by rw [e] at hc; simpa using hc.1), ?_⟩
      cases eb : evb env1 with
      | err => rw [eb] at h; exact h
      | exc x env2 =>
        rw [eb] at h
        intro cls dx H2 xr F2
        exact h cls dx H2 xr F2.pop
      | ok u env2 =>
        rw [eb] at h
        simp only [R.bind_ok] at h
        intro y H2 F2 s2
        unfold getT at h
        split at h
        · rename_i kd dd e1
          cases e1
          split at h
          · rename_i bb ks vs ep
            split at h
            · rename_i hk
              rw [Bool.and_eq_true] at hk
              obtain ⟨O2, F2⟩ := F2
              obtain ⟨o, g, F3⟩ := get_end hK hw (dd := .non) (z := .non) ex F2 ep hk.1 rfl (by simp [Rep])
              exact ⟨o, g, h _ H2 F3 fun z => by cases z⟩
            · exact h.elim
          · exact h.elim
        · exact h.elim
    · exact h.elim
theorem se_get2 (hK : X.K = G.K) (hw : X.w = G.w) (hu : X.A.units + 65 < cLine) {apos cpos : Pos} (m : M2 X a "get" apos b c cpos) (ha : PE X a (tE G C W sa eva)) (hb : PE X b (tE G C W sb evb)) (hc : PE X c (tE G C W sc evc)) :
    PE X (.Call (.Attribute a "get" apos) [b, c] [] cpos) (tE G C W false (fun e => (eva e).bind fun t e => if (t.root || (sb && sc)) && isDic (peek t e) then (evb e).bind fun u e => if u.root then (evc e).bind fun w e => getT t u w e else .err else .err)) := by
  refine PE.mono (pe_xget2 (by omega) ha hb hc m) fun σ H Q h => ?_
  obtain ⟨tm, env, F, hr, h⟩ := h
  have hr0 := hr rfl
  dsimp only at h
  refine ⟨tm, env, F, fun _ => hr0, ?_⟩
  cases ea : eva env with
  | err => rw [ea] at h; exact h
  | exc x env1 => rw [ea] at h; exact h
  | ok t env1 =>
    rw [ea] at h
    simp only [R.bind_ok] at h
    intro x H1 F1 s1
    split at h
    · rename_i hc
      rw [Bool.and_eq_true, Bool.or_eq_true] at hc
      obtain ⟨a', ex, ix⟩ := FR.isX hw F1 hc.2
      refine ⟨a', ex, ix, tm ++ [(x, t)], env1, F1, fun e => hr0.val (by rcases hc.1 with q | q; exact q; rw [e] at q; simp at q), ?_⟩
      cases eb : evb env1 with
      | err => rw [eb] at h; exact h
      | exc x env2 =>
        rw [eb] at h
        intro cls dx H2 xr F2
        exact h cls dx H2 xr F2.pop
      | ok u env2 =>
        rw [eb] at h
        simp only [R.bind_ok] at h
        intro y H2 F2 s2
        split at h
        · rename_i hur
          refine ⟨tm ++ [(x, t)] ++ [(y, u)], env2, F2, fun e => (hr0.val (by rcases hc.1 with q | q; exact q; rw [e] at q; simp at q)).val hur, ?_⟩
          cases ec : evc env2 with
          | err => rw [ec] at h; exact h
          | exc x env3 =>
            rw [ec] at h
            intro cls dx H3 xr F3
            exact h cls dx H3 xr F3.pop.pop
          | ok w env3 =>
            rw [ec] at h
            simp only [R.bind_ok] at h
            intro z H3 F3 s3
            unfold getT at h
            split at h
            · rename_i kd dd
              split at h
              · rename_i bb ks vs ep
                split at h
                · rename_i hk
                  rw [Bool.and_eq_true, Bool.not_eq_true'] at hk
                  obtain ⟨O, F3⟩ := F3
                  obtain ⟨P, O', p1, p2, p3, rz, F4⟩ := FRo.take (tm₂ := []) F3
                  rw [List.append_nil] at F4
                  have rz : Rep G H3 (fun a => O' a ∨ C.hid a) dd z no := (Rep.kept (S := no) (Kept.refl H3) (fun _ z => z.elim) (fun a z => .inl (z.elim (fun z => .inl (p2 a z)) .inr)) (fun _ z => z.elim) dd z P (fun _ _ z => z) rz).noown hk.2
                  obtain ⟨o, g, F5⟩ := get_end hK hw (z := z) ex F4 ep hk.1 hk.2 rz
                  exact ⟨o, g, h _ H3 F5 fun z => by cases z⟩
                · exact h.elim
              · exact h.elim
            · exact h.elim
        · exact h.elim
    · exact h.elim
end
end LT
/-! LtY: the tree does what the small language says: expressions, at each depth. -/
namespace LT
open PySem L2
open PyProof.Rows
section
variable {G : GK} {cl : Nat → List D → CR} {k : Nat} {c : CC} {X : Cx} {W : WX} {C : Fc} {n : Nat}
theorem never_ok {e : Expr} : PE X e (tE G C W (E.never).simple (evE cl .never)) := by rw [evE_never]; exact se_never
theorem neverT {e : Expr} : PT X e (tT G C W false (asT (evE cl .never))) := by rw [evE_never]; exact st_never
theorem bool_ok (ok : Ok G cl k n) (h : XOk G cl k c X W) (op : BoolOp) (vs : List Expr) (p : Pos) : PE X (.BoolOp op vs p) (tE G C W (compE c (n + 1) (.BoolOp op vs p)).simple (evE cl (compE c (n + 1) (.BoolOp op vs p)))) := by
  match vs with
  | [] => simp only [compE]; exact never_ok
  | [_] => simp only [compE]; exact never_ok
  | [a, b] =>
    simp only [compE]
    cases op
    · exact pes_of (se_and (ok.e c X W h C a) (pe_one (op := .And) (pos := p) (ok.e c X W h C b))) (by funext e; first | (rw [evE]; done) | (rw [evE]; rfl)) (.inr rfl)
    · exact pes_of (se_or (ok.e c X W h C a) (pe_one (op := .Or) (pos := p) (ok.e c X W h C b))) (by funext e; first | (rw [evE]; done) | (rw [evE]; rfl)) (.inr rfl)
  | a :: b :: d :: rest =>
    simp only [compE]
    cases op
    · exact pes_of (se_and (ok.e c X W h C a) (ok.e c X W h C (.BoolOp .And (b :: d :: rest) p))) (by funext e; first | (rw [evE]; done) | (rw [evE]; rfl)) (.inr rfl)
    · exact pes_of (se_or (ok.e c X W h C a) (ok.e c X W h C (.BoolOp .Or (b :: d :: rest) p))) (by funext e; first | (rw [evE]; done) | (rw [evE]; rfl)) (.inr rfl)
/-- .. as a test: the parts of the test below -/
theorem boolT_ok (ok : Ok G cl k n) (h : XOk G cl k c X W) (op : BoolOp) (vs : List Expr) (p : Pos) : PW X (.BoolOp op vs p) (tT G C W false (asT (evE cl (compE c (n + 1) (.BoolOp op vs p))))) := by
  have nv : ∀ vs, PW X (.BoolOp op vs p) (tT G C W false (asT (evE cl .never))) := fun vs => ⟨fun whole pins s σ H Q I ⟨tm, env, F, hr, k⟩ => by rw [evE_never] at k; exact k.elim⟩
  match vs with
  | [] => simp only [compE]; exact nv _
  | [_] => simp only [compE]; exact nv _
  | [a, b] =>
    simp only [compE]
    cases op
    · dsimp only; rw [asT_and]; exact st_and (ok.t c X W h C a) (pw_tt (op := .And) (ok.t c X W h C b))
    · dsimp only; rw [asT_or]; exact st_or (ok.t c X W h C a) (pw_tt (op := .Or) (ok.t c X W h C b))
  | a :: b :: d :: rest =>
    simp only [compE]
    cases op
    · dsimp only; rw [asT_and]; exact st_and (ok.t c X W h C a) (ok.b c X W h C _ (b :: d :: rest) p)
    · dsimp only; rw [asT_or]; exact st_or (ok.t c X W h C a) (ok.b c X W h C _ (b :: d :: rest) p)
theorem cmp_ok (ok : Ok G cl k n) (h : XOk G cl k c X W) (a : Expr) (ops : List CmpOp) (bs : List Expr) (p : Pos) : PE X (.Compare a ops bs p) (tE G C W (compE c (n + 1) (.Compare a ops bs p)).simple (evE cl (compE c (n + 1) (.Compare a ops bs p)))) ∧
    PT X (.Compare a ops bs p) (tT G C W false (asT (evE cl (compE c (n + 1) (.Compare a ops bs p))))) := by
  match ops, bs with
  | [], _ => simp only [compE]; exact ⟨never_ok, neverT⟩
  | _ :: _, [] => cases ops <;> simp only [compE] <;> exact ⟨never_ok, neverT⟩
  | [op], [b] =>
    simp only [compE]
    cases ec : cmOf op with
    | none => exact ⟨never_ok, neverT⟩
    | some o =>
      dsimp only
      by_cases hb : behindInMarks op b = true
      · rw [if_pos hb]; exact ⟨never_ok, neverT⟩
      · rw [if_neg hb]
        have hb' : behindInMarks op b = false := by simpa using hb
        refine ⟨pes_of (se_cmp h.hK h.hw h.hu ec hb' (ok.e c X W h C a) (ok.e c X W h C b)) ev_cmp (.inr rfl), ?_⟩
        rw [ev_cmp]
        exact smpT (st_cmp h.hK h.hw h.hu ec hb' (ok.e c X W h C a) (ok.e c X W h C b))
  | [op], _ :: _ :: _ => simp only [compE]; exact ⟨never_ok, neverT⟩
  | [op, op'], [b] => simp only [compE]; exact ⟨never_ok, neverT⟩
  | [op, op'], [b, d] =>
    simp only [compE]
    cases ec : cmOf op with
    | none => exact ⟨never_ok, neverT⟩
    | some o =>
      cases ec' : cmOf op' with
      | none => exact ⟨never_ok, neverT⟩
      | some o' =>
        dsimp only
        by_cases hb : lastMarks [op, op'] [b, d] = true
        · rw [if_pos hb]; exact ⟨never_ok, neverT⟩
        · rw [if_neg hb]
          have hb' : lastMarks [op, op'] [b, d] = false := by simpa using hb
          have e1 : evE cl (.cmp2 o o' (compE c n a) (compE c n b) (compE c n d)) = fun e => (evE cl (compE c n a) e).bind (chain1 o o' (evE cl (compE c n b)) (evE cl (compE c n d)) (compE c n b).simple) := by
            funext e; first | (rw [evE]; done) | (rw [evE]; rfl)
          refine ⟨pes_of (se_cmp2 h.hK h.hw h.hu ec ec' hb' (ok.e c X W h C a) (ok.e c X W h C b) (ok.e c X W h C d)) e1 (.inr rfl), ?_⟩
          rw [e1]
          exact st_cmp2 h.hK h.hw h.hu ec ec' hb' (ok.e c X W h C a) (ok.e c X W h C b) (ok.e c X W h C d)
  | [op, op'], _ :: _ :: _ :: _ => simp only [compE]; exact ⟨never_ok, neverT⟩
  | _ :: _ :: _ :: _, _ :: _ => simp only [compE]; exact ⟨never_ok, neverT⟩
theorem plainIx {b : Expr} (h : isSlice b = false) : PlainIx b := fun o i => by cases b <;> first | rfl | cases h
theorem st_ite {t a b : Expr} {p : Pos} {ta tb tc : Env → R Bool} (ht : PT X t (tT G C W false tc)) (ha : PT X a (tT G C W false ta)) (hb : PT X b (tT G C W false tb)) : PT X (.IfExp t a b p) (tT G C W false (fun e => (tc e).bind fun x e => if x = true then ta e else tb e)) := by
  refine ⟨fun pins s σ H Q I ⟨tm, env, F, hr, k⟩ => ?_⟩
  dsimp only at k
  have hw : tT G C W false tc σ H (fun x H1 => if x = true then tT G C W false ta σ H1 Q else tT G C W false tb σ H1 Q) := by
    refine ⟨tm, env, F, hr, ?_⟩
    cases et : tc env with
    | err => rw [et] at k; exact k
    | exc x e => rw [et] at k; exact k
    | ok x e =>
      rw [et] at k
      simp only [R.bind_ok] at k
      intro H1 F1 _
      cases x with
      | true =>
        rw [if_pos rfl] at k ⊢
        refine ⟨tm, e, F1, hr, ?_⟩
        cases ea : ta e with
        | err => rw [ea] at k; exact k
        | exc x e => rw [ea] at k; exact k
        | ok x e => rw [ea] at k; exact fun H' F' _ => k H' F' fun z => by cases z
      | false =>
        rw [if_neg (by decide)] at k ⊢
        refine ⟨tm, e, F1, hr, ?_⟩
        cases ea : tb e with
        | err => rw [ea] at k; exact k
        | exc x e => rw [ea] at k; exact k
        | ok x e => rw [ea] at k; exact fun H' F' _ => k H' F' fun z => by cases z
  show wpAny _ _ (isTrue t X.env (eval t X.env) >>= fun x => if x then isTrue a X.env (eval a X.env) else isTrue b X.env (eval b X.env)) _ _ _
  refine wpAny_bind (thn (ht.run pins s σ H _ I hw) fun x s1 ⟨H1, I1, q⟩ => ?_)
  cases x with
  | true => exact ha.run pins s1 σ H1 Q I1 q
  | false => exact hb.run pins s1 σ H1 Q I1 q
theorem asT_ite {t a b : E} : asT (evE cl (.ite t a b)) = fun e => (asT (evE cl t) e).bind fun x e => if x = true then asT (evE cl a) e else asT (evE cl b) e := by
  funext e
  unfold asT
  rw [evE]
  generalize evE cl t e = r
  cases r with
  | err => rfl
  | exc x e1 => rfl
  | ok t e1 =>
    simp only [R.bind_ok]
    cases bool1 t with
    | none => rfl
    | some x => cases x <;> rfl
theorem not_super {o : Expr} {m : Str} {env : PySem.Env} (h : isCall o = false) (w : Sem Value) : attributeBase o m env w = w := by
  cases o <;> first | rfl | cases h
theorem isEOf_at {o : Expr} {m : Str} {p : Pos} {as : List Expr} {kws : List Keyword} : isEOf c (.Attribute o m p) as kws = none := by unfold isEOf; split <;> first | rfl | simp_all
theorem mut_ok (ok : Ok G cl k n) (h : XOk G cl k c X W) (o : Expr) (m : Str) (apos pos : Pos) (as : List Expr) : PE X (.Call (.Attribute o m apos) as [] pos) (tE G C W (compE c (n + 1) (.Call (.Attribute o m apos) as [] pos)).simple (evE cl (compE c (n + 1) (.Call (.Attribute o m apos) as [] pos)))) := by
  simp only [compE, isEOf_at]
  cases hcalm : c.calm with
  | false => exact never_ok
  | true =>
  simp only [if_true]
  split
  · rename_i hh
    simp only [Bool.and_eq_true, Bool.not_eq_true'] at hh
    obtain ⟨⟨hs, hc⟩, hl⟩ := hh
    have e0 : ∀ u, evE cl (.mut u (compE c n o) (compEs c n as)) = fun e => (evE cl (compE c n o) e).bind fun t e => if (t.root || (compEs c n as).simple) && isL (peek t e) then (evEs cl (compEs c n as) e).bind (mutT u t) else .err := fun u => by funext e; rw [evE]
    have one : ∀ {u : Mu} {id : String} {a : Expr}, as = [a] → Slot "list" m id → typeOf (.builtin id) = pure (.type "method_descriptor") → MtR X id (rMutV u) → PE X (.Call (.Attribute o m apos) as [] pos) (tE G C W (E.mut u (compE c n o) (compEs c n as)).simple (evE cl (.mut u (compE c n o) (compEs c n as)))) := by
      rintro u id a rfl sl ty mr
      obtain ⟨hs1, _⟩ := noStar_cons hs
      refine pes_of (se_mut h.hK sl ty mr (ok.e c X W h C o) (ok.es c X W h C [a] hs) (not_super hc _) ?_ hl (starEach_ns hs1) rfl) (e0 u) (.inr rfl)
      rw [starEach_ns hs1]
      rfl
    have zero : ∀ {u : Mu} {id : String}, as = [] → Slot "list" m id → typeOf (.builtin id) = pure (.type "method_descriptor") → MtR X id (rMutV u) → PE X (.Call (.Attribute o m apos) as [] pos) (tE G C W (E.mut u (compE c n o) (compEs c n as)).simple (evE cl (.mut u (compE c n o) (compEs c n as)))) := by
      rintro u id rfl sl ty mr
      cases n with
      | zero => exact pes_of (sm := false) (ev := fun _ => .err) se_never (by funext e; rw [evE]; simp only [compE]; rw [evE]; rfl) (.inr rfl)
      | succ n =>
        have := se_mut0 (m := u) (cpos := pos) h.hK sl ty mr (ok.e c X W h C o) (not_super (m := m) hc _) hl
        refine pes_of this ?_ (.inr rfl)
        rw [e0 u]
        funext e
        simp only [compEs, Es.simple]
        congr 1
    split
    rotate_left
    · rename_i hu0
      cases e1 : meOf m as.length with
      | none =>
        dsimp only
        split
        · rename_i hm
          subst hm
          cases as with
          | nil => exact never_ok
          | cons a as => cases as with
            | nil =>
              refine pes_of (se_get1 h.hK h.hw h.hu ⟨not_super hc _, ?_, hl, ?_⟩ (ok.e c X W h C o) (ok.e c X W h C a)) (by funext e; first | (rw [evE]; done) | (rw [evE]; rfl)) (.inr rfl) <;> (rw [starEach_ns (noStar_cons hs).1]; rfl)
            | cons b as => cases as with
              | nil =>
                refine pes_of (se_get2 h.hK h.hw h.hu ⟨not_super hc _, ?_, hl, ?_⟩ (ok.e c X W h C o) (ok.e c X W h C a) (ok.e c X W h C b)) (by funext e; first | (rw [evE]; done) | (rw [evE]; rfl)) (.inr rfl) <;> (rw [starEach_ns (noStar_cons hs).1, starEach_ns (noStar_cons (noStar_cons hs).2).1]; rfl)
              | cons _ _ => exact never_ok
        · exact never_ok
      | some u =>
        dsimp only
        have e2 : ∀ u, evE cl (.mth u (compE c n o) (compEs c n as)) = mthS u (evE cl (compE c n o)) (compEs c n as).simple (evEs cl (compEs c n as)) := fun u => by funext e; rw [evE]; rfl
        have arg1 : ∀ {u : Me} {id : String} {T : String} {a : Expr}, as = [a] → PlainAttrs T → Slot T m id → typeOf (.builtin id) = pure (.type "method_descriptor") → MtR X id (rMe G u) → T = meTy u → PE X (.Call (.Attribute o m apos) as [] pos) (tE G C W (E.mth u (compE c n o) (compEs c n as)).simple (evE cl (.mth u (compE c n o) (compEs c n as)))) := by
          rintro u id T a rfl pa sl ty mr hT
          obtain ⟨hs1, _⟩ := noStar_cons hs
          rw [e2 u]
          refine smpF (sm := false) (PE.mono (pe_bm pa sl ty mr (ok.e c X W h C o) (ok.es c X W h C [a] hs) (not_super hc _) ?_ hl (starEach_ns hs1) rfl) (mth_tE h.hK hT))
          rw [starEach_ns hs1]
          rfl
        unfold meOf at e1
        split at e1
        · rename_i q; cases e1; obtain ⟨rfl, q⟩ := q
          obtain ⟨a, rfl⟩ := List.length_eq_one_iff.mp q
          exact arg1 rfl PySem.F.plainAttrs_list PySem.F.slot_list_index PySem.F.type_list_index (mr_index h.hK h.hu) rfl
        · split at e1
          · rename_i q; cases e1; obtain ⟨rfl, q⟩ := q
            obtain rfl := List.length_eq_zero_iff.mp q
            rw [e2 .bitlen]
            cases n with
            | zero => 
              simp only [compE, compEs]
              refine ⟨fun pins s σ H Q I ⟨tm, env, F, hr, k⟩ => ?_⟩
              unfold mthS at k
              rw [evE] at k
              exact k.elim
            | succ n =>
              have e3 : evEs cl (compEs c (n + 1) []) = fun e => .ok [] e := by funext e; simp only [compEs]; rw [evEs]
              have e4 : (compEs c (n + 1) []).simple = true := by simp only [compEs]; rfl
              rw [e3, e4]
              exact smpF (sm := false) (se_bits (ok.e c X W h C o) (not_super hc _) hl)
          · split at e1
            · rename_i q; cases e1; obtain ⟨rfl, q⟩ := q
              obtain ⟨a, rfl⟩ := List.length_eq_one_iff.mp q
              exact arg1 rfl PySem.F.plainAttrs_str PySem.F.slot_str_join PySem.F.type_str_join (mr_join h.hK) rfl
            · cases e1
    · rename_i u hu
      unfold muOf at hu
      split at hu
      · rename_i q; cases hu; obtain ⟨rfl, q⟩ := q
        obtain ⟨a, rfl⟩ := List.length_eq_one_iff.mp q
        exact one rfl F.slot_list_append F.type_list_append mr_append
      · split at hu
        · rename_i q; cases hu; obtain ⟨rfl, q⟩ := q
          obtain ⟨a, rfl⟩ := List.length_eq_one_iff.mp q
          exact one rfl F.slot_list_extend F.type_list_extend mr_extend
        · split at hu
          · rename_i q; cases hu; obtain ⟨rfl, q⟩ := q
            exact zero (List.length_eq_zero_iff.mp q) F.slot_list_pop F.type_list_pop mr_pop
          · split at hu
            · rename_i q; cases hu; obtain ⟨rfl, q⟩ := q
              exact zero (List.length_eq_zero_iff.mp q) F.slot_list_clear F.type_list_clear mr_clear
            · split at hu
              · rename_i q; cases hu; obtain ⟨rfl, q⟩ := q
                exact zero (List.length_eq_zero_iff.mp q) F.slot_list_reverse F.type_list_reverse mr_reverse
              · cases hu
  · exact never_ok
end
end LT
/-! LtZ: the tree does what the small language says: calls, comprehensions, all expressions. -/
namespace LT
open PySem L2
open PyProof.Rows
section
variable {G : GK} {cl : Nat → List D → CR} {k : Nat} {c : CC} {X : Cx} {W : WX} {C : Fc} {n : Nat}
theorem biTab_ok (h : XOk G cl k c X W) (hc : X.calm = true) : ∀ q ∈ biTab, BiOk G X q.1 q.2.2 := by
  unfold biTab
  refine List.forall_mem_cons.2 ⟨bi_abs rfl, List.forall_mem_cons.2 ⟨bi_min2 hc rfl, List.forall_mem_cons.2 ⟨bi_max2 hc rfl, List.forall_mem_cons.2 ⟨bi_int rfl, List.forall_mem_cons.2 ⟨bi_list h.hK hc rfl, List.forall_mem_cons.2 ⟨bi_tuple h.hK rfl, List.forall_mem_cons.2 ⟨bi_sum h.hK hc rfl, List.forall_mem_cons.2 ⟨bi_all h.hK hc rfl, List.forall_mem_cons.2 ⟨bi_any h.hK hc rfl, List.forall_mem_cons.2 ⟨bi_min1 h.hK hc rfl, List.forall_mem_cons.2 ⟨bi_min3 hc rfl, List.forall_mem_cons.2 ⟨bi_max3 hc rfl, fun _ h => nomatch h⟩⟩⟩⟩⟩⟩⟩⟩⟩⟩⟩⟩
theorem biOf_ok (h : XOk G cl k c X W) (hc : X.calm = true) {x : Str} {m : Nat} {p : Bi} (e : biOf x m = some p) : BiOk G X x p := by
  unfold biOf at e
  obtain ⟨q, e1, rfl⟩ := Option.map_eq_some_iff.mp e
  have hp := List.find?_some e1
  simp only [Bool.and_eq_true, beq_iff_eq] at hp
  rw [← hp.1]
  exact biTab_ok h hc q (List.mem_of_find?_eq_some e1)
theorem tyOf_ok {y : Str} {t : Nat} (e : tyOf y = some t) : bootBuiltins y = some (.type (tyName t)) ∧ t ≤ 6 := by
  unfold tyOf at e
  split at e
  · rename_i q; cases e; subst q; exact ⟨boot_int, by decide⟩
  · split at e
    · rename_i q; cases e; subst q; exact ⟨boot_bool, by decide⟩
    · split at e
      · rename_i q; cases e; subst q; exact ⟨by decide +kernel, by decide⟩
      · split at e
        · rename_i q; cases e; subst q; exact ⟨boot_tuple, by decide⟩
        · split at e
          · rename_i q; cases e; subst q; exact ⟨boot_list, by decide⟩
          · cases e
theorem ev_len {a : E} : evE cl (.len a) = fun e => (evE cl a e).bind lenT := by funext e; rw [evE]
theorem ev_lrng {a : E} : evE cl (.lrng a) = fun e => (evE cl a e).bind lrngT := by funext e; rw [evE]
theorem se_lrng {x y : Str} {p p2 pos pos2 : Pos} {a : Expr} {eva : Env → R T} {sa : Bool} (hc : X.calm = true) (hx : x = ("list" : Str)) (hy : y = ("range" : Str)) (hg : Gl X x) (hm : X.mg x = none) (hg2 : Gl X y) (hm2 : X.mg y = none)
    (he : starEach [.Call (.Name y p2) [a] [] pos2] X.env = (false, eval (.Call (.Name y p2) [a] [] pos2) X.env) :: starEach [] X.env) (he2 : starEach [a] X.env = (false, eval a X.env) :: starEach [] X.env) (ha : PE X a (tE G C W sa eva)) :
    PE X (.Call (.Name x p) [.Call (.Name y p2) [a] [] pos2] [] pos) (tE G C W false (fun e => (eva e).bind lrngT)) := by
  subst hx hy
  refine PE.mono (pe_listRg hc hg hm (prg_1 hg2 hm2 ha he2) he) fun σ H Q h => ?_
  show tE G C W sa eva σ H _
  refine tE_bind (fun z => by cases z) h fun tm v t env H1 F hr s k => ?_
  unfold lrngT at k
  cases t with
  | ref i q => exact k.elim
  | val d =>
    cases d <;> try exact k.elim
    rename_i j
    simp only [int1] at k
    split at k
    · rename_i hj
      rw [Bool.and_eq_true] at hj
      obtain ⟨h1, h2⟩ := hj
      simp only [smallR, Bool.and_eq_true, decide_eq_true_eq] at h1
      obtain ⟨O, O1, _, r⟩ := F.top
      have r : v = .int j := r
      subst r
      have e1 : rgV 0 j = ((List.range j.toNat).map fun (i : Nat) => (i : Int)).map V.int := by
        unfold rgV
        rw [List.map_map]
        simp
      have e2 : rngL 0 1 j.toNat = ((List.range j.toNat).map fun (i : Nat) => (i : Int)).map D.int := by
        unfold rngL
        rw [List.map_map]
        simp
      refine ⟨j, rfl, ⟨by decide, by decide, h1.1, h1.2, ?_⟩, fun q hq => ?_⟩
      · have : j.toNat ≤ sizeL := by simpa using h2
        simpa [sizeL] using this
      · rw [e1]
        rw [e2] at k
        obtain ⟨O, F⟩ := F
        exact k _ _ (F.pop.fresh (Fresh.lst Reps.scr hq)) fun z => by cases z
    · exact k.elim
theorem lrng_ok (ok : Ok G cl k n) (h : XOk G cl k c X W) (hc : X.calm = true) {x : Str} {px pos : Pos} {a b : Expr} (g1 : Gl X x) (hm : X.mg x = none) (hs : starEach [a] X.env = (false, eval a X.env) :: starEach [] X.env) (e : lrOf c x a = some b) : PE X (.Call (.Name x px) [a] [] pos) (tE G C W (E.lrng (compE c n b)).simple (evE cl (.lrng (compE c n b)))) := by
  unfold lrOf at e
  split at e
  · rename_i y py b' pos'
    split at e
    · rename_i hh
      cases e
      simp only [Bool.and_eq_true, beq_iff_eq] at hh
      obtain ⟨⟨⟨h1, h2⟩, h3⟩, h4⟩ := hh
      simp only [CC.blt, Bool.and_eq_true] at h3
      obtain ⟨y1, y2, y3⟩ := h.gl h3.1
      obtain ⟨s1, s2⟩ := noStar_cons h4
      exact pes_of (se_lrng hc h1 h2 g1 hm y1 (h.free y h3.2) hs (starEach_ns s1) (ok.e c X W h C b)) ev_lrng (.inl rfl)
    · cases e
  · cases e
theorem fn_call_ok (ok : Ok G cl k n) (h : XOk G cl k c X W) (x : Str) (px pos : Pos) (as : List Expr) (hE : isEOf c (.Name x px) as [] = none) : PE X (.Call (.Name x px) as [] pos) (tE G C W (compE c (n + 1) (.Call (.Name x px) as [] pos)).simple (evE cl (compE c (n + 1) (.Call (.Name x px) as [] pos)))) := by
  simp only [compE, hE]
  cases hcalm : c.calm with
  | false => exact never_ok
  | true =>
  simp only [if_true]
  split
  · rename_i hh
    simp only [Bool.and_eq_true] at hh
    obtain ⟨hg, hs⟩ := hh
    obtain ⟨g1, g2, g3⟩ := h.gl hg
    split
    · rename_i p ef
      split
      · exact never_ok
      · rename_i hne
        cases as with
        | nil => exact absurd rfl hne
        | cons a as =>
          obtain ⟨s1, s2⟩ := noStar_cons hs
          obtain ⟨f, fd, ps, h1, h2, h3, h4⟩ := h.funs x p ef
          exact pes_of (se_call h4 (h.arity x p ef) (h.room hcalm) g1 h1 h2 h3 h.tk (ok.es c X W h C (a :: as) hs) g2 (starEach_ns s1) (plain_ns s2)) ev_call (.inr rfl)
    · split
      · rename_i hf
        have hm := h.free x hf
        have bb : ∀ {p : Bi} {a : Expr} {rest : List Expr} {m : Nat}, as = a :: rest → biOf x m = some p → PE X (.Call (.Name x px) as [] pos) (tE G C W (E.bi p (compEs c n as)).simple (evE cl (.bi p (compEs c n as)))) := by
          rintro p a rest m rfl e
          obtain ⟨s1, s2⟩ := noStar_cons hs
          exact pes_of (se_bi (biOf_ok h (h.calm hcalm) e) g1 hm (ok.es c X W h C (a :: rest) hs) (starEach_ns s1) (plain_ns s2)) ev_bi (.inl rfl)
        split
        · rename_i a
          obtain ⟨s1, s2⟩ := noStar_cons hs
          split
          · rename_i hx
            exact pes_of (se_len h.hK hx g1 hm (starEach_ns s1) (ok.e c X W h C a)) ev_len (.inl rfl)
          · split
            · rename_i b eb
              exact lrng_ok ok h (h.calm hcalm) g1 hm (starEach_ns s1) eb
            · split
              · rename_i p e
                exact bb rfl e
              · exact never_ok
        · rename_i a y py
          obtain ⟨s1, s2⟩ := noStar_cons hs
          split
          · rename_i hx
            split
            · rename_i t et
              split
              · rename_i hy
                simp only [CC.blt, Bool.and_eq_true] at hy
                obtain ⟨y1, y2, y3⟩ := h.gl hy.1
                obtain ⟨b1, b2⟩ := tyOf_ok et
                refine pes_of (se_isi h.hK hx g1 hm y1 (h.free y hy.2) b1 y3 y2 b2 (starEach_ns s1) (ok.e c X W h C a)) ?_ (.inl (by simp [E.simple, Es.simple]))
                rw [ev_bi]
                funext e
                congr 1
                rw [evEs]
                congr 1
                funext t e
                simp only [Es.simple, Bool.or_true, if_true]
                rw [evEs]
                rfl
              · exact never_ok
            · exact never_ok
          · split
            · rename_i p e
              exact bb rfl e
            · exact never_ok
        · split
          · rename_i p e
            exact bb rfl e
          · exact never_ok
        · exact never_ok
      · exact never_ok
  · exact never_ok
theorem noSet {it : Expr} (h : isSet it = false) (env : PySem.Env) : ∀ x, foldedSetIterable it env x = pure x := fun x => by cases it <;> first | rfl | cases h
theorem PTs.mono {es : List Expr} {t t' : TT} (h : PTs X es t) (m : ∀ σ H Q, t' σ H Q → t σ H Q) : PTs X es t' := ⟨fun pins s σ H Q I hw => h.run pins s σ H Q I (m σ H Q hw)⟩
theorem pts_yes : PTs X [] (tT G C W false (asT (evE cl (.con (.bl true))))) := PTs.mono pts_nil fun σ H Q ⟨tm, env, F, hr, k⟩ => by
  unfold asT at k
  rw [evE] at k
  exact k H F fun z => by cases z
theorem blkOk_of (h : XOk G cl k c X W) {scope : Scope} {own : List (Str × Nat)} (q : blkC c.N c.sc scope own = true) : BlkOk X.N X.env.scope scope own := by
  obtain ⟨h1, h2, h3, h4, h5⟩ := blkOk_by q
  rw [h.hN]
  refine ⟨h1, h2, h3, fun y hy e => ?_, h5⟩
  rcases h4 y hy e with z | z
  · exact .inl (h.cel _ z)
  · exact (h.fre _ z).elim .inr .inl
/-- the parts of a comprehension -/
structure LcOk (G : GK) (cl : Nat → List D → CR) (X : Cx) (elt tg it : Expr) (ifs : List Expr) (scope : Scope) (own : List (Str × Nat)) (t : Tg) (g : TG) (irE irC : E) (irI : It) : Prop where
  hi : ∀ (W : WX), Takes X W → ∀ (C : Fc), PI X tg it (tI G C W (evI cl irI))
  blk : BlkOk X.N X.env.scope scope own
  tgG : TgG G t g
  pg : ∀ (s : Shared) (H : Hp) (C : Addr) (cs : List (Str × Addr)) (fp : List Addr), PG (X.blk s H scope (compEnvC scope cs C X.env) fp) tg g
  te : ∀ (Cf : Fc) (s : Shared) (H : Hp) (C : Addr) (cs : List (Str × Addr)) (fp : List Addr), PE (X.blk s H scope (compEnvC scope cs C X.env) fp) elt (tE G Cf (fun _ _ _ _ => False) irE.simple (evE cl irE))
  tt : ∀ (Cf : Fc) (s : Shared) (H : Hp) (C : Addr) (cs : List (Str × Addr)) (fp : List Addr), PTs (X.blk s H scope (compEnvC scope cs C X.env) fp) ifs (tT G Cf (fun _ _ _ _ => False) false (asT (evE cl irC)))
  sl : own.map (·.2) = slots t
theorem ev_lc {a cc : E} {t : Tg} {i : It} : evE cl (.lc a t i cc) = lcE (evI cl i) (evE cl a) (evE cl cc) t := by
  funext e
  rw [evE]
  rfl
theorem lc_ok (ok : Ok G cl k n) (h : XOk G cl k c X W) {elt tg it : Expr} {scope : Scope} {t : Tg} (e1 : tgOf { c with sc := scope } n tg = some t)
    (e2 : blkC c.N c.sc scope (ownOf { c with sc := scope } n tg) = true) (e3 : (ownOf { c with sc := scope } n tg).map (·.2) = slots t) (hi : ∀ (W : WX), Takes X W → ∀ (C : Fc), PI X tg it (tI G C W (evI cl (compI c n tg it)))) :
    LcOk G cl X elt tg it [] scope (ownOf { c with sc := scope } n tg) t (gOf G.K { c with sc := scope } n tg) (compE { c with sc := scope } n elt) (.con (.bl true)) (compI c n tg it) ∧
    ∀ d, LcOk G cl X elt tg it [d] scope (ownOf { c with sc := scope } n tg) t (gOf G.K { c with sc := scope } n tg) (compE { c with sc := scope } n elt) (compE { c with sc := scope } n d) (compI c n tg it) := by
  have bo := blkOk_of h e2
  have hb := fun (s : Shared) (H : Hp) (C : Addr) (cs : List (Str × Addr)) (fp : List Addr) => h.blk s H scope bo.kind cs C fp
  have tk := fun (s : Shared) (H : Hp) (C : Addr) (cs : List (Str × Addr)) (fp : List Addr) => (tg_ok (hb s H C cs fp) n).1 tg t e1
  refine ⟨⟨hi, bo, (tk X.s_0 X.H_0 0 [] []).tgG, fun s H C cs fp => (tk s H C cs fp).pg, fun Cf s H C cs fp => ok.e _ _ _ (hb s H C cs fp) Cf elt, fun Cf s H C cs fp => pts_yes, e3⟩, fun d => ⟨hi, bo, (tk X.s_0 X.H_0 0 [] []).tgG, fun s H C cs fp => (tk s H C cs fp).pg, fun Cf s H C cs fp => ok.e _ _ _ (hb s H C cs fp) Cf elt, fun Cf s H C cs fp => pts_one (ok.t _ _ _ (hb s H C cs fp) Cf d), e3⟩⟩
theorem se_lc (hc : X.calm = true) {elt tg it : Expr} {ifs : List Expr} {scope : Scope} {own : List (Str × Nat)} {t : Tg} {g : TG} {irE irC : E} {irI : It} {pos : Pos} (h : XOk G cl k c X W) (L : LcOk G cl X elt tg it ifs scope own t g irE irC irI) (hs : isSet it = false) :
    PE X (.ListComp elt [⟨tg, it, ifs, 0⟩] scope pos) (tE G C W false (evE cl (.lc irE t irI irC))) := by
  rw [ev_lc]
  exact PE.mono (pe_lc hc h.nd (L.hi W h.tk C) L.blk L.pg (L.tt C.blk) (L.te C.blk) (noSet hs _)) fun σ H Q hh => lc_tLc L.tgG (fun i m => by rw [← L.sl]; exact m) (fun i m => by rw [L.sl]; exact m) hh
theorem lce_ok (ok : Ok G cl k n) (h : XOk G cl k c X W) (elt : Expr) (gs : List Comprehension) (scope : Scope) (p : Pos) : PE X (.ListComp elt gs scope p) (tE G C W (compE c (n + 1) (.ListComp elt gs scope p)).simple (evE cl (compE c (n + 1) (.ListComp elt gs scope p)))) := by
  simp only [compE]
  split
  · rename_i tg it ifs
    split
    · exact never_ok
    · rename_i hset
      have hset2 : isSet it = false ∧ c.calm = true := by simpa using hset
      have hset := hset2.1
      have hcalm := h.calm hset2.2
      split
      · rename_i t e1
        split
        · rename_i e2
          simp only [Bool.and_eq_true, decide_eq_true_eq] at e2
          have L := lc_ok (elt := elt) ok h e1 e2.1 e2.2 fun W' tk' C => ok.i c X W' { h with tk := tk' } C tg it
          split
          · exact se_lc hcalm h L.1 hset
          · exact se_lc hcalm h (L.2 _) hset
          · exact never_ok
        · exact never_ok
      · exact never_ok
  · exact never_ok
theorem ev_seq {a : E} : evI cl (.seq a) = fun e => (evE cl a e).bind fun t e => (src t e).bind fun r e => .ok (r.2.1, [r.2.2]) e := by funext e; rw [evI]
theorem ev_rng {m : Nat} {as : Es} : evI cl (.rng m as) = fun e => (evEs cl as e).bind (rngT m) := by funext e; rw [evI]
theorem ev_enum {as : Es} : evI cl (.enum as) = fun e => (evEs cl as e).bind enumT := by funext e; rw [evI]
theorem ev_zip {as : Es} : evI cl (.zip as) = fun e => (evEs cl as e).bind zipT := by funext e; rw [evI]
theorem seq_ok (ok : Ok G cl k n) (h : XOk G cl k c X W) (tg it : Expr) : PI X tg it (tI G C W (evI cl (.seq (compE c n it)))) := by
  rw [ev_seq]
  exact si_seq h.hK (ok.e c X W h C it)
theorem seqN_ok {tg it : Expr} : PI X tg it (tI G C W (evI cl (.seq .never))) := si_never fun e => by rw [evI, evE]; rfl
theorem tup_of {tg : Expr} (h : isTupE tg = true) : ∃ es kk p, tg = .Tuple es kk p := by cases tg <;> first | exact ⟨_, _, _, rfl⟩ | cases h
theorem i_ok (ok : Ok G cl k n) (h : XOk G cl k c X W) (tg it : Expr) : PI X tg it (tI G C W (evI cl (compI c (n + 1) tg it))) := by
  cases it <;> try (simp only [compI]; exact seq_ok ok h tg _)
  rename_i f as kws pos
  simp only [compI]
  cases kws with
  | cons _ _ => exact seqN_ok
  | nil =>
    dsimp only
    cases f <;> try exact seq_ok ok h tg _
    rename_i x px
    dsimp only
    by_cases hh : (c.blt x && noStar as) = true
    · rw [if_pos hh]
      simp only [Bool.and_eq_true, CC.blt] at hh
      obtain ⟨⟨hg, hf⟩, hs⟩ := hh
      obtain ⟨g1, g2, g3⟩ := h.gl hg
      have hm := h.free x hf
      by_cases hr : x = ("range" : Str)
      · rw [if_pos hr]
        subst hr
        match as, hs with
        | [], _ => exact seqN_ok
        | [a], hs =>
          dsimp only
          obtain ⟨s1, _⟩ := noStar_cons hs
          rw [ev_rng]
          exact si_rng1 g1 hm (starEach_ns s1) (ok.es c X W h C _ hs)
        | [a, b], hs =>
          dsimp only
          obtain ⟨s1, s2⟩ := noStar_cons hs
          obtain ⟨s3, _⟩ := noStar_cons s2
          rw [ev_rng]
          exact si_rng2 g1 hm (by rw [starEach_ns s1, starEach_ns s3]; rfl) (starEach_ns s3) (ok.es c X W h C _ hs)
        | [a, b, d], hs =>
          dsimp only
          obtain ⟨s1, s2⟩ := noStar_cons hs
          rw [ev_rng]
          exact si_rng3 g1 hm (starEach_ns s1) (plain_ns s2) (ok.es c X W h C _ hs)
        | _ :: _ :: _ :: _ :: _, _ => exact seqN_ok
      · rw [if_neg hr]
        by_cases he : (decide (x = ("enumerate" : Str)) && isTupE tg) = true
        · rw [if_pos he]
          simp only [Bool.and_eq_true, decide_eq_true_eq] at he
          obtain ⟨rfl, ht⟩ := he
          obtain ⟨es, kk, p, rfl⟩ := tup_of ht
          match as, hs with
          | [], _ => exact seqN_ok
          | [a], hs =>
            dsimp only
            obtain ⟨s1, _⟩ := noStar_cons hs
            rw [ev_enum]
            exact si_enum h.hK g1 hm (starEach_ns s1) (ok.es c X W h C _ hs)
          | _ :: _ :: _, _ => exact seqN_ok
        · rw [if_neg he]
          by_cases hz : (decide (x = ("zip" : Str)) && isTupE tg) = true
          · rw [if_pos hz]
            simp only [Bool.and_eq_true, decide_eq_true_eq] at hz
            obtain ⟨rfl, ht⟩ := hz
            obtain ⟨es, kk, p, rfl⟩ := tup_of ht
            match as, hs with
            | [], _ => exact seqN_ok
            | [a], _ => exact seqN_ok
            | [a, b], hs =>
              dsimp only
              obtain ⟨s1, s2⟩ := noStar_cons hs
              rw [ev_zip]
              exact si_zip h.hK g1 hm (starEach_ns s1) (plain_ns s2) (ok.es c X W h C _ hs)
            | _ :: _ :: _ :: _, _ => exact seqN_ok
          · rw [if_neg hz]
            exact seq_ok ok h tg _
    · rw [if_neg hh]
      exact seq_ok ok h tg _
theorem ev_nilS : evEs cl .nil = fun e => .ok [] e := by funext e; rw [evEs]
theorem ev_consS {a : E} {as : Es} : evEs cl (.cons a as) = consS (evE cl a) as.simple (evEs cl as) := by funext e; rw [evEs]; rfl
theorem ev_cut1 {p : Bi} {a l : E} : evE cl (.bi p (.cons a (.cons l .nil))) = fun e => (consS (evE cl a) (l.simple && true) (consS (evE cl l) true fun e => .ok [] e) e).bind fun ts e => (rsL ts e).bind fun ds e => (R.of (bi p ds) e).bind fun z e => .ok (.val z) e := by
  rw [ev_bi, ev_consS, ev_consS, ev_nilS]
  rfl
theorem ev_bi1 {p : Bi} {a : E} : evE cl (.bi p (.cons a .nil)) = fun e => (consS (evE cl a) true (fun e => .ok [] e) e).bind fun ts e => (rsL ts e).bind fun ds e => (R.of (bi p ds) e).bind fun z e => .ok (.val z) e := by
  rw [ev_bi, ev_consS, ev_nilS]
  rfl
theorem sub_ok (ok : Ok G cl k n) (h : XOk G cl k c X W) (a b : Expr) (p : Pos) : PE X (.Subscript a b p) (tE G C W (compE c (n + 1) (.Subscript a b p)).simple (evE cl (compE c (n + 1) (.Subscript a b p)))) := by
  have gen : isSlice b = false → PE X (.Subscript a b p) (tE G C W (E.idx (compE c n a) (compE c n b)).simple (evE cl (.idx (compE c n a) (compE c n b)))) := fun hb =>
    pes_of (se_idx h.hK h.hw h.hu (plainIx hb) (ok.e c X W h C a) (ok.e c X W h C b)) (by funext e; first | (rw [evE]; done) | (rw [evE]; rfl)) (.inl rfl)
  cases b <;> try (simp only [compE]; exact gen rfl)
  rename_i lo hi st p2
  cases st with
  | some s =>
    by_cases hr : isRev lo hi s = true
    · simp only [compE]
      rw [if_pos hr]
      unfold isRev at hr
      split at hr
      · exact pes_of (se_rev h.hK (ok.e c X W h C a)) ev_bi1 (.inl (by simp [E.simple, Es.simple]))
      · cases hr
    · simp only [compE]
      rw [if_neg hr]
      exact never_ok
  | none =>
    cases lo with
    | none =>
      cases hi with
      | none => simp only [compE]; exact never_ok
      | some u =>
        simp only [compE]
        refine pes_of (se_cut1 (f := fun i => (none, some i)) (pb := .cutU) h.hK (ok.e c X W h C a) (ok.e c X W h C u) (.inr ⟨rfl, rfl, rfl⟩) ?_) ev_cut1 (.inl (by simp [E.simple, Es.simple]))
        intro ds z e
        match ds, e with
        | [d, .int i], e => exact ⟨d, i, rfl, e⟩
    | some l =>
      cases hi with
      | none =>
        simp only [compE]
        refine pes_of (se_cut1 (f := fun i => (some i, none)) (pb := .cutL) h.hK (ok.e c X W h C a) (ok.e c X W h C l) (.inl ⟨rfl, rfl, rfl⟩) ?_) ev_cut1 (.inl (by simp [E.simple, Es.simple]))
        intro ds z e
        match ds, e with
        | [d, .int i], e => exact ⟨d, i, rfl, e⟩
      | some u =>
        simp only [compE]
        exact pes_of (se_cut2 h.hK (ok.e c X W h C a) (ok.e c X W h C l) (ok.e c X W h C u)) (by funext e; rw [evE]; rfl) (.inr rfl)
theorem best_tab (h : XOk G cl k c X W) (hc : X.calm = true) {x : Str} {p : Bi} (e : bestOf x = some p) : ∃ (id : String) (f : Int → List Int → Int), bootBuiltins x = some (.builtin id) ∧ CallRK X (.builtin id) ["default"] (rBest X.K f) ∧ x ≠ ("__name__" : Str) ∧ (x == ("__debug__" : Str)) = false ∧
    ∀ ds z, bi p ds = some z → ∃ o xs d, ds = [.lst o xs, d] ∧ ∃ l, allInt xs = some l ∧ ((l = [] ∧ z = d) ∨ ∃ i r, l = i :: r ∧ z = .int (f i r)) := by
  have hu : X.A.units + 64 < cLine := by have := h.hu; omega
  unfold bestOf at e
  split at e
  · rename_i q
    cases e
    subst q
    refine ⟨_, minL, PyProof.Rows.boot_min, crk_minD hc hu, by decide, by decide, fun ds z e => ?_⟩
    dsimp only [bi] at e
    split at e
    · rename_i o xs d'
      refine ⟨o, xs, d', rfl, ?_⟩
      split at e
      · rename_i i r e1
        cases e
        exact ⟨_, e1, .inr ⟨i, r, rfl, rfl⟩⟩
      · rename_i e1
        cases e
        exact ⟨_, e1, .inl ⟨rfl, rfl⟩⟩
      · cases e
    · cases e
  · split at e
    · rename_i q
      cases e
      subst q
      refine ⟨_, maxL, PyProof.Rows.boot_max, crk_maxD hc hu, by decide, by decide, fun ds z e => ?_⟩
      dsimp only [bi] at e
      split at e
      · rename_i o xs d'
        refine ⟨o, xs, d', rfl, ?_⟩
        split at e
        · rename_i i r e1
          cases e
          exact ⟨_, e1, .inr ⟨i, r, rfl, rfl⟩⟩
        · rename_i e1
          cases e
          exact ⟨_, e1, .inl ⟨rfl, rfl⟩⟩
        · cases e
      · cases e
    · cases e
theorem const_pe {cn : Const} {kk : Nat} {cp : Pos} {z : D} (e : constD cn = some z) : ∃ v, PE X (.Constant cn kk cp) (fun _ H Q => Q v H) ∧ z.own = false ∧ (∀ H A, Rep G H A z v no) ∧ ∀ H B d2, Vw G H B d2 v → d2 = z := by
  cases cn <;> simp only [constD, Option.some.injEq] at e <;> try (cases e; done)
  · subst e; exact ⟨.non, pe_non, rfl, fun H A => by simp [Rep], fun H B d2 h => (vw_uq h fun a q => by cases q).1 rfl⟩
  · subst e; exact ⟨.bl _, pe_bl, rfl, fun H A => by simp [Rep], fun H B d2 h => (vw_uq h fun a q => by cases q).2.1 _ rfl⟩
  · subst e; exact ⟨.int _, pe_int, rfl, fun H A => by simp [Rep], fun H B d2 h => (vw_uq h fun a q => by cases q).2.2.1 _ rfl⟩
  · subst e; exact ⟨.str _, pe_str, rfl, fun H A => by simp [Rep, sOf], fun H B d2 h => (vw_uq h fun a q => by cases q).2.2.2 _ rfl⟩
theorem kw_ok (ok : Ok G cl k n) (h : XOk G cl k c X W) (f : Expr) (as : List Expr) (kws : List Keyword) (p : Pos) (hk : kws ≠ []) (hE : isEOf c f as kws = none) : PE X (.Call f as kws p) (tE G C W (compE c (n + 1) (.Call f as kws p)).simple (evE cl (compE c (n + 1) (.Call f as kws p)))) := by
  match kws, hk, hE with
  | ⟨none, d, kp⟩ :: rest, _, hE => cases rest <;> (simp only [compE, hE]; cases c.calm <;> exact never_ok)
  | ⟨some kx, d, kp⟩ :: _ :: _, _, hE => simp only [compE, hE]; cases c.calm <;> exact never_ok
  | [⟨some kx, d, kp⟩], _, hE =>
    simp only [compE, hE]
    cases hcalm : c.calm with
    | false => exact never_ok
    | true =>
    simp only [if_true]
    split
    · rename_i x px a _
      split
      · rename_i hh
        simp only [Bool.and_eq_true, beq_iff_eq, CC.blt, Bool.not_eq_true'] at hh
        obtain ⟨⟨⟨hg, hf⟩, hkx⟩, hst⟩ := hh
        subst hkx
        obtain ⟨g1, g2, g3⟩ := h.gl hg
        have hm := h.free x hf
        split
        · rename_i pb cn kk cp e1 _
          split
          · rename_i z e2
            obtain ⟨id, ff, hb, hcr, hn, hdb, hbi⟩ := best_tab h (h.calm hcalm) e1
            obtain ⟨v, pv, ho, hr, huq⟩ := const_pe (G := G) (X := X) (kk := kk) (cp := cp) e2
            have hs1 : starEach [a] X.env = [(false, eval a X.env)] := starEach_ns hst
            refine pes_of (se_best (pb := pb) (f := ff) (d := z) (v := v) h.hK hcr hbi huq g1 hm hb hn hdb ho hr pv hs1 (ok.e c X W h C a)) ?_ (.inl (by simp [E.simple, Es.simple]))
            · rw [ev_bi, ev_consS, ev_consS, ev_nilS]
              funext e
              unfold consS
              congr 1
              congr 1
              funext t e
              simp only [Es.simple, E.simple, Bool.and_self, Bool.or_true, if_true]
              rw [evE]
              rfl
          · exact never_ok
        · exact never_ok
      · exact never_ok
    · exact never_ok
theorem se_dnew {p : Pos} : PE X (.Dict [] [] p) (tE G C W true (fun e => .ok (.val (.dic true [] [])) e)) := by
  refine PE.mono pe_dnewK fun σ H Q h => ?_
  obtain ⟨tm, env, ⟨O, F⟩, hr, k⟩ := h
  intro a ha
  refine k (.ref a) _ ⟨_, F.push (Same.upd ha) (O1 := fun x => x = a) (d := .dic true [] []) ?_ ?_ ?_⟩ fun _ => Same.upd ha
  · simp only [Rep, Reps]
    exact ⟨a, [], [], rfl, .inl ⟨[], upd_same, rfl, rfl⟩, rfl, rfl, rfl⟩
  · intro x z; rw [z]; exact ha
  · intro x z; rw [z, upd_same]; trivial
theorem ev_isE {a : E} {ks : List Nat} : evE cl (.isE a ks) = fun e => (evE cl a e).bind (isEK ks) := by
  funext e
  rw [evE]
  rfl
theorem isE_ok (ok : Ok G cl k n) (h : XOk G cl k c X W) (f : Expr) (as : List Expr) (kws : List Keyword) (p : Pos) {q : Expr × List Nat} (hE : isEOf c f as kws = some q) : PE X (.Call f as kws p) (tE G C W (compE c (n + 1) (.Call f as kws p)).simple (evE cl (compE c (n + 1) (.Call f as kws p)))) := by
  simp only [compE, hE]
  unfold isEOf at hE
  split at hE
  · rename_i x px a y py
    split at hE
    · rename_i hh
      obtain ⟨j, e1, rfl⟩ := Option.map_eq_some_iff.mp hE
      simp only [Bool.and_eq_true, beq_iff_eq, CC.blt, Bool.not_eq_true'] at hh
      obtain ⟨⟨⟨hg, hf⟩, hx⟩, hs⟩ := hh
      obtain ⟨g1, g2, g3⟩ := h.gl hg
      rw [ev_isE]
      exact se_isE1 h hx g1 (h.free _ hf) e1 (starEach_ns hs) (ok.e c X W h C a)
    · cases hE
  · rename_i x px a es x1 p2
    split at hE
    · rename_i hh
      simp only [Bool.and_eq_true, beq_iff_eq, CC.blt, Bool.not_eq_true', decide_eq_true_eq] at hh
      obtain ⟨⟨⟨⟨hg, hf⟩, hx⟩, hs⟩, hz⟩ := hh
      split at hE
      · cases hE
      · obtain ⟨ks, e1, rfl⟩ := Option.map_eq_some_iff.mp hE
        obtain ⟨g1, g2, g3⟩ := h.gl hg
        rw [ev_isE]
        exact se_isET h hx g1 (h.free _ hf) e1 hz (starEach_ns hs) (ok.e c X W h C a)
    · cases hE
  · cases hE
theorem e_ok (ok : Ok G cl k n) (h : XOk G cl k c X W) (e : Expr) : PE X e (tE G C W (compE c (n + 1) e).simple (evE cl (compE c (n + 1) e))) := by
  cases e <;> try (simp only [compE]; exact never_ok)
  · exact bool_ok ok h _ _ _
  · rename_i a op b p
    simp only [compE]
    cases eo : opOf op with
    | none => exact never_ok
    | some o => exact pes_of (se_bin h.hK eo (ok.e c X W h C a) (ok.e c X W h C b)) ev_bin (.inl rfl)
  · rename_i op a p
    cases op <;> simp only [compE] <;> try exact never_ok
    · exact pes_of (se_not (ok.e c X W h C a)) (by funext e; rw [evE]) (.inr rfl)
    · exact pes_of (se_neg (ok.e c X W h C a)) (by funext e; rw [evE]) (.inl rfl)
  · rename_i t a b p
    simp only [compE]
    exact pes_of (se_ite (ok.t c X W h C t) (ok.e c X W h C a) (ok.e c X W h C b)) (by funext e; first | (rw [evE]; done) | (rw [evE]; rfl)) (.inr rfl)
  · rename_i ks vs p
    cases ks with
    | cons kk ks =>
      cases ks with
      | cons _ _ => cases kk <;> simp only [compE] <;> exact never_ok
      | nil =>
        cases kk with
        | none => simp only [compE]; exact never_ok
        | some a =>
          cases vs with
          | nil => simp only [compE]; exact never_ok
          | cons b vs => cases vs with
            | cons _ _ => simp only [compE]; exact never_ok
            | nil =>
              simp only [compE]
              exact pes_of (se_dic1 h.hK h.hw h.hu (ok.e c X W h C a) (ok.e c X W h C b)) (by funext e; first | (rw [evE]; done) | (rw [evE]; rfl)) (.inr rfl)
    | nil => cases vs with
      | cons _ _ => simp only [compE]; exact never_ok
      | nil =>
        simp only [compE]
        exact pes_of se_dnew (by funext e; first | (rw [evE]; done) | (rw [evE]; rfl)) (.inr rfl)
  · exact lce_ok ok h _ _ _ _
  · exact (cmp_ok ok h _ _ _ _).1
  · rename_i f as kws p
    cases hE : isEOf c f as kws with
    | some q => exact isE_ok ok h f as kws p hE
    | none =>
    cases kws with
    | cons _ _ => exact kw_ok ok h _ _ _ _ (by simp) hE
    | nil =>
      cases f <;> try (simp only [compE, hE]; cases c.calm <;> exact never_ok)
      · exact mut_ok ok h _ _ _ _ _
      · exact fn_call_ok ok h _ _ _ _ hE
  · exact con_ok
  · exact sub_ok ok h _ _ _
  · exact name_ok h _ _
  · rename_i es p
    simp only [compE]
    split
    · rename_i hh
      simp only [Bool.and_eq_true, decide_eq_true_eq] at hh
      exact pes_of (se_lst (few hh.2) (ok.es c X W h C es hh.1)) (by funext e; first | (rw [evE]; done) | (rw [evE]; rfl)) (.inr rfl)
    · exact never_ok
  · rename_i es kk p
    simp only [compE]
    split
    · rename_i hh
      simp only [Bool.and_eq_true, decide_eq_true_eq] at hh
      exact pes_of (se_tup (few hh.2) (ok.es c X W h C es hh.1)) (by funext e; first | (rw [evE]; done) | (rw [evE]; rfl)) (.inl rfl)
    · exact never_ok
theorem t_ok (ok : Ok G cl k n) (h : XOk G cl k c X W) (e : Expr) : PT X e (tT G C W false (asT (evE cl (compE c (n + 1) e)))) := by
  by_cases h1 : ∃ x p, e = .UnaryOp .Not x p
  · obtain ⟨a, p, rfl⟩ := h1
    simp only [compE]
    rw [asT_not]
    exact st_not (ok.t c X W h C a)
  by_cases h2 : ∃ o x p, e = .BoolOp o x p
  · obtain ⟨o, a, p, rfl⟩ := h2
    exact (boolT_ok ok h _ _ _).pt
  by_cases h3 : ∃ a b d p, e = .IfExp a b d p
  · obtain ⟨a, b, d, p, rfl⟩ := h3
    simp only [compE]
    rw [asT_ite]
    exact st_ite (ok.t c X W h C _) (ok.t c X W h C _) (ok.t c X W h C _)
  by_cases h4 : ∃ a b d p, e = .Compare a b d p
  · obtain ⟨a, b, d, p, rfl⟩ := h4
    exact (cmp_ok ok h _ _ _ _).2
  exact st_of (n := 0) (e_ok ok h e) fun whole => tru_ns (fun x p q => h1 ⟨x, p, q⟩) (fun o x p q => h2 ⟨o, x, p, q⟩) (fun a b d p q => h3 ⟨a, b, d, p, q⟩) (fun a b d p q => h4 ⟨a, b, d, p, q⟩)
theorem ok_all : ∀ n, Ok G cl k n
  | 0 => ok0
  | n + 1 => {
    e := fun c X W h C e => e_ok (ok_all n) h e
    t := fun c X W h C e => t_ok (ok_all n) h e
    es := fun c X W h C es hs => es_ok (ok_all n) h es hs
    i := fun c X W h C tg it => i_ok (ok_all n) h tg it
    b := fun c X W h C op vs p => boolT_ok (ok_all n) h op vs p }
end
end LT
set_option maxHeartbeats 2000000
/-! LtTr: try, the exception being a thing of the heap within the suite. -/
namespace LT
open PySem L2 PySem.Spec PyProof.Rows
section
variable {X : Cx} {pins : List (Addr × Obj)} {σ : List (Option V)} {H : Hp} {s : Shared} {a : Addr} {oe : Obj} {vs : Array Value}
abbrev suiteF (X : Cx) (a : Addr) (pn : List (Addr × Obj)) : Cx := { X with A := X.A.mark (some (.ref a)), calm := false, pn := pn, xe := fun _ _ => False }
theorem okSuite (ok : X.Ok) (a : Addr) (pn : List (Addr × Obj)) : (suiteF X a pn).Ok :=
  ⟨ok.mod, ok.kind, ok.glob, ok.blt, ok.above, ok.inj, ok.has, ok.cab, (fun z => absurd (show false = true from z) Bool.false_ne_true), ok.frames, ok.stk, ok.exf, ok.bs, ok.bsz, ok.noex, ok.exfs, ok.funs, ok.frf⟩
theorem Inv.frzE (I : Inv X pins σ H s) (he : s.heap.get? a = some oe) (hd : oe.data = .fields vs) (na : H a = none) (nL : a ≠ X.env.locals) (n0 : X.s_0.heap.get? a = none) (np : ∀ p ∈ X.pn ++ pins, p.1 ≠ a) :
    Inv (suiteF X a (X.pn ++ pins)) [] σ (upd H a (.frz oe (exU a oe))) s := by
  have ne : ∀ {b : Addr} {o : Obj}, X.s_0.heap.get? b = some o → b ≠ a := fun {b o} e z => by subst z; rw [n0] at e; cases e
  have nh : ∀ {b : Addr} {o : HO}, H b = some o → b ≠ a := fun {b o} e z => by subst z; rw [na] at e; cases e
  refine ⟨okSuite I.ok _ _, I.os, I.bare, ⟨I.base.keep, I.base.slot, fun b o e n hx => ?_, I.base.there, fun b xs e => ?_, fun b o u e => ?_, fun b ps e => ?_⟩, I.loc, I.cell, ?_, fun x c e => ?_, fun p hp => ?_, fun b ob e => ?_, I.len⟩
  · rw [upd_ne (ne e)]; exact I.base.free b o e n hx
  · have := I.base.tups b xs e
    rw [upd_ne (nh this)]; exact this
  · have := I.base.frzs b o u e
    rw [upd_ne (nh this)]; exact this
  · obtain ⟨more, this⟩ := I.base.tbls b ps e
    exact ⟨more, by rw [upd_ne (nh this)]; exact this⟩
  · show upd H a _ X.env.locals = none
    rw [upd_ne (Ne.symm nL)]; exact I.free
  · have hc := I.freeC x c e
    by_cases q : c = a
    · subst q
      obtain ⟨v, o, ho, hdt⟩ := I.cell x c e
      rw [he] at ho
      cases ho
      rw [hd] at hdt
      cases hdt
    · rw [upd_ne q]; exact hc
  · have hp' : p ∈ X.pn ++ pins := by rw [List.append_nil] at hp; exact hp
    obtain ⟨h1, h2, h3⟩ := I.pin p hp'
    exact ⟨h1, by rw [upd_ne (np p hp')]; exact h2, h3⟩
  · by_cases q : b = a
    · subst q
      rw [upd_same] at e
      cases e
      exact ⟨he, he, ⟨oe, he⟩, fun h1 h2 p k => k _ p⟩
    · rw [upd_ne q] at e
      refine (I.hok b ob e).stay (fun c w' hc q => q) (fun c q => ?_) fun c xs q => ?_
      · rw [upd_ne (nh q)]; exact q
      · rw [upd_ne (nh q)]; exact q
theorem Inv.unfrz (I : Inv (suiteF X a (X.pn ++ pins)) [] σ H s) (ok : X.Ok) : Inv X pins σ H s :=
  ⟨ok, I.os, I.bare, I.base, I.loc, I.cell, I.free, I.freeC, fun p hp => I.pin p (List.mem_append_left _ hp), I.hok, I.len⟩
/-- what a clause wishes of an exception of the body -/
def wF (K : PySem.W.Frag) (c : Value) (i : Option Nat) (ts : TS) (Wout : WX) (D : Ends) : WX := fun cls d σ H =>
  ∃ b, PySem.W.exmOne K cls c = some b ∧ (b = true → ∀ a oe, H a = none → Zc cls d oe → (∃ vs, oe.data = .fields vs) → match i with
    | some i => ts { nx := fun σ' H' => D.nx (σ'.set i none) H', rt := D.rt, bk := fun σ' H' => D.bk (σ'.set i none) H', ct := fun σ' H' => D.ct (σ'.set i none) H' } (σ.set i (some (.ref a))) (upd H a (.frz oe (exU a oe)))
    | none => ts D σ (upd H a (.frz oe (exU a oe)))) ∧ (b = false → Wout cls d σ H)
end
section
variable {X : Cx} {x n : Str} {c : Value} {i : Nat} {body suite : List Stmt} {b₀ : Stmt} {np pos pos' : Pos} {tb : WX → TS} {ts : TS} {Wout : WX}
theorem ps_try_fas (hs : X.stack = X.env :: X.outer) (hf : X.env.frame = some X.env.locals) (hex : X.ex = []) (hN : X.N.Nodup) (hi : X.N[i]? = some n) (hln : X.env.kindOf n = some .local) (hc : Names X x c) (tk : Takes X Wout)
    (hb : ∀ (W : WX) (pn : List (Addr × Obj)) (xe : Value → Shared → Prop), Takes (X.tr pn xe) W → PassesOwn (model X.prog X.w) X.A X.env xe → PSs (X.tr pn xe) body (tb W))
    (hsu : ∀ (a : Addr) (pn : List (Addr × Obj)), PSs (suiteF X a pn) (b₀ :: suite) ts) :
    PS X (.Try body [.ExceptHandler (some (.Name x np)) (some n) (b₀ :: suite) pos'] [] [] pos) (fun D σ H => tb (wF X.K c (some i) ts Wout D) D σ H) := by
  refine ⟨fun pins s σ H D I h => ?_⟩
  have ok := I.ok
  have hfr : X.A.frames = some (X.env :: X.outer) := by rw [ok.frames, hs]
  have hloc : Loc X.env.scope n := .inl hln
  refine wpAny_Try_except ?_
  refine wpAny_mono ((hb (wF X.K c (some i) ts Wout D) (X.pn ++ pins) (fun e s₁ => wpAny (model X.prog X.w) X.A (noteFrame e X.env) (fun _ s₂ => wpAny (model X.prog X.w) X.A (setFlight e none) (fun _ s₃ =>
    wpAny (model X.prog X.w) X.A (handleBy e X.env [.ExceptHandler (some (.Name x np)) (some n) (b₀ :: suite) pos']) (SP X pins D) X.xe s₃) X.xe s₂) X.xe s₁) (fun u s' xx => ?_) PassesOwn.looking).run [] s σ H D (I.toTry _) h) (fun f s1 hsp => ?_) (fun e s1 he => he)
  · -- the catch
    obtain ⟨a, B, sI, pins', σ', H', cls, d, rfl, J', nb, up, sky, na, os, ag, b, hb1, hyes, hno⟩ := xx
    have J : Inv X pins σ' H' sI := J'.ofTry ok
    have sky' : Sky B (X.env :: X.outer) a (Zc cls d) X.env.locals s'.heap := by rw [← hs]; exact sky
    show wpAny (model X.prog X.w) X.A (noteFrame (.ref a) X.env) _ _ _
    refine Sky.land Zc.steady hfr hf sky' fun h3 fl3 up3 => ?_
    have J3 : Inv X pins σ' H' { s' with heap := h3 } := J.landed nb fl3.1 (up.trans up3) os ag
    obtain ⟨oe3, vs3, he3, hz3, hd3⟩ := fl3.there
    have notFr : ∀ {h : Heap} {o : Obj} {vs : Array Value}, h.FunFrames B (X.env :: X.outer) → h.get? a = some o → o.data = .fields vs → a ∉ frs (X.env :: X.outer) := fun {h o vs} ff e dd hm => by
      obtain ⟨_, o', e', hnf⟩ := ff.mem hm
      rw [e] at e'; cases e'
      exact hnf _ dd
    have nfr := notFr fl3.2.2.1 he3 hd3
    have nL : a ≠ X.env.locals := fun z => nfr (List.mem_filterMap.mpr ⟨X.env, List.mem_cons_self, by rw [hf, z]⟩)
    have nF : a ∉ X.fs := fun hm => by
      obtain ⟨e, he, q⟩ := List.mem_filterMap.mp hm
      exact nfr (List.mem_filterMap.mpr ⟨e, List.mem_cons_of_mem _ he, q⟩)
    have nI : sI.heap.get? a = none := by
      cases q : sI.heap.get? a with
      | none => rfl
      | some o =>
        have := nb a o q (by rw [hs]; exact nfr)
        rw [fl3.2.1] at this
        cases this
    have n0 : X.s_0.heap.get? a = none := by
      cases q : X.s_0.heap.get? a with
      | none => rfl
      | some o =>
        by_cases hx : a ∈ X.ex
        · rw [hex] at hx; cases hx
        · obtain ⟨o', e'⟩ := J.base.there a o q hx
          rw [nI] at e'
          cases e'
    have nP : ∀ p ∈ X.pn ++ pins, p.1 ≠ a := fun p hp z => by
      obtain ⟨e, _⟩ := J.pin p hp
      rw [z, nI] at e
      cases e
    have S3 := Inv.frzE J3 he3 hd3 na nL n0 nP
    refine wpAny_handleBy_cons (codeAny_handlers_test ?_) (by intro q; cases q)
    have LTy : PySem.W.Looks (model X.prog X.w) h3 (typeOf (.ref a)) cls := fun A Q E s k q => wpAny_typeOf_ref (k _ _ he3) (by rw [hz3.1]; exact q)
    have LM := PySem.W.exm_one (M := model X.prog X.w) (J3.kIn) LTy hb1
    have test : ∀ {Q : Value → Shared → Prop} {E : Value → Shared → Prop}, Q c { s' with heap := h3 } → wpAny (model X.prog X.w) (X.A.mark (some (.ref a))) (eval (.Name x np) X.env) Q E { s' with heap := h3 } := fun {Q E} q => by
      obtain ⟨hg, hdbg, hm | ⟨hm, hv, hnn⟩⟩ := hc
      · exact ld_glob (X := suiteF X a (X.pn ++ pins)) S3 hg hm q hdbg
      · exact ld_blt (X := suiteF X a (X.pn ++ pins)) S3 hg hm hv q hnn hdbg
    refine test (LM.here ?_)
    cases b with
    | true =>
      refine codeAny_handlers_suite_as ?_
      refine HandSPX.lands_againZ fl3 fun h4 fl4 up4 => ?_
      have J4 : Inv X pins σ' H' { s' with heap := h4 } := J.landed nb fl4.1 ((up.trans up3).trans up4) os ag
      obtain ⟨oe4, vs4, he4, hz4, hd4⟩ := fl4.there
      have S4 := Inv.frzE J4 he4 hd4 na nL n0 nP
      refine store_ok (X := suiteF X a (X.pn ++ pins)) (v := .ref a) S4 hN hi hloc rfl (fun s5 S5 => ?_) (.inr hln)
      refine wpAny_mono ((hsu a (X.pn ++ pins)).run [] s5 _ _ _ S5 (hyes rfl a oe4 na hz4 ⟨_, hd4⟩)) (fun f s6 hsp => ?_) (fun _ _ z => False.elim z)
      have end_ : ∀ {σ6 : L2.St} {H6 : Hp} {Q : Shared → Prop}, Inv (suiteF X a (X.pn ++ pins)) [] σ6 H6 s6 → (∀ s7, Inv X pins (σ6.set i none) H6 s7 → Q s7) →
          wpAny (model X.prog X.w) X.A (do bindName X.env n .none; unbindBehindTheSuite X.env n pos') (fun _ s7 => Q s7) X.xe s6 := fun {σ6 H6 Q} S6 hq => gone_ok (Inv.unfrz S6 ok) hN hi hln hq
      cases f with
      | next =>
        obtain ⟨σ6, H6, S6, q6⟩ := hsp
        exact end_ S6 fun s7 J7 => ⟨_, _, J7, q6⟩
      | brk =>
        obtain ⟨σ6, H6, S6, q6⟩ := hsp
        exact end_ S6 fun s7 J7 => ⟨_, _, J7, q6⟩
      | cont =>
        obtain ⟨σ6, H6, S6, q6⟩ := hsp
        exact end_ S6 fun s7 J7 => ⟨_, _, J7, q6⟩
      | ret u =>
        obtain ⟨v6, σ6, H6, S6, r6, q6⟩ := hsp
        exact end_ S6 fun s7 J7 => ⟨_, _, _, J7, r6, q6⟩
    | false =>
      show wpAny _ X.A (handleBy (.ref a) X.env []) _ _ _
      refine wpAny_handleBy_nil ?_
      obtain ⟨k1, k2, k3, oe, vs, T, oT, ts', he, hz, hd, h1, hr⟩ := id fl3
      unfold PySem.passOn
      refine wpAny_bind (wpAny_field he hd h1 ?_)
      rw [if_neg (show ¬ ((Value.ref T == Value.none) = true) from by simp)]
      have fin : wpAny (model X.prog X.w) X.A (setFlight (.ref a) X.env.frame) (fun _ s4 => wpAny (model X.prog X.w) X.A (throw (.ref a) : Sem Flow) (SP X pins D) X.xe s4) X.xe { s' with heap := h3 } := by
        rw [hf]
        refine HandSPX.setFlight_upZ fl3 fun h4 hh4 up4 => wpAny_throw (tk _ _ ?_)
        exact ⟨a, B, sI, pins, σ', H', cls, d, rfl, J, nb, (up.trans up3).trans up4, .inr (.inr (by rw [hs]; exact hh4)), na, os, ag, hno rfl⟩
      first
        | exact wpAny_bind (wpAny_pure (wpAny_bind fin))
        | exact wpAny_bind fin
  · cases f with
    | next =>
      obtain ⟨σ', H', J', q⟩ := hsp
      exact wpAny_execs_nil ⟨σ', H', J'.ofTry ok, q⟩
    | brk =>
      obtain ⟨σ', H', J', q⟩ := hsp
      exact ⟨σ', H', J'.ofTry ok, q⟩
    | cont =>
      obtain ⟨σ', H', J', q⟩ := hsp
      exact ⟨σ', H', J'.ofTry ok, q⟩
    | ret u =>
      obtain ⟨v, σ', H', J', r, q⟩ := hsp
      exact ⟨v, σ', H', J'.ofTry ok, r, q⟩
theorem ps_try_fonly (hs : X.stack = X.env :: X.outer) (hf : X.env.frame = some X.env.locals) (hex : X.ex = []) (hc : Names X x c) (tk : Takes X Wout)
    (hb : ∀ (W : WX) (pn : List (Addr × Obj)) (xe : Value → Shared → Prop), Takes (X.tr pn xe) W → PassesOwn (model X.prog X.w) X.A X.env xe → PSs (X.tr pn xe) body (tb W))
    (hsu : ∀ (a : Addr) (pn : List (Addr × Obj)), PSs (suiteF X a pn) (b₀ :: suite) ts) :
    PS X (.Try body [.ExceptHandler (some (.Name x np)) none (b₀ :: suite) pos'] [] [] pos) (fun D σ H => tb (wF X.K c none ts Wout D) D σ H) := by
  refine ⟨fun pins s σ H D I h => ?_⟩
  have ok := I.ok
  have hfr : X.A.frames = some (X.env :: X.outer) := by rw [ok.frames, hs]
  refine wpAny_Try_except ?_
  refine wpAny_mono ((hb (wF X.K c none ts Wout D) (X.pn ++ pins) (fun e s₁ => wpAny (model X.prog X.w) X.A (noteFrame e X.env) (fun _ s₂ => wpAny (model X.prog X.w) X.A (setFlight e none) (fun _ s₃ =>
    wpAny (model X.prog X.w) X.A (handleBy e X.env [.ExceptHandler (some (.Name x np)) none (b₀ :: suite) pos']) (SP X pins D) X.xe s₃) X.xe s₂) X.xe s₁) (fun u s' xx => ?_) PassesOwn.looking).run [] s σ H D (I.toTry _) h) (fun f s1 hsp => ?_) (fun e s1 he => he)
  · -- the catch
    obtain ⟨a, B, sI, pins', σ', H', cls, d, rfl, J', nb, up, sky, na, os, ag, b, hb1, hyes, hno⟩ := xx
    have J : Inv X pins σ' H' sI := J'.ofTry ok
    have sky' : Sky B (X.env :: X.outer) a (Zc cls d) X.env.locals s'.heap := by rw [← hs]; exact sky
    show wpAny (model X.prog X.w) X.A (noteFrame (.ref a) X.env) _ _ _
    refine Sky.land Zc.steady hfr hf sky' fun h3 fl3 up3 => ?_
    have J3 : Inv X pins σ' H' { s' with heap := h3 } := J.landed nb fl3.1 (up.trans up3) os ag
    obtain ⟨oe3, vs3, he3, hz3, hd3⟩ := fl3.there
    have notFr : ∀ {h : Heap} {o : Obj} {vs : Array Value}, h.FunFrames B (X.env :: X.outer) → h.get? a = some o → o.data = .fields vs → a ∉ frs (X.env :: X.outer) := fun {h o vs} ff e dd hm => by
      obtain ⟨_, o', e', hnf⟩ := ff.mem hm
      rw [e] at e'; cases e'
      exact hnf _ dd
    have nfr := notFr fl3.2.2.1 he3 hd3
    have nL : a ≠ X.env.locals := fun z => nfr (List.mem_filterMap.mpr ⟨X.env, List.mem_cons_self, by rw [hf, z]⟩)
    have nF : a ∉ X.fs := fun hm => by
      obtain ⟨e, he, q⟩ := List.mem_filterMap.mp hm
      exact nfr (List.mem_filterMap.mpr ⟨e, List.mem_cons_of_mem _ he, q⟩)
    have nI : sI.heap.get? a = none := by
      cases q : sI.heap.get? a with
      | none => rfl
      | some o =>
        have := nb a o q (by rw [hs]; exact nfr)
        rw [fl3.2.1] at this
        cases this
    have n0 : X.s_0.heap.get? a = none := by
      cases q : X.s_0.heap.get? a with
      | none => rfl
      | some o =>
        by_cases hx : a ∈ X.ex
        · rw [hex] at hx; cases hx
        · obtain ⟨o', e'⟩ := J.base.there a o q hx
          rw [nI] at e'
          cases e'
    have nP : ∀ p ∈ X.pn ++ pins, p.1 ≠ a := fun p hp z => by
      obtain ⟨e, _⟩ := J.pin p hp
      rw [z, nI] at e
      cases e
    have S3 := Inv.frzE J3 he3 hd3 na nL n0 nP
    refine wpAny_handleBy_cons (codeAny_handlers_test ?_) (by intro q; cases q)
    have LTy : PySem.W.Looks (model X.prog X.w) h3 (typeOf (.ref a)) cls := fun A Q E s k q => wpAny_typeOf_ref (k _ _ he3) (by rw [hz3.1]; exact q)
    have LM := PySem.W.exm_one (M := model X.prog X.w) (J3.kIn) LTy hb1
    have test : ∀ {Q : Value → Shared → Prop} {E : Value → Shared → Prop}, Q c { s' with heap := h3 } → wpAny (model X.prog X.w) (X.A.mark (some (.ref a))) (eval (.Name x np) X.env) Q E { s' with heap := h3 } := fun {Q E} q => by
      obtain ⟨hg, hdbg, hm | ⟨hm, hv, hnn⟩⟩ := hc
      · exact ld_glob (X := suiteF X a (X.pn ++ pins)) S3 hg hm q hdbg
      · exact ld_blt (X := suiteF X a (X.pn ++ pins)) S3 hg hm hv q hnn hdbg
    refine test (LM.here ?_)
    cases b with
    | true =>
      refine codeAny_handlers_suite ?_
      refine HandSPX.lands_againZ fl3 fun h4 fl4 up4 => ?_
      have J4 : Inv X pins σ' H' { s' with heap := h4 } := J.landed nb fl4.1 ((up.trans up3).trans up4) os ag
      obtain ⟨oe4, vs4, he4, hz4, hd4⟩ := fl4.there
      have S4 := Inv.frzE J4 he4 hd4 na nL n0 nP
      refine wpAny_mono ((hsu a (X.pn ++ pins)).run [] _ _ _ _ S4 (hyes rfl a oe4 na hz4 ⟨_, hd4⟩)) (fun f s6 hsp => ?_) (fun _ _ z => False.elim z)
      cases f with
      | next =>
        obtain ⟨σ6, H6, S6, q6⟩ := hsp
        exact ⟨_, _, Inv.unfrz S6 ok, q6⟩
      | brk =>
        obtain ⟨σ6, H6, S6, q6⟩ := hsp
        exact ⟨_, _, Inv.unfrz S6 ok, q6⟩
      | cont =>
        obtain ⟨σ6, H6, S6, q6⟩ := hsp
        exact ⟨_, _, Inv.unfrz S6 ok, q6⟩
      | ret u =>
        obtain ⟨v6, σ6, H6, S6, r6, q6⟩ := hsp
        exact ⟨_, _, _, Inv.unfrz S6 ok, r6, q6⟩
    | false =>
      show wpAny _ X.A (handleBy (.ref a) X.env []) _ _ _
      refine wpAny_handleBy_nil ?_
      obtain ⟨k1, k2, k3, oe, vs, T, oT, ts', he, hz, hd, h1, hr⟩ := id fl3
      unfold PySem.passOn
      refine wpAny_bind (wpAny_field he hd h1 ?_)
      rw [if_neg (show ¬ ((Value.ref T == Value.none) = true) from by simp)]
      have fin : wpAny (model X.prog X.w) X.A (setFlight (.ref a) X.env.frame) (fun _ s4 => wpAny (model X.prog X.w) X.A (throw (.ref a) : Sem Flow) (SP X pins D) X.xe s4) X.xe { s' with heap := h3 } := by
        rw [hf]
        refine HandSPX.setFlight_upZ fl3 fun h4 hh4 up4 => wpAny_throw (tk _ _ ?_)
        exact ⟨a, B, sI, pins, σ', H', cls, d, rfl, J, nb, (up.trans up3).trans up4, .inr (.inr (by rw [hs]; exact hh4)), na, os, ag, hno rfl⟩
      first
        | exact wpAny_bind (wpAny_pure (wpAny_bind fin))
        | exact wpAny_bind fin
  · cases f with
    | next =>
      obtain ⟨σ', H', J', q⟩ := hsp
      exact wpAny_execs_nil ⟨σ', H', J'.ofTry ok, q⟩
    | brk =>
      obtain ⟨σ', H', J', q⟩ := hsp
      exact ⟨σ', H', J'.ofTry ok, q⟩
    | cont =>
      obtain ⟨σ', H', J', q⟩ := hsp
      exact ⟨σ', H', J'.ofTry ok, q⟩
    | ret u =>
      obtain ⟨v, σ', H', J', r, q⟩ := hsp
      exact ⟨v, σ', H', J'.ofTry ok, r, q⟩
end
end LT
/-! LuA: the tree does what the small language says: statements. -/
namespace LT
open PySem L2
open PyProof.Rows
/-- two or three plain names, stored from the right -/
def swp (c : CC) (ts vs : List Expr) : Option (List Nat) := match ts, vs with
  | [.Name x px, .Name y py], [a, b] => if c.calm && c.kind x == some .local && c.kind y == some .local && okName x && okName y && decide (x ≠ y) && (py.line == px.line) && noStar [a, b] && !([a, b].all (foldedForSure 8)) && !([a, b].all (constantsAlone 8)) then (match c.loc x, c.loc y with
    | some i, some j => some [i, j]
    | _, _ => none) else none
  | _, _ => none
/-- a class that is raised with a text alone -/
def rais (c : CC) (x : Str) : Option Nat := if c.calm && c.glo x then (match c.exc.lookup x with
  | some k => if k == 4 || k == 5 then none else some k
  | none => none) else none
def raisOf (c : CC) : Option Expr → Option Expr → Option Nat
  | some (.Call (.Name x _) [.Constant (.str _) _ _] [] _), none => rais c x
  | _, _ => none
/-- the one clause: its class, its name's slot, its suite -/
def hand (c : CC) : List ExceptHandler → Option (Nat × Option Nat × List Stmt)
  | [.ExceptHandler (some (.Name x _)) none (b :: bs) _] => if c.calm && c.glo x then (match c.exc.lookup x with
    | some k => some (k, none, b :: bs)
    | none => none) else none
  | [.ExceptHandler (some (.Name x _)) (some n) (b :: bs) _] => if c.calm && c.glo x && c.kind n == some .local && okName n then (match c.exc.lookup x, ixName n c.N 0 with
    | some k, some i => some (k, some i, b :: bs)
    | _, _ => none) else none
  | _ => none
mutual
def compS (c : CC) : Nat → Stmt → S
  | 0, _ => .never
  | n + 1, .Return v _ => (match v with
    | some e => .ret (compE c n e)
    | none => .ret (.con .non))
  | n + 1, .Assign ts a pos => (match ts with
    | [.Name x px] => (match c.loc x with
      | some i => .asg i (compE c n a)
      | none => .never)
    | [.Subscript o k _] => if isSlice k || isComp a then .never else .seti (compE c n o) (compE c n k) (compE c n a)
    | [.Tuple es kk tp] => if noStar es && !isComp a then (match a with
      | .Tuple vs _ _ => if noStar vs && vs.all (foldedForSure 8) then (match tgOf c n (.Tuple es kk tp) with
          | some t => .asgT t (compE c n a)
          | none => .never) else (match swp c es vs with
          | some is => .asgP is (compEs c n vs)
          | none => .never)
      | _ => (match tgOf c n (.Tuple es kk tp) with
        | some t => .asgT t (compE c n a)
        | none => .never)) else .never
    | _ => .never)
  | n + 1, .AugAssign t op a _ => (match t with
    | .Name x _ => (match op with
      | .Add => (match c.loc x with
        | some i => .aug i (compE c n a)
        | none => .never)
      | _ => .never)
    | _ => .never)
  | n + 1, .Expr e _ => (match e with
    | .Constant (.str _) _ _ => .pass
    | _ => if isComp e then .never else .ex (compE c n e))
  | n + 1, .If t a b _ => .ifS (compE c n t) (compSs c n a) (compSs c n b)
  | n + 1, .While t b e _ => (match e with
    | [] => if c.calm then .whl (compE c n t) (compSs c n b) else .never
    | _ => .never)
  | n + 1, .For tg it b e _ => (match e with
    | [] => if isSet it || !c.calm then .never else (match tgOf c n tg with
      | some t => .forS t (compI c n tg it) (compSs c n b)
      | none => .never)
    | _ => .never)
  | _ + 1, .Pass _ => .pass
  | _ + 1, .Break _ => .brk
  | _ + 1, .Continue _ => .cnt
  | _ + 1, .Raise e cause _ => (match raisOf c e cause with
    | some k => .rais k .nil
    | none => .never)
  | n + 1, .Try body hs orelse fin _ => (match orelse, fin with
    | [], [] => (match hand c hs with
      | some (k, i, suite) => .tryS (compSs c n body) k i (compSs { c with calm := false } n suite)
      | none => .never)
    | _, _ => .never)
  | _ + 1, _ => .never
def compSs (c : CC) : Nat → List Stmt → Ss
  | 0, _ => .cons .never .nil
  | _ + 1, [] => .nil
  | n + 1, s :: ss => .cons (compS c n s) (compSs c n ss)
end
section
variable {G : GK} {cl : Nat → List D → CR} {N : Nat} {k : Nat} {c : CC} {X : Cx} {W : WX} {C : Fc} {n : Nat} {ln : List Nat}
theorem neverS {s : Stmt} : PS X s (tS G C W ln (evS cl N .never ln)) := by
  have : evS cl N .never ln = fun _ => .err := by funext e; rw [evS]
  rw [this]
  exact ss_never
theorem sw_nc {a : Expr} {t : Option Expr} {l : Nat} {env : PySem.Env} (h : isComp a = false) : swapsWith a t l env = pure false := by
  cases a <;> first | rfl | cases h
theorem sw_sub {a o kk : Expr} {p : Pos} {l : Nat} {env : PySem.Env} (h : isComp a = false) : swapsWithSole [.Subscript o kk p] a l env = pure false := by cases a <;> first | rfl | cases h
theorem kind_fn (h : XOk G cl k c X W) : X.env.blockKind = .function := by unfold Env.blockKind; rw [h.kd]; rfl
theorem sw_false {elt : Expr} {gs : List Comprehension} {scope : Scope} {pos py : Pos} {y : Str} {l : Nat} {env : PySem.Env} (hk : env.blockKind = .function)
    (ha : (env.kindOf y == some .local && py.line == pos.line && !(scope.names.any fun (n, k) => n == y && (k == .local || k == .cell))) = false) : swapsWith (.ListComp elt gs scope pos) (some (.Name y py)) l env = pure false := by
  unfold swapsWith
  simp only [hk, Expr.pos]
  have e : (((ScopeKind.function == ScopeKind.function && env.kindOf y == some .local) && py.line == pos.line) && !(scope.names.any fun (n, k) => n == y && (k == .local || k == .cell))) = false := by
    rw [show (ScopeKind.function == ScopeKind.function) = true from rfl, Bool.true_and]
    exact ha
  show (pure _ : Sem Bool) = pure false
  exact congrArg pure e
theorem lc_shape {n : Nat} {elt : Expr} {gs : List Comprehension} {scope : Scope} {p : Pos} (h : XOk G cl k c X W) (ok : Ok G cl k n) :
    compE c (n + 1) (.ListComp elt gs scope p) = .never ∨ ∃ tg it ifs irE irC irI t own g, gs = [⟨tg, it, ifs, 0⟩] ∧ isSet it = false ∧ c.calm = true ∧ compE c (n + 1) (.ListComp elt gs scope p) = .lc irE t irI irC ∧ LcOk G cl X elt tg it ifs scope own t g irE irC irI := by
  simp only [compE]
  split
  · rename_i tg it ifs
    split
    · exact .inl rfl
    · rename_i hset
      have hset2 : isSet it = false ∧ c.calm = true := by simpa using hset
      have hset := hset2.1
      have hcl := hset2.2
      split
      · rename_i t e1
        split
        · rename_i e2
          simp only [Bool.and_eq_true, decide_eq_true_eq] at e2
          have L := lc_ok (elt := elt) ok h e1 e2.1 e2.2 fun W' tk' C => ok.i c X W' { h with tk := tk' } C tg it
          split
          · exact .inr ⟨_, _, _, _, _, _, _, _, _, rfl, hset, hcl, rfl, L.1⟩
          · exact .inr ⟨_, _, _, _, _, _, _, _, _, rfl, hset, hcl, rfl, L.2 _⟩
          · exact .inl rfl
        · exact .inl rfl
      · exact .inl rfl
  · exact .inl rfl
theorem ev_asg {i : Nat} {a : E} : evS cl N (.asg i a) ln = fun e => ((evE cl a e).bind esc).go fun d e => asgD ln i d e := by funext e; rw [evS]
/-- x = e -/
theorem asg_ok (h : XOk G cl k c X W) {x : Str} {px pos : Pos} {i : Nat} (a : Expr) (e1 : c.loc x = some i) : PS X (.Assign [.Name x px] a pos) (tS G C W ln (evS cl N (.asg i (compE c n a)) ln)) := by
  obtain ⟨h1, h2, h3⟩ := h.locl e1
  rw [ev_asg]
  by_cases hc : isComp a = true
  · have dead : compE c n a = .never → PS X (.Assign [.Name x px] a pos) (tS G C W ln (fun e => ((evE cl (compE c n a) e).bind esc).go fun d e => asgD ln i d e)) := fun q => by
      rw [q, evE_never]
      exact ss_never
    cases n with
    | zero => exact dead (by simp only [compE])
    | succ n =>
      cases a <;> try (simp only [isComp] at hc; cases hc; done)
      · rename_i elt gs scope p
        rcases lc_shape (elt := elt) (gs := gs) (scope := scope) (p := p) h (ok_all n) with q | ⟨tg, it, ifs, irE, irC, irI, t, own, g, rfl, hset, hcl, q, L⟩
        · exact dead q
        · rw [q]
          by_cases sw : (X.env.kindOf x == some .local && px.line == p.line && !(scope.names.any fun (n, k) => n == x && (k == .local || k == .cell))) = true
          · simp only [Bool.and_eq_true, Bool.not_eq_true', beq_iff_eq] at sw
            refine ss_asg (sa := false) (PS.mono (ps_setLc (i := i) (h.calm hcl) h.nd h1 sw.1.1 (sw_true h.kd sw.1.1 (by simpa using sw.1.2) sw.2) (L.hi W h.tk C) L.blk L.pg (L.tt C.blk) (L.te C.blk) (noSet hset _)) fun D σ H (hh : tE G C W false (evE cl (.lc irE t irI irC)) σ H _) => ?_)
            rw [ev_lc] at hh
            exact lc_tLc L.tgG (fun i m => by rw [← L.sl]; exact m) (fun i m => by rw [L.sl]; exact m) hh
          · exact ss_asg (ps_set h.nd h1 h2 (se_lc (h.calm hcl) h L hset) (sw_false (kind_fn h) (Bool.eq_false_iff.mpr sw)) h3)
      · exact dead (by simp only [compE])
      · exact dead (by simp only [compE])
  · exact ss_asg (ps_set h.nd h1 h2 ((ok_all n).e c X W h C a) (sw_nc (by simpa using hc)) h3)
end
end LT
/-! LuB: statements at each depth. -/
namespace LT
open PySem L2
open PyProof.Rows
section
variable {G : GK} {cl : Nat → List D → CR} {N : Nat} {k : Nat} {c : CC} {X : Cx} {W : WX} {C : Fc} {n : Nat} {ln : List Nat}
theorem evT_asT {a : E} : evT cl a = asT (evE cl a) := by funext e; unfold evT asT; rfl
theorem ss_retN {p : Pos} : PS X (.Return none p) (tS G C W ln (evS cl N (.ret (.con .non)) ln)) := by
  refine PS.mono ps_retN fun D σ H ⟨tm, env, ⟨O, F⟩, hp, hl, k⟩ => ?_
  rw [evS, evE] at k
  exact k .non σ H ⟨O, F.push0 (fun _ _ z => z) rfl (O1 := no) (by simp [Rep])⟩
theorem assign_sub {o kk : Expr} {p : Pos} {env : PySem.Env} (h : isSlice kk = false) : ∀ v, assign (.Subscript o kk p) env v = (do
      let ov ← holding [v] (eval o env)
      let iv ← holding [v, ov] (eval kk env)
      standAt p
      holding [v, ov, iv] (setItem ov iv v)
      release [v, ov, iv] []) := fun v => by cases kk <;> first | rfl | cases h
theorem seti_ok (h : XOk G cl k c X W) {o kk a : Expr} {tp pos : Pos} (h1 : isSlice kk = false) (h2 : isComp a = false) : PS X (.Assign [.Subscript o kk tp] a pos) (tS G C W ln (evS cl N (.seti (compE c n o) (compE c n kk) (compE c n a)) ln)) := by
  by_cases hs : ((compE c n o).simple && (compE c n kk).simple) = true
  · have e1 : evS cl N (.seti (compE c n o) (compE c n kk) (compE c n a)) ln = fun e => ((evE cl (compE c n a) e).bind esc).go fun d e => (evE cl (compE c n o) e).got fun t e => (evE cl (compE c n kk) e).got fun u e => setiK t d u e := by
      funext e
      rw [evS, if_pos hs]
      rfl
    rw [e1]
    simp only [Bool.and_eq_true] at hs
    have po := (ok_all n).e c X W h C o
    have pk := (ok_all n).e c X W h C kk
    rw [hs.1] at po
    rw [hs.2] at pk
    exact ss_seti h.hK h.hw h.hu (so := true) (sk := true) ((ok_all n).e c X W h C a) po pk (sw_sub h2) rfl rfl (assign_sub h1)
  · have e1 : evS cl N (.seti (compE c n o) (compE c n kk) (compE c n a)) ln = fun _ => .err := by
      funext e
      rw [evS, if_neg hs]
    rw [e1]
    exact ss_never
theorem swapped_none {ts : List Expr} {kk : Nat} {tp : Pos} {a : Expr} {env : PySem.Env} (h : isTupE a = false) : swappedStores [.Tuple ts kk tp] a env = pure none := by cases a <;> first | rfl | cases h
theorem swapped_folded {ts vs : List Expr} {kk k2 : Nat} {tp p2 : Pos} {env : PySem.Env} (h : vs.all (foldedForSure 8) = true) : swappedStores [.Tuple ts kk tp] (.Tuple vs k2 p2) env = pure none := by
  unfold swappedStores
  dsimp only
  split
  · rfl
  · split
    · rfl
    · split
      · rfl
      · simp only [h, if_true]
theorem sw_tup {ts : List Expr} {kk : Nat} {tp : Pos} {a : Expr} {l : Nat} {env : PySem.Env} (h : isComp a = false) : swapsWithSole [.Tuple ts kk tp] a l env = pure false := by cases a <;> first | rfl | cases h
theorem swapped_some {x y : Str} {px py tp p2 : Pos} {kk k2 : Nat} {a b : Expr} (h : XOk G cl k c X W) (hx : c.kind x = some .local) (hy : c.kind y = some .local) (hxy : x ≠ y) (hl : (py.line == px.line) = true) (hs : noStar [a, b] = true) (h1 : [a, b].all (foldedForSure 8) = false) (h2 : [a, b].all (constantsAlone 8) = false) :
    swappedStores [.Tuple [.Name x px, .Name y py] kk tp] (.Tuple [a, b] k2 p2) X.env = pure (some [x, y]) := by
  have kx : X.env.kindOf x = some .local := h.loc x hx
  have ky : X.env.kindOf y = some .local := h.loc y hy
  have kb := kind_fn h
  obtain ⟨s1, s2⟩ := noStar_cons hs
  obtain ⟨s3, _⟩ := noStar_cons s2
  have hl' : py.line = px.line := by simpa using hl
  unfold swappedStores
  dsimp only
  split
  · rename_i q
    rw [kb] at q
    exact absurd q (by simp)
  · split
    · rename_i q
      exfalso
      simp only [List.any_cons, List.any_nil, Bool.or_false, Bool.or_eq_true] at q
      rcases q with q | q
      · cases a <;> first | (cases s1; done) | (cases q; done)
      · cases b <;> first | (cases s3; done) | (cases q; done)
    · have ed : ([x, y].eraseDups) = [x, y] := by
        have : (y == x) = false := by simpa using fun e => hxy e.symm
        simp [List.eraseDups_cons, List.filter_cons, this]
      simp [List.filterMap_cons, kx, ky, hl', Expr.pos, ed, h1, h2]
theorem ev_asgP {is : List Nat} {as : Es} : evS cl N (.asgP is as) ln = fun e => ((evEs cl as e).bind escL).got fun ds e => asgL ln is ds e := by funext e; rw [evS]
theorem ev_asgT {t : Tg} {a : E} : evS cl N (.asgT t a) ln = fun e => ((evE cl a e).bind esc).go fun d e => asgTD ln t d e := by funext e; rw [evS]
theorem asgT_ok (h : XOk G cl k c X W) {es : List Expr} {kk : Nat} {tp pos : Pos} {a : Expr} {t : Tg} (e1 : tgOf c n (.Tuple es kk tp) = some t) (h1 : isComp a = false) (h2 : swappedStores [.Tuple es kk tp] a X.env = pure none) : PS X (.Assign [.Tuple es kk tp] a pos) (tS G C W ln (evS cl N (.asgT t (compE c n a)) ln)) := by
  have T := (tg_ok h n).1 _ t e1
  rw [ev_asgT]
  exact ss_asgT T (ps_asg ((ok_all n).e c X W h C a) T.pg (sw_tup h1) h2 rfl)
theorem loc_local (h : XOk G cl k c X W) {x : Str} {i : Nat} (e : c.loc x = some i) : X.N[i]? = some x := (h.locl e).1
theorem asgP_ok (h : XOk G cl k c X W) {es vs : List Expr} {kk k2 : Nat} {tp p2 pos : Pos} {is : List Nat} (e1 : swp c es vs = some is) : PS X (.Assign [.Tuple es kk tp] (.Tuple vs k2 p2) pos) (tS G C W ln (evS cl N (.asgP is (compEs c n vs)) ln)) := by
  unfold swp at e1
  split at e1
  · rename_i x px y py a b
    split at e1
    · rename_i q
      simp only [Bool.and_eq_true, beq_iff_eq, decide_eq_true_eq, Bool.not_eq_true'] at q
      obtain ⟨⟨⟨⟨⟨⟨⟨⟨⟨q0, q1⟩, q2⟩, q3⟩, q4⟩, q5⟩, q6⟩, q7⟩, q8⟩, q9⟩ := q
      split at e1
      · rename_i i j ei ej
        cases e1
        have hi := loc_local h ei
        have hj := loc_local h ej
        have hij : i ≠ j := fun e => by rw [e, hj] at hi; exact q5 (Option.some.inj hi).symm
        rw [ev_asgP]
        exact ss_par2 hij (ps_par (h.calm q0) h.nd hi hj hij (h.loc _ q1) (h.loc _ q2) ((ok_all n).es c X W h C _ q7) (swapped_some h q1 q2 q5 (by simpa using q6) q7 q8 q9) rfl)
      · cases e1
    · cases e1
  · cases e1
theorem aug_ok (h : XOk G cl k c X W) {x : Str} {px pos : Pos} {a : Expr} {i : Nat} (e1 : c.loc x = some i) : PS X (.AugAssign (.Name x px) .Add a pos) (tS G C W ln (evS cl N (.aug i (compE c n a)) ln)) := by
  obtain ⟨h1, h2, h3⟩ := h.locl e1
  have e2 : evS cl N (.aug i (compE c n a)) ln = fun e => match e[i]?.getD none with
    | some (.int x) => (evE cl (compE c n a) e).got fun t e => match t with
      | .val (.int y) => asgD ln i (.int (x + y)) e
      | _ => .err
    | _ => .err := by
    funext e
    first | (rw [evS]; done) | (rw [evS]; rfl)
  rw [e2]
  exact ss_aug (ps_aug h.nd h1 h2 ((ok_all n).e c X W h C a) ip_add h3)
theorem ex_ok (h : XOk G cl k c X W) (e : Expr) (p : Pos) : PS X (.Expr e p) (tS G C W ln (evS cl N (compS c (n + 1) (.Expr e p)) ln)) := by
  have gen : PS X (.Expr e p) (tS G C W ln (evS cl N (if isComp e then .never else .ex (compE c n e)) ln)) := by
    by_cases hc : isComp e = true
    · rw [if_pos hc]; exact neverS
    · rw [if_neg hc]
      have e2 : evS cl N (.ex (compE c n e)) ln = fun e' => (evE cl (compE c n e) e').got fun _ e => .nx e := by funext e'; rw [evS]
      rw [e2]
      exact ss_ex ((ok_all n).e c X W h C e) (sw_nc (by simpa using hc))
  cases e <;> try (simp only [compS]; exact gen)
  rename_i cn kk p'
  cases cn <;> try (simp only [compS]; exact gen)
  simp only [compS]
  have e2 : evS cl N .pass ln = fun e => .nx e := by funext e; rw [evS]
  rw [e2]
  exact ss_doc
theorem raise_ok (h : XOk G cl k c X W) {x : Str} {j : Nat} {m : PySem.Str} {px p2 p3 pos : Pos} {kk : Nat} (e1 : rais c x = some j) : PS X (.Raise (some (.Call (.Name x px) [.Constant (.str m) kk p2] [] p3)) none pos) (tS G C W ln (evS cl N (.rais j .nil) ln)) := by
  unfold rais at e1
  split at e1
  · rename_i hh
    rw [Bool.and_eq_true] at hh
    obtain ⟨g1, g2, g3⟩ := h.gl hh.2
    split at e1
    · rename_i i ei
      split at e1
      · cases e1
      · rename_i hn45
        cases e1
        simp only [Bool.or_eq_true, beq_iff_eq, not_or] at hn45
        rw [h.tab] at ei
        have hi : G.exIn j := ⟨x, ei⟩
        obtain ⟨m1, _⟩ := h.exf.glo x j ei
        obtain ⟨q1, q2, q3, q4⟩ := h.exf.own j hi hn45.1 hn45.2
        refine PS.mono (ps_raise (h.calm hh.1) h.tk (pmk_own PySem.F.excBase_ValueError (by rw [h.hK]; exact q1) m1 (by rw [h.hK]; exact q2) (raises_own (by rw [h.hK]; exact q3) (by rw [h.hK]; exact q4)) g1 g2)) fun D σ H ⟨tm, env, F, hp, hl, kd⟩ => ?_
        rw [evS] at kd
        exact kd _ _ σ H ⟨j, rfl, rfl, rfl, hi⟩ F
    · cases e1
  · cases e1
theorem XOk.tr (h : XOk G cl k c X W) {pn : List (Addr × Obj)} {xe : Value → Shared → Prop} {W' : WX} (tk : Takes (X.tr pn xe) W') : XOk G cl k c (X.tr pn xe) W' :=
  { hK := h.hK, hw := h.hw, calm := h.calm, tk := tk, nd := h.nd, hN := h.hN, room := h.room, un := h.un, kd := h.kd, loc := h.loc, cel := h.cel, fre := h.fre, glo := h.glo, st := h.st, funs := h.funs, arity := h.arity, free := h.free, con := h.con, exf := h.exf, tab := h.tab }
theorem XOk.suite (h : XOk G cl k c X W) {a : Addr} {pn : List (Addr × Obj)} : XOk G cl k { c with calm := false } (suiteF X a pn) (fun _ _ _ _ => False) :=
  { hK := h.hK, hw := h.hw, calm := (fun z => by cases z), tk := fun u s' ⟨a, B, sI, pins, σ, H, cls, d, e, I, nb, up, sky, na, os, ag, w⟩ => w.elim, nd := h.nd, hN := h.hN, room := (fun z => by cases z), un := h.un, kd := h.kd, loc := h.loc, cel := h.cel, fre := h.fre, glo := h.glo, st := h.st, funs := h.funs, arity := h.arity, free := h.free, con := h.con, exf := h.exf, tab := h.tab }
theorem FRo.clr {σ : L2.St} {tm : Tm} {env : Env} {H : Hp} {O : Ad} {i : Nat} (F : FRo G C σ tm env H O) (hp : Pend tm ln) (hl : LentIn C ln) (hi : i ∉ ln) : FRo G C (σ.set i none) tm (env.set i none) H O := by
  refine ⟨by rw [List.length_set, List.length_set]; exact F.len, ?_, F.nw, F.mu, fun w j p m => ?_, F.kept, fun p m => ?_⟩
  · have h1 := F.rep
    unfold ents at h1 ⊢
    rw [zip_set2]
    by_cases lt : i < (env.zip σ).length
    · have := RepL.put i (e := (none, none)) (Q := no) h1 trivial (fun _ z => z) (fun _ z => z.elim) fun _ _ z => z
      rw [List.set_append_left _ _ lt] at this
      exact this
    · rw [List.set_eq_of_length_le (by omega)]
      exact h1
  · obtain ⟨v₀, e, q⟩ := F.refs w j p m
    have hj := (hp w j p m).2
    refine ⟨v₀, ?_, q⟩
    rw [List.getElem?_set_ne (fun e => hi (by rw [e]; exact hj))]
    exact e
  · rw [List.getElem?_set_ne (fun e => hi (by rw [e]; exact hl p m))]
    exact F.lent p m
/-- an exception comes into the heap, in between -/
theorem FRo.caught {σ : L2.St} {tm : Tm} {env : Env} {H : Hp} {O : Ad} {a : Addr} {oe : Obj} {j : Nat} (F : FRo G C σ tm env H O) (na : H a = none) (h1 : oe.cls = .ref (G.ex j)) (h2 : oe.dict = none) (h3 : ∃ vs, oe.data = .fields vs) (h4 : G.exIn j) : FRo G C σ (tm ++ [(.ref a, .val (.exn j []))]) env (upd H a (.frz oe (exU a oe))) O := by
  refine F.push0 (Same.upd na) rfl (O1 := no) ?_
  simp only [Rep]
  exact ⟨a, oe, rfl, upd_same, h1, h2, h3, trivial, h4⟩
/-- behind a try -/
theorem ss_try (h : XOk G cl k c X W) {body suite : List Stmt} {bi bs : Ss} {x : Str} {cv : Value} {jj : Nat} {i : Option Nat} {D : Ends} {σ : L2.St} {H : Hp} (hj : cv = .ref (G.ex jj)) (hjj : G.exIn jj) (kd : tS G C W ln (evS cl N (.tryS bi jj i bs) ln) D σ H) :
    tS G C (wF X.K cv i (tS G C (fun _ _ _ _ => False) ln (evSs cl N bs ln)) W D) ln (evSs cl N bi ln) D σ H := by
  obtain ⟨tm, env, F, hp, hl, kd⟩ := kd
  rw [evS] at kd
  refine ⟨tm, env, F, hp, hl, ?_⟩
  cases e : evSs cl N bi ln env with
  | nx e1 => rw [e] at kd; exact kd
  | ret d e1 => rw [e] at kd; exact kd
  | brk e1 => rw [e] at kd; exact kd
  | cnt e1 => rw [e] at kd; exact kd
  | err => rw [e] at kd; exact kd
  | exc d e1 =>
    rw [e] at kd
    rintro cls dx σ1 H1 ⟨j, rfl, rfl, rfl, hjI⟩ F1
    refine ⟨catches jj j, by rw [h.hK, hj]; exact h.exf.exm j jj hjI hjj, fun hc => ?_, fun hc => ?_⟩
    · rintro a oe na ⟨z1, z2⟩ z3
      simp only [tryK] at kd
      rw [if_pos hc] at kd
      obtain ⟨O1, F1⟩ := F1
      have F2 := F1.caught na z1 z2 z3 hjI
      unfold sufK at kd
      cases i with
      | none =>
        dsimp only at kd ⊢
        refine ⟨tm, e1, ⟨O1, F2.pop⟩, hp, hl, ?_⟩
        cases es : evSs cl N bs ln e1 <;> rw [es] at kd <;> first | exact kd | exact kd.elim
      | some i =>
        dsimp only at kd ⊢
        split at kd
        · exact kd.elim
        · rename_i hi
          have hi' : i ∉ ln := by simpa using hi
          refine ⟨tm, _, ⟨O1, F2.asg1 hp hl hi'⟩, hp, hl, ?_⟩
          cases es : evSs cl N bs ln (e1.set i (some (.exn j []))) with
          | nx e2 => rw [es] at kd; exact fun σ2 H2 ⟨O2, F3⟩ => kd _ _ ⟨O2, F3.clr hp hl hi'⟩
          | brk e2 => rw [es] at kd; exact fun σ2 H2 ⟨O2, F3⟩ => kd _ _ ⟨O2, F3.clr hp hl hi'⟩
          | cnt e2 => rw [es] at kd; exact fun σ2 H2 ⟨O2, F3⟩ => kd _ _ ⟨O2, F3.clr hp hl hi'⟩
          | ret d e2 => rw [es] at kd; exact kd
          | exc d e2 => rw [es] at kd; exact kd.elim
          | err => rw [es] at kd; exact kd.elim
    · simp only [tryK] at kd
      rw [if_neg (by rw [hc]; exact Bool.false_ne_true)] at kd
      exact kd _ _ σ1 H1 ⟨j, rfl, rfl, rfl, hjI⟩ F1
/-- a def's body, or a suite in it -/
structure SX (X : Cx) : Prop where
  hs : X.stack = X.env :: X.outer
  hf : X.env.frame = some X.env.locals
  hex : X.ex = []
theorem try_ok (h : XOk G cl k c X W) (sx : SX X) {body suite : List Stmt} {hs : List ExceptHandler} {pos : Pos} {j : Nat} {i : Option Nat}
    (hb : ∀ (W' : WX) (pn : List (Addr × Obj)) (xe : Value → Shared → Prop), Takes (X.tr pn xe) W' → PassesOwn (model X.prog X.w) X.A X.env xe → PSs (X.tr pn xe) body (tS G C W' ln (evSs cl N (compSs c n body) ln)))
    (hsu : ∀ (a : Addr) (pn : List (Addr × Obj)) (ss : List Stmt), PSs (suiteF X a pn) ss (tS G C (fun _ _ _ _ => False) ln (evSs cl N (compSs { c with calm := false } n ss) ln))) (e1 : hand c hs = some (j, i, suite)) :
    PS X (.Try body hs [] [] pos) (tS G C W ln (evS cl N (.tryS (compSs c n body) j i (compSs { c with calm := false } n suite)) ln)) := by
  unfold hand at e1
  split at e1
  · rename_i x np b bs hp
    split at e1
    · rename_i hh
      rw [Bool.and_eq_true] at hh
      obtain ⟨g1, g2, g3⟩ := h.gl hh.2
      split at e1
      · rename_i jj ej
        cases e1
        rw [h.tab] at ej
        obtain ⟨m1, _⟩ := h.exf.glo x j ej
        exact PS.mono (ps_try_fonly sx.hs sx.hf sx.hex ⟨g1, g2, .inl m1⟩ h.tk hb fun a pn => hsu a pn (b :: bs)) fun D σ H kd => ss_try (x := x) (body := body) (suite := b :: bs) h rfl ⟨x, ej⟩ kd
      · cases e1
    · cases e1
  · rename_i x np nm b bs hp
    split at e1
    · rename_i hh
      simp only [Bool.and_eq_true, beq_iff_eq] at hh
      obtain ⟨⟨⟨hc, hg⟩, hk⟩, hn⟩ := hh
      obtain ⟨g1, g2, g3⟩ := h.gl hg
      split at e1
      · rename_i jj ii ej ei
        cases e1
        rw [h.tab] at ej
        obtain ⟨m1, _⟩ := h.exf.glo x j ej
        obtain ⟨_, hix⟩ := ixName_get ei
        exact PS.mono (ps_try_fas sx.hs sx.hf sx.hex h.nd (by rw [h.hN]; simpa using hix) (h.loc nm hk) ⟨g1, g2, .inl m1⟩ h.tk hb fun a pn => hsu a pn (b :: bs)) fun D σ H kd => ss_try (x := x) (body := body) (suite := b :: bs) h rfl ⟨x, ej⟩ kd
      · cases e1
    · cases e1
  · cases e1
theorem s_ok : ∀ (n : Nat) (c : CC) (X : Cx) (W : WX), XOk G cl k c X W → SX X → (c.calm = true → PassesOwn (model X.prog X.w) X.A X.env X.xe) → ∀ (C : Fc), (∀ (s : Stmt) (ln : List Nat), PS X s (tS G C W ln (evS cl N (compS c n s) ln))) ∧ ∀ (ss : List Stmt) (ln : List Nat), PSs X ss (tS G C W ln (evSs cl N (compSs c n ss) ln))
  | 0, c, X, W, h, sx, po, C => ⟨fun s ln => by simp only [compS]; exact neverS, fun ss ln => by
      simp only [compSs]
      refine ⟨fun pins s σ H D I ⟨tm, env, F, _, _, k⟩ => ?_⟩
      rw [evSs, evS] at k
      exact k.elim⟩
  | n + 1, c, X, W, h, sx, po, C => by
    obtain ⟨ih1, ih2⟩ := s_ok n c X W h sx po C
    refine ⟨fun s ln => ?_, fun ss ln => ?_⟩
    · cases s <;> try (simp only [compS]; exact neverS)
      · rename_i v p
        simp only [compS]
        cases v with
        | none => exact ss_retN
        | some e =>
          have e2 : evS cl N (.ret (compE c n e)) ln = fun e' => (evE cl (compE c n e) e').got (retT ln) := by
            funext e'
            first | (rw [evS]; done) | (rw [evS]; rfl)
          dsimp only
          rw [e2]
          exact ss_ret ((ok_all n).e c X W h C e)
      · rename_i ts a p
        simp only [compS]
        match ts with
        | [] => exact neverS
        | _ :: _ :: _ => simp only; exact neverS
        | [t] =>
          cases t <;> try exact neverS
          · rename_i o kk tp
            dsimp only
            by_cases hh : (isSlice kk || isComp a) = true
            · rw [if_pos hh]; exact neverS
            · rw [if_neg hh]
              simp only [Bool.or_eq_true, not_or, Bool.not_eq_true] at hh
              exact seti_ok h hh.1 hh.2
          · rename_i x px
            dsimp only
            cases e1 : c.loc x with
            | none => exact neverS
            | some i => exact asg_ok h a e1
          · rename_i es kk tp
            dsimp only
            by_cases hh : (noStar es && !isComp a) = true
            · rw [if_pos hh]
              simp only [Bool.and_eq_true, Bool.not_eq_true'] at hh
              have gen : isTupE a = false → PS X (.Assign [.Tuple es kk tp] a p) (tS G C W ln (evS cl N (match tgOf c n (.Tuple es kk tp) with
                | some t => .asgT t (compE c n a)
                | none => .never) ln)) := fun ht => by
                cases e1 : tgOf c n (.Tuple es kk tp) with
                | none => exact neverS
                | some t => exact asgT_ok h e1 hh.2 (swapped_none ht)
              cases a <;> try exact gen rfl
              rename_i vs k2 p2
              dsimp only
              by_cases hf : (noStar vs && vs.all (foldedForSure 8)) = true
              · rw [if_pos hf]
                simp only [Bool.and_eq_true] at hf
                cases e1 : tgOf c n (.Tuple es kk tp) with
                | none => exact neverS
                | some t => exact asgT_ok h e1 rfl (swapped_folded hf.2)
              · rw [if_neg hf]
                cases e1 : swp c es vs with
                | none => exact neverS
                | some is => exact asgP_ok h e1
            · rw [if_neg hh]; exact neverS
      · rename_i t op a p
        simp only [compS]
        cases t <;> try exact neverS
        rename_i x px
        cases op <;> try exact neverS
        dsimp only
        cases e1 : c.loc x with
        | none => exact neverS
        | some i => exact aug_ok h e1
      · rename_i tg it b e p
        simp only [compS]
        cases e with
        | cons _ _ => exact neverS
        | nil =>
          dsimp only
          by_cases hs : (isSet it || !c.calm) = true
          · rw [if_pos hs]; exact neverS
          · rw [if_neg hs]
            have hs2 : isSet it = false ∧ c.calm = true := by simpa using hs
            cases e1 : tgOf c n tg with
            | none => exact neverS
            | some t =>
              dsimp only
              have T := (tg_ok h n).1 _ t e1
              have := ss_for (pos := p) (ln := ln) (po hs2.2) (h.calm hs2.2) ((ok_all n).i c X W h C tg it) T (fun ln => ih2 b ln) (noSet hs2.1 _)
              have e2 : evS cl N (.forS t (compI c n tg it) (compSs c n b)) ln = fun e => (evI cl (compI c n tg it) e).got fun r e => forL (fun d e => (asgTD (srcs r.2 ln) t d e).bind fun e => evSs cl N (compSs c n b) (srcs r.2 ln) e) (fun e' => ∀ t ∈ r.2, Held t e e') r.1 e := by
                funext e; rw [evS]
              rw [e2]
              exact this
      · rename_i t b e p
        simp only [compS]
        cases e with
        | cons _ _ => exact neverS
        | nil =>
          dsimp only
          cases hcalm : c.calm with
          | false => exact neverS
          | true =>
          simp only [if_true]
          have e2 : evS cl N (.whl (compE c n t) (compSs c n b)) ln = whL (asT (evE cl (compE c n t))) (evSs cl N (compSs c n b) ln) N := by
            funext e; rw [evS]; rfl
          rw [e2]
          exact ss_whl (po hcalm) ((ok_all n).t c X W h C t) (ih2 b ln)
      · rename_i t a b p
        simp only [compS]
        have e2 : evS cl N (.ifS (compE c n t) (compSs c n a) (compSs c n b)) ln = fun e => (asT (evE cl (compE c n t)) e).got fun x e => if x = true then evSs cl N (compSs c n a) ln e else evSs cl N (compSs c n b) ln e := by
          funext e; rw [evS]; rfl
        rw [e2]
        exact ss_if ((ok_all n).t c X W h C t) (ih2 a ln) (ih2 b ln)
      · rename_i ex cause p
        simp only [compS]
        cases e1 : raisOf c ex cause with
        | none => exact neverS
        | some j =>
          dsimp only
          unfold raisOf at e1
          split at e1
          · exact raise_ok h e1
          · cases e1
      · rename_i body hs orelse fin p
        simp only [compS]
        split
        · cases e1 : hand c hs with
          | none => exact neverS
          | some q =>
            obtain ⟨j, i, suite⟩ := q
            exact try_ok h sx (fun W' pn xe tk po' => (s_ok n c (X.tr pn xe) W' (h.tr tk) ⟨sx.hs, sx.hf, sx.hex⟩ (fun _ => po') C).2 body ln) (fun a pn suite => (s_ok n { c with calm := false } (suiteF X a pn) _ h.suite ⟨sx.hs, sx.hf, sx.hex⟩ (fun z => by cases z) C).2 suite ln) e1
        · exact neverS
      · exact ex_ok h _ _
      · simp only [compS]
        have e2 : evS cl N .pass ln = fun e => .nx e := by funext e; rw [evS]
        rw [e2]; exact ss_pass
      · simp only [compS]
        have e2 : evS cl N .brk ln = fun e => .brk e := by funext e; rw [evS]
        rw [e2]; exact ss_brk
      · simp only [compS]
        have e2 : evS cl N .cnt ln = fun e => .cnt e := by funext e; rw [evS]
        rw [e2]; exact ss_cnt
    · cases ss with
      | nil =>
        simp only [compSs]
        have e2 : evSs cl N .nil ln = fun e => .nx e := by funext e; rw [evSs]
        rw [e2]; exact ss_nil
      | cons s ss =>
        simp only [compSs]
        have e2 : evSs cl N (.cons (compS c n s) (compSs c n ss)) ln = fun e => (evS cl N (compS c n s) ln e).bind fun e => evSs cl N (compSs c n ss) ln e := by funext e; rw [evSs]
        rw [e2]
        exact ss_cons (ih1 s ln) (ih2 ss ln)
end
end LT
/-! LuC: a module's defs keep their promises; the law's end. -/
namespace LT
open PySem L2
open PyProof.Rows (envOfC)
/-- a def of the module: its number, the name that it goes by, its own name .. -/
structure Df where
  j : Nat
  x : Str
  nm : Str
  qual : Str
  args : Arguments
  body : List Stmt
  scope : Scope
  N : List Str
  ps : List Str
  ir : Fn
/-- the module: its defs, the names that it has not, its constants -/
structure Md where
  fs : List Df
  free : List Str
  con : List (Str × D)
  exc : List (Str × Nat)
def tabOf (ds : List Df) : List (Str × Nat × Nat) := ds.map fun d => (d.x, d.j, d.ps.length)
theorem tab_get : ∀ {ds : List Df} {x : Str} {p : Nat × Nat}, (tabOf ds).lookup x = some p → ∃ d, d ∈ ds ∧ d.x = x ∧ d.j = p.1 ∧ d.ps.length = p.2
  | [], x, p, h => by simp [tabOf] at h
  | d :: ds, x, p, h => by
    simp only [tabOf, List.map_cons, List.lookup_cons] at h
    by_cases e : (x == d.x) = true
    · rw [e] at h
      cases h
      exact ⟨d, List.mem_cons_self, by simpa using (show x = d.x by simpa using e).symm, rfl, rfl⟩
    · have e' : (x == d.x) = false := by simpa using e
      rw [e'] at h
      obtain ⟨d', h2, h3⟩ := tab_get (ds := ds) h
      exact ⟨d', List.mem_cons_of_mem _ h2, h3⟩
theorem lookup_mem {α : Type} {x : Str} {d : α} : ∀ {l : List (Str × α)}, l.lookup x = some d → (x, d) ∈ l
  | [], h => by simp at h
  | (y, e) :: l, h => by
    rw [List.lookup_cons] at h
    cases q : x == y with
    | true =>
      rw [q] at h
      cases h
      have : x = y := by simpa using q
      rw [this]
      exact List.mem_cons_self
    | false =>
      rw [q] at h
      exact List.mem_cons_of_mem _ (lookup_mem h)
def Md.cc (M : Md) (d : Df) : CC := ⟨d.N, d.scope, tabOf M.fs, M.free, M.con, M.exc, true⟩
def Md.fns (M : Md) : Nat → Option Fn := fun j => (M.fs.find? fun d => d.j == j).map (·.ir)
/-- what is computed once -/
structure Df.Ok (M : Md) (d : Df) : Prop where
  fuel : ∃ n, compSs (M.cc d) n d.body = d.ir.body
  fn : M.fns d.j = some d.ir
  np : d.ir.np = d.ps.length
  ns : d.ir.ns = d.N.length
  sc : FnScope d.N d.ps d.scope
/-- what the head tells -/
structure Md.In (M : Md) (G : GK) (mg : Str → Option Value) : Prop where
  fs : ∀ d ∈ M.fs, ∃ f fd, mg d.x = some (.ref f) ∧ FunD G.K d.nm d.qual d.args d.body d.scope [] [] f fd ∧ Binds G.K fd d.ps []
  free : ∀ x, M.free.contains x = true → mg x = none
  con : ∀ x d, M.con.lookup x = some d → ∃ u v, mg x = some u ∧ RelV v u ∧ d.own = false ∧ ∀ H A, Rep G H A d v no
  exf : ExF G mg
  tab : M.exc = G.tab
theorem call_arity {M : Md} (hM : ∀ d ∈ M.fs, d.Ok M) {N k : Nat} {d : Df} (e : d ∈ M.fs) : ∀ ds, call N M.fns k d.j ds ≠ .err → ds.length = d.ps.length := fun ds h => by
  cases k with
  | zero => exact absurd rfl h
  | succ k =>
    simp only [call] at h
    rw [(hM d e).fn] at h
    simp only [runF] at h
    split at h
    · rename_i q
      rw [q, (hM d e).np]
    · exact absurd rfl h
/-- every def, at every depth -/
theorem all_ok {M : Md} {G : GK} {P : Program} {mg : Str → Option Value} {base : Heap} (hM : ∀ d ∈ M.fs, d.Ok M) (hI : M.In G mg) (N : Nat) : ∀ (k : Nat) (d : Df) (f : Addr) (fd : FuncData), d ∈ M.fs → FunD G.K d.nm d.qual d.args d.body d.scope [] [] f fd →
    FnOk P G.w G.K mg base (L2.CX P G.w) k f fd d.ps (spF G (call N M.fns k) d.j d.ps.length)
  | 0, d, f, fd, e, F => ⟨fun vs H Q E ⟨ds, O, hid, h1, _⟩ => h1, fun A outer s H args us vs Q E hr he hb hv ⟨ds, O, hid, _, _, _, _, _, _, k⟩ => k.elim⟩
  | k + 1, d, f, fd, e, F => by
    have D := hM d e
    have ef := D.fn
    refine fn_ok (n := N) F D.sc ef D.np D.ns fun cdv A outer s H E hr C ln => ?_
    obtain ⟨n, hn⟩ := D.fuel
    rw [← hn]
    refine (s_ok (N := N) (cl := call N M.fns k) n (M.cc d) _ (fun cls dx _ H => E cls dx H) (k := k) ?_ ⟨rfl, rfl, rfl⟩ (fun _ => passes_of rfl) C).2 d.body ln
    · exact {
        hK := rfl
        hw := rfl
        calm := fun _ => rfl
        tk := takes_of rfl rfl rfl rfl
        nd := D.sc.nd
        hN := rfl
        room := fun _ => hr
        un := by have := hr.un; simp only [cxOf]; omega
        exf := hI.exf
        tab := hI.tab
        kd := D.sc.kind
        loc := fun x h => h
        cel := fun x h => h
        fre := fun x h => .inl h
        glo := fun x h => h
        st := fun x _ => rfl
        funs := fun x p h => by
          obtain ⟨d', h2, h3, h5, h4⟩ := tab_get h
          obtain ⟨f', fd', g1, g2, g3⟩ := hI.fs d' h2
          subst h3
          rw [← h4, ← h5]
          exact ⟨f', fd', d'.ps, g1, g2.kp, g3, all_ok hM hI N k d' f' fd' h2 g2⟩
        arity := fun x p h => by
          obtain ⟨d', h2, h3, h5, h4⟩ := tab_get h
          rw [← h4, ← h5]
          exact call_arity hM h2
        free := hI.free
        con := hI.con }
/-- the law's wish: a script list comes to True -/
theorem law_sp {M : Md} {G : GK} {N k j : Nat} {H : Hp} {a : Addr} {ns : List Int} (hO : Only H) (hS : SqL G.K H a (ns.map V.int)) (h : ∃ o, call N M.fns k j [.scr ns] = .ret (.bl true) o) : spF G (call N M.fns k) j 1 [.ref a] H (fun v _ => v = .bl true) fun _ _ _ => False := by
  obtain ⟨o, h⟩ := h
  have sc : ScrAt G.K H a (ns.map V.int) := by
    rcases hS with (hS | hS) | hS
    · rcases hO a with z | ⟨o, xs, z⟩
      · rw [z] at hS; cases hS
      · rw [z] at hS; cases hS
    · exact .inl hS
    · exact .inr hS
  refine ⟨[.scr ns], no, no, rfl, rfl, fun _ z => z.elim, fun _ z => z.elim, ⟨no, no, fun _ z => z, fun _ z => z, fun _ z => z.elim, ⟨a, rfl, sc⟩, trivial⟩, fun _ z => z.elim, ?_⟩
  rw [h]
  rintro v H' O' kk n1 n2 lo ⟨O1, O2, _, _, _, r, _⟩
  exact r
/-- an exception of a call, the world forgotten -/
def CXw (P : Program) : CXT := fun outer H s E u s' => ∃ w, L2.CX P w outer H s E u s'
theorem FnOk.cxw {P : Program} {w : World} {K : PySem.W.Frag} {mg : Str → Option Value} {base : Heap} {k : Nat} {f : Addr} {fd : FuncData} {ps : List Str} {sp : Sp} (F : FnOk P w K mg base (L2.CX P w) k f fd ps sp) : FnOk P w K mg base (CXw P) k f fd ps sp :=
  ⟨F.len, fun A outer s H args us vs Q E hr he hb hv hs => codeAny_mono (F.run A outer s H args us vs Q E hr he hb hv hs) fun r s' hq => by
    cases r with
    | error e => exact ⟨w, hq⟩
    | ok fl => cases fl <;> exact hq⟩
theorem cxw_no {P : Program} (H : Hp) (s : Shared) (e : Value) (s' : Shared) (h : CXw P [] H s (fun _ _ _ => False) e s') : False := by
  obtain ⟨w, h⟩ := h
  unfold L2.CX at h
  obtain ⟨a, B, H', cls, d, _, _, _, _, _, _, _, q⟩ := h
  exact q
end LT
/-! LuD: more rules of evaluation. -/
namespace LT
@[simp] theorem F.fin_nx (ds : List D) (e : Env) : F.fin ds (.nx e) = CR.of (outs ds e) fun l => .ret .non l := id rfl
@[simp] theorem F.fin_ret (ds : List D) (d : D) (e : Env) : F.fin ds (.ret d e) = CR.of (outs ds e) fun l => .ret d l := id rfl
@[simp] theorem F.fin_exc (ds : List D) (x : D) (e : Env) : F.fin ds (.exc x e) = CR.of (outs ds e) fun l => .exc x l := id rfl
@[simp] theorem F.fin_ite (c : Prop) [Decidable c] (ds : List D) (a b : F) : F.fin ds (if c then a else b) = if c then F.fin ds a else F.fin ds b := by split <;> rfl
@[simp] theorem CR.of_some (l : List D) (f : List D → CR) : CR.of (some l) f = f l := id rfl
@[simp] theorem outs_nil (e : Env) : outs [] e = some [] := id rfl
@[simp] theorem outs_own (d : D) (ds : List D) (x : D) (e : Env) (h : d.own = true) : outs (d :: ds) (some x :: e) = (outs ds e).map (x :: ·) := by simp [outs, h]
@[simp] theorem outs_lst (xs : List D) (ds : List D) (x : D) (e : Env) : outs (.lst true xs :: ds) (some x :: e) = (outs ds e).map (x :: ·) := by simp [outs]
@[simp] theorem outs_val (d : D) (ds : List D) (o : Option D) (e : Env) (h : (!D.own d) = true) : outs (d :: ds) (o :: e) = (outs ds e).map (d :: ·) := by simp at h; simp [outs, h]
theorem call_succ {N : Nat} {fns : Nat → Option Fn} {n j : Nat} {f : Fn} (h : fns j = some f) (ds : List D) : call N fns (n + 1) j ds = runF (call N fns n) N f ds := by simp only [call, h]
/-- a for loop, by what is kept: P by the turn -/
theorem forL_inv {turn : D → Env → F} {held : Env → Prop} (P : Nat → Env → Prop) : ∀ (ds : List D) (n : Nat) (e : Env), P n e → (∀ i d e, ds[i]? = some d → P (n + i) e → ∃ e', turn d e = .nx e' ∧ held e' ∧ P (n + i + 1) e') → ∃ e', forL turn held ds e = .nx e' ∧ P (n + ds.length) e'
  | [], n, e, h, _ => ⟨e, rfl, h⟩
  | d :: ds, n, e, h, step => by
    obtain ⟨e1, h1, h2, h3⟩ := step 0 d e rfl h
    obtain ⟨e2, h4, h5⟩ := forL_inv P ds (n + 1) e1 h3 fun i d' e' q r => by
      obtain ⟨e2, a, b, c⟩ := step (i + 1) d' e' (by simpa using q) (by rw [show n + (i + 1) = n + 1 + i by omega]; exact r)
      exact ⟨e2, a, b, by rw [show n + 1 + i + 1 = n + (i + 1) + 1 by omega]; exact c⟩
    refine ⟨e2, ?_, by rw [List.length_cons, show n + (ds.length + 1) = n + 1 + ds.length by omega]; exact h5⟩
    simp only [forL, h1]
    rw [if_pos h2]
    exact h4
/-- a while loop, by what is kept, and a measure -/
theorem whL_inv {test : Env → R Bool} {turn : Env → F} (P : Nat → Env → Prop) (Qd : Env → Prop) (step : ∀ m e, P m e → (test e = .ok false e ∧ Qd e) ∨ ∃ e1 e', test e = .ok true e1 ∧ turn e1 = .nx e' ∧ ∃ m', m' < m ∧ P m' e') : ∀ (N m : Nat) (e : Env), m < N → P m e → ∃ e', whL test turn N e = .nx e' ∧ Qd e'
  | 0, m, e, h, _ => by omega
  | N + 1, m, e, h, p => by
    rcases step m e p with ⟨h1, h2⟩ | ⟨e1, e', h1, h2, m', h3, h4⟩
    · exact ⟨e, by simp [whL, h1], h2⟩
    · obtain ⟨e2, h5, h6⟩ := whL_inv P Qd step N m' e' (by omega) h4
      refine ⟨e2, ?_, h6⟩
      simp only [whL, h1, R.got_ok, if_true, h2]
      exact h5
theorem rng_get {lo c : Int} {n i : Nat} {d : D} (h : (rngL lo c n)[i]? = some d) : d = .int (lo + i * c) ∧ i < n := by
  have lt : i < n := by
    have := (List.getElem?_eq_some_iff.mp h).1
    simpa [rngL] using this
  refine ⟨?_, lt⟩
  simp only [rngL, List.getElem?_map, List.getElem?_range lt, Option.map_some, Option.some.injEq] at h
  exact h.symm
@[simp] theorem rngL_len (lo c : Int) (n : Nat) : (rngL lo c n).length = n := by simp [rngL]
end LT
/-! LuE: evaluation step by step; what is still to be done bears a name, so that simp leaves it alone until it is asked. -/
namespace LT
section
variable (cl : Nat → List D → CR) (N : Nat) (ln : List Nat)
def kVar (i : Nat) (o : Option D) (e : Env) : R T := match o with
  | some d => .ok (if d.own then .ref i [] else .val d) e
  | none => .err
def kVal (z : D) (e : Env) : R T := .ok (.val z) e
def kOf {α : Type} (o : Option α) (k : α → R T) : R T := match o with
  | some a => k a
  | none => .err
noncomputable def kBin4 (o : Op) (x y : D) (e : Env) : R T := kOf (binop o x y) fun z => .ok (.val z) e
noncomputable def kBin3 (o : Op) (u : T) (x : D) (e : Env) : R T := (rs u e).bind (kBin4 o x)
noncomputable def kBin2 (o : Op) (t u : T) (e : Env) : R T := (rs t e).bind (kBin3 o u)
noncomputable def kBin1 (o : Op) (b : E) (t : T) (e : Env) : R T := if (t.root || b.simple) = true then (evE cl b e).bind (kBin2 o t) else .err
def kCmp4 (o : Cm) (x y : D) (e : Env) : R T := kOf (cmpop o x y) fun z => .ok (.val (.bl z)) e
def kCmp3 (o : Cm) (u : T) (x : D) (e : Env) : R T := (rs u e).bind (kCmp4 o x)
def kCmp2 (o : Cm) (t u : T) (e : Env) : R T := (rs t e).bind (kCmp3 o u)
noncomputable def kCmp1 (o : Cm) (b : E) (t : T) (e : Env) : R T := if (t.root || b.simple) = true then (evE cl b e).bind (kCmp2 o t) else .err
noncomputable def kAnd (b : E) (t : T) (e : Env) : R T := match bool1 t with
  | some x => if x = true then evE cl b e else .ok (.val (.bl false)) e
  | none => .err
noncomputable def kOr (b : E) (t : T) (e : Env) : R T := match bool1 t with
  | some x => if x = true then .ok (.val (.bl true)) e else evE cl b e
  | none => .err
noncomputable def kIte (a b : E) (t : T) (e : Env) : R T := match bool1 t with
  | some x => if x = true then evE cl a e else evE cl b e
  | none => .err
def kCall3 (ts : List T) (e : Env) : CR → R T
  | .ret d outs => .ok (.val d) (back ts outs e)
  | .exc x outs => .exc x (back ts outs e)
  | .err => .err
def kCallR (e : Env) : CR → R T
  | .ret d _ => if d.atom = true then .ok (.val d) e else .err
  | .exc x _ => .exc x e
  | .err => .err
def kCallB (j : Nat) (ts : List T) (e : Env) : Option (List D × Env) → R T
  | none => kOf (borrow ts e) fun ds => kCallR e (cl j ds)
  | some r => kCall3 ts r.2 (cl j r.1)
def kCall (j : Nat) (ts : List T) (e : Env) : R T := kCallB cl j ts e (lend ts e)
def kBi3 (p : Bi) (ds : List D) (e : Env) : R T := kOf (bi p ds) fun z => .ok (.val z) e
def kBi (p : Bi) (ts : List T) (e : Env) : R T := (rsL ts e).bind (kBi3 p)
/-- an item of what is there -/
def idxD (t : T) (k : D) (d : D) : Option T := match d with
  | .lst o xs => match k with
    | .int i => (ixOf xs.length i).bind fun n => (xs[n]?).map (kidT t (.ix n))
    | _ => none
  | .scr ns => match k with
    | .int i => (ixOf ns.length i).bind fun n => (ns[n]?).map fun n => .val (.int n)
    | _ => none
  | .tup xs => match k with
    | .int i => (ixOf xs.length i).bind fun n => (xs[n]?).map .val
    | _ => none
  | .str s => match k with
    | .int i => if s.length ≤ sizeL then (ixOf s.length i).bind fun n => (s[n]?).map fun c => .val (.str [c]) else none
    | _ => none
  | .dic _ ks vs => if okKey k ks then (dget ks vs k).map .val else none
  | _ => none
def kIdx2 (t u : T) (e : Env) : R T := match u with
  | .val k => kOf ((peek t e).bind (idxD t k)) fun r => .ok r e
  | _ => .err
noncomputable def kIdx1 (b : E) (t : T) (e : Env) : R T := if (t.root || b.simple) = true then (evE cl b e).bind (kIdx2 t) else .err
def kTup (ts : List T) (e : Env) : R T := (escL ts e).bind fun ds e => .ok (.val (.tup (frzs ds))) e
def kLst (ts : List T) (e : Env) : R T := (escL ts e).bind fun ds e => .ok (.val (.lst true ds)) e
noncomputable def kMut (m : Mu) (as : Es) (t : T) (e : Env) : R T := if ((t.root || as.simple) && isL (peek t e)) = true then (evEs cl as e).bind (mutT m t) else .err
noncomputable def kEs2 (t : T) (ts : List T) (e : Env) : R (List T) := .ok (t :: ts) e
noncomputable def kEs (as : Es) (t : T) (e : Env) : R (List T) := if (t.root || as.simple) = true then (evEs cl as e).bind (kEs2 t) else .err
noncomputable def kCut3 (d : D) (i j : Int) (e : Env) : R T := kOf (cutD (some i) (some j) d) fun z => .ok (.val z) e
noncomputable def kCut2' (t : T) (i : Int) (tu : T) (e : Env) : R T := match int1 tu with
  | some j => (rs t e).bind fun d e => kCut3 d i j e
  | none => .err
noncomputable def kCut2 (u : E) (t : T) (tl : T) (e : Env) : R T := match int1 tl with
  | some i => (evE cl u e).bind (kCut2' t i)
  | none => .err
noncomputable def kCut1 (l u : E) (t : T) (e : Env) : R T := if t.root = true then (evE cl l e).bind (kCut2 cl u t) else .err
noncomputable def kMth2 (m : Me) (t : T) (ts : List T) (e : Env) : R T := (rsL (t :: ts) e).bind (kBi3 (.me m))
noncomputable def kMth (m : Me) (as : Es) (t : T) (e : Env) : R T := if ((t.root || as.simple) && meOk m (peek t e)) = true then (evEs cl as e).bind (kMth2 m t) else .err
noncomputable def kSrc2 (r : Nat × List D × T) (e : Env) : R (List D × List T) := .ok (r.2.1, [r.2.2]) e
noncomputable def kSrc (t : T) (e : Env) : R (List D × List T) := (src t e).bind kSrc2
noncomputable def kAsg (i : Nat) (d : D) (e : Env) : F := asgD ln i d e
noncomputable def kAsgT (t : Tg) (d : D) (e : Env) : F := asgTD ln t d e
noncomputable def kAsgP (is : List Nat) (ds : List D) (e : Env) : F := asgL ln is ds e
noncomputable def kSet4 (t : T) (d x : D) (e : Env) : F := putT t (fun o => setD o x d) e
noncomputable def kSet3 (t : T) (d : D) (u : T) (e : Env) : F := (rs u e).got (kSet4 t d)
noncomputable def kSet2 (k : E) (d : D) (t : T) (e : Env) : F := (evE cl k e).got (kSet3 t d)
noncomputable def kSet1 (o k : E) (d : D) (e : Env) : F := (evE cl o e).got (kSet2 cl k d)
def kAug2 (i : Nat) (x : Int) (t : T) (e : Env) : F := match t with
  | .val (.int y) => asgD ln i (.int (x + y)) e
  | _ => .err
noncomputable def kAug (i : Nat) (a : E) (e : Env) (o : Option D) : F := match o with
  | some (.int x) => (evE cl a e).got (kAug2 ln i x)
  | _ => .err
def kEx (t : T) (e : Env) : F := .nx e
noncomputable def kIf (a b : Ss) (t : T) (e : Env) : F := match bool1 t with
  | some x => if x = true then evSs cl N a ln e else evSs cl N b ln e
  | none => .err
/-- a loop's turn -/
noncomputable def forT (tg : Tg) (b : Ss) (l : List Nat) (d : D) (e : Env) : F := (asgTD l tg d e).bind (evSs cl N b l)
def heldP (ss : List T) (e : Env) (e' : Env) : Prop := ∀ t ∈ ss, Held t e e'
noncomputable def kFor (tg : Tg) (b : Ss) (r : List D × List T) (e : Env) : F := forL (forT cl N tg b (srcs r.2 ln)) (heldP r.2 e) r.1 e
def kTest (t : T) (e : Env) : R Bool := match bool1 t with
  | some b => .ok b e
  | none => .err
/-- a test -/
noncomputable def whT (t : E) (e : Env) : R Bool := (evE cl t e).bind kTest
noncomputable def kRet2 (i : Nat) (e : Env) (o : Option D) : F := match o with
  | none => .err
  | some d => if ln.contains i then .ret d.frz (e.set i (some d.frz)) else .ret d (e.set i none)
noncomputable def kRet (t : T) (e : Env) : F := match t with
  | .val d => .ret d e
  | .ref i p => if p.isEmpty = true then kRet2 ln i e (e.at i p) else .err
/-- a comprehension's turn -/
noncomputable def lcT2 (tg : Tg) (t : T) (e : Env) : R (Option D) := (esc t e).bind fun d e => .ok (some d) (forget tg e)
noncomputable def lcT1 (a : E) (tg : Tg) (t : T) (e : Env) : R (Option D) := match bool1 t with
  | some x => if x = true then (evE cl a e).bind (lcT2 tg) else .ok none (forget tg e)
  | none => .err
noncomputable def lcT0 (a c : E) (tg : Tg) (_ : Unit) (e : Env) : R (Option D) := (evE cl c e).bind (lcT1 cl a tg)
noncomputable def lcT (a c : E) (tg : Tg) (ss : List T) (d : D) (e : Env) : R (Option D) := ((asgTD (srcs ss []) tg d e).nxR).bind (lcT0 cl a c tg)
noncomputable def kLc2 (xs : List D) (e : Env) : R T := if xs.length ≤ sizeL then .ok (.val (.lst true xs)) e else .err
noncomputable def kLc (a c : E) (tg : Tg) (r : List D × List T) (e : Env) : R T := if apart r.2 (slots tg) = true then (lcL (lcT cl a c tg r.2) (heldP r.2 e) r.1 (forget tg e)).bind kLc2 else .err

@[simp] theorem x_var (i e) : evE cl (.var i) e = kVar i (e[i]?.getD none) e := by rw [evE]; rfl
@[simp] theorem x_con (d e) : evE cl (.con d) e = .ok (.val d) e := by rw [evE]
theorem ofbind {α : Type} (o : Option α) (e : Env) (k : α → Env → R T) : (R.of o e).bind k = kOf o fun a => k a e := by cases o <;> rfl
@[simp] theorem x_bin (o a b e) : evE cl (.bin o a b) e = (evE cl a e).bind (kBin1 cl o b) := by rw [evE]; congr 1; funext t e; unfold kBin1; congr 1; congr 1; funext u e; unfold kBin2; congr 1; funext x e; unfold kBin3; congr 1; funext y e; unfold kBin4; rw [ofbind]
@[simp] theorem x_neg (a e) : evE cl (.neg a) e = (evE cl a e).bind negT := by rw [evE]
@[simp] theorem x_not (a e) : evE cl (.not a) e = (evE cl a e).bind notT := by rw [evE]
@[simp] theorem x_cmp (o a b e) : evE cl (.cmp o a b) e = (evE cl a e).bind (kCmp1 cl o b) := by
  rw [evE]; congr 1; funext t e; unfold kCmp1; congr 1; congr 1; funext u e; unfold kCmp2; congr 1; funext x e; unfold kCmp3; congr 1; funext y e; unfold kCmp4; rw [ofbind]
  cases cmpop o x y <;> rfl
@[simp] theorem x_and (a b e) : evE cl (.and a b) e = (evE cl a e).bind (kAnd cl b) := by
  rw [evE]; congr 1; funext t e; unfold kAnd; cases bool1 t with
  | none => rfl
  | some x => cases x <;> rfl
@[simp] theorem x_or (a b e) : evE cl (.or a b) e = (evE cl a e).bind (kOr cl b) := by
  rw [evE]; congr 1; funext t e; unfold kOr; cases bool1 t with
  | none => rfl
  | some x => cases x <;> rfl
@[simp] theorem x_ite (t a b e) : evE cl (.ite t a b) e = (evE cl t e).bind (kIte cl a b) := by
  rw [evE]; congr 1; funext t e; unfold kIte; cases bool1 t with
  | none => rfl
  | some x => cases x <;> rfl
@[simp] theorem x_call (j as e) : evE cl (.call j as) e = (evEs cl as e).bind (kCall cl j) := by
  rw [evE]; congr 1; funext ts e; unfold kCall callT; cases lend ts e with
  | none =>
    unfold kCallB kOf
    dsimp only
    cases borrow ts e with
    | none => rfl
    | some ds => dsimp only; unfold callB kCallR; cases cl j ds <;> rfl
  | some r => rfl
@[simp] theorem x_len (a e) : evE cl (.len a) e = (evE cl a e).bind lenT := by rw [evE]
@[simp] theorem x_bi (p as e) : evE cl (.bi p as) e = (evEs cl as e).bind (kBi p) := by
  rw [evE]; congr 1; funext ts e; unfold kBi; congr 1; funext ds e; unfold kBi3; rw [ofbind]
theorem idxT_eq (t : T) (k : D) (e : Env) : idxT t k e = (peek t e).bind (idxD t k) := by
  unfold idxT
  cases peek t e with
  | none => rfl
  | some d =>
    simp only [Option.bind_some]
    cases d <;> try rfl
    · rename_i s
      cases k <;> try rfl
      simp only [idxD]
      split
      · cases ixOf s.length _ with
        | none => rfl
        | some n => simp only [Option.bind_some]
      · rfl
    · rename_i xs
      cases k <;> try rfl
      simp only [idxD]
      cases ixOf xs.length _ <;> rfl
    · rename_i o xs
      cases k <;> try rfl
      simp only [idxD]
      cases ixOf xs.length _ with
      | none => rfl
      | some n => simp only [Option.bind_some]; cases xs[n]? <;> rfl
    · rename_i ns
      cases k <;> try rfl
      simp only [idxD]
      cases ixOf ns.length _ <;> rfl
@[simp] theorem x_idx (a b e) : evE cl (.idx a b) e = (evE cl a e).bind (kIdx1 cl b) := by
  rw [evE]; congr 1; funext t e; unfold kIdx1; congr 1; congr 1; funext u e; unfold kIdx2 kOf; cases u with
  | ref _ _ => rfl
  | val k => dsimp only; rw [idxT_eq]; cases (peek t e).bind (idxD t k) <;> rfl
@[simp] theorem x_tup (as e) : evE cl (.tupE as) e = (evEs cl as e).bind kTup := by rw [evE]; rfl
@[simp] theorem x_lst (as e) : evE cl (.lstE as) e = (evEs cl as e).bind kLst := by rw [evE]; rfl
@[simp] theorem x_lrng (a e) : evE cl (.lrng a) e = (evE cl a e).bind lrngT := by rw [evE]
@[simp] theorem x_dic1 (a b e) : evE cl (.dic1 a b) e = (evE cl a e).bind fun t e => if t.root = true then (evE cl b e).bind fun u e => dic1T t u e else .err := by rw [evE]
@[simp] theorem xe_get1 (o a e) : evE cl (.get1 o a) e = (evE cl o e).bind fun t e => if ((t.root || a.simple) && isDic (peek t e)) = true then (evE cl a e).bind fun u e => getT t u (.val .non) e else .err := by rw [evE]
@[simp] theorem xe_get2 (o a b e) : evE cl (.get2 o a b) e = (evE cl o e).bind fun t e => if ((t.root || (a.simple && b.simple)) && isDic (peek t e)) = true then (evE cl a e).bind fun u e => if u.root = true then (evE cl b e).bind fun w e => getT t u w e else .err else .err := by rw [evE]
@[simp] theorem x_dicE (e) : evE cl (.dicE .nil .nil) e = .ok (.val (.dic true [] [])) e := by rw [evE]
@[simp] theorem x_mut (m r as e) : evE cl (.mut m r as) e = (evE cl r e).bind (kMut cl m as) := by rw [evE]; rfl
@[simp] theorem x_cut (a l u e) : evE cl (.cut a l u) e = (evE cl a e).bind (kCut1 cl l u) := by
  rw [evE]; congr 1; funext t e; unfold kCut1; congr 1; congr 1; funext tl e; unfold kCut2
  cases int1 tl with
  | none => rfl
  | some i => dsimp only; congr 1; funext tu e; unfold kCut2'; cases int1 tu with
    | none => rfl
    | some j => dsimp only; congr 1; funext d e; unfold kCut3; rw [ofbind]
@[simp] theorem x_mth (m o as e) : evE cl (.mth m o as) e = (evE cl o e).bind (kMth cl m as) := by
  rw [evE]; congr 1; funext t e; unfold kMth; congr 1; congr 1; funext ts e; unfold kMth2; congr 1; funext ds e; unfold kBi3; rw [ofbind]
@[simp] theorem x_nil (e) : evEs cl .nil e = .ok [] e := by rw [evEs]
@[simp] theorem x_cons (a as e) : evEs cl (.cons a as) e = (evE cl a e).bind (kEs cl as) := by rw [evEs]; rfl
@[simp] theorem x_lc (a tg i c e) : evE cl (.lc a tg i c) e = (evI cl i e).bind (kLc cl a c tg) := by
  rw [evE]; congr 1; funext r e; unfold kLc; congr 1; congr 1; congr 1; funext d e; unfold lcT; congr 1; funext _ e; unfold lcT0; congr 1; funext t e; unfold lcT1; cases bool1 t with
  | none => rfl
  | some x => cases x <;> rfl
@[simp] theorem x_seq (a e) : evI cl (.seq a) e = (evE cl a e).bind kSrc := by rw [evI]; rfl
@[simp] theorem x_rng (n as e) : evI cl (.rng n as) e = (evEs cl as e).bind (rngT n) := by rw [evI]
@[simp] theorem x_enum (as e) : evI cl (.enum as) e = (evEs cl as e).bind enumT := by rw [evI]
@[simp] theorem x_zip (as e) : evI cl (.zip as) e = (evEs cl as e).bind zipT := by rw [evI]
@[simp] theorem x_asg (i a e) : evS cl N (.asg i a) ln e = ((evE cl a e).bind esc).go (kAsg ln i) := by rw [evS]; rfl
@[simp] theorem x_asgT (t a e) : evS cl N (.asgT t a) ln e = ((evE cl a e).bind esc).go (kAsgT ln t) := by rw [evS]; rfl
@[simp] theorem x_asgP (is as e) : evS cl N (.asgP is as) ln e = ((evEs cl as e).bind escL).got (kAsgP ln is) := by rw [evS]; rfl
@[simp] theorem x_seti (o k a e) : evS cl N (.seti o k a) ln e = if (o.simple && k.simple) = true then ((evE cl a e).bind esc).go (kSet1 cl o k) else .err := by rw [evS]; rfl
@[simp] theorem x_aug (i a e) : evS cl N (.aug i a) ln e = kAug cl ln i a e (e[i]?.getD none) := by
  rw [evS]; unfold kAug
  cases e[i]?.getD none with
  | none => rfl
  | some d => cases d <;> rfl
@[simp] theorem x_ex (a e) : evS cl N (.ex a) ln e = (evE cl a e).got kEx := by rw [evS]; rfl
@[simp] theorem x_if (t a b e) : evS cl N (.ifS t a b) ln e = (evE cl t e).got (kIf cl N ln a b) := by
  rw [evS]
  unfold evT
  cases evE cl t e with
  | err => rfl
  | exc x e => rfl
  | ok t e =>
    simp only [R.bind_ok, R.got_ok]
    unfold kIf
    cases bool1 t <;> rfl
@[simp] theorem x_for (tg i b e) : evS cl N (.forS tg i b) ln e = (evI cl i e).got (kFor cl N ln tg b) := by rw [evS]; rfl
@[simp] theorem x_whl (t b e) : evS cl N (.whl t b) ln e = whL (whT cl t) (evSs cl N b ln) N e := by rw [evS]; rfl
@[simp] theorem x_ret (a e) : evS cl N (.ret a) ln e = (evE cl a e).got (kRet ln) := by
  rw [evS]; congr 1; funext t e
  cases t with
  | val d => rfl
  | ref i p =>
    dsimp only [kRet]
    by_cases hp : p.isEmpty = true
    · rw [if_pos hp]
      cases e.at i p with
      | none => rfl
      | some d => simp only [kRet2]; rw [if_pos hp]
    · rw [if_neg hp]
      cases e.at i p with
      | none => rfl
      | some d => dsimp only; rw [if_neg hp]
@[simp] theorem x_brk (e) : evS cl N .brk ln e = .brk e := by rw [evS]
@[simp] theorem x_cnt (e) : evS cl N .cnt ln e = .cnt e := by rw [evS]
@[simp] theorem x_pass (e) : evS cl N .pass ln e = .nx e := by rw [evS]
@[simp] theorem x_snil (e) : evSs cl N .nil ln e = .nx e := by rw [evSs]
@[simp] theorem x_scons (s ss e) : evSs cl N (.cons s ss) ln e = (evS cl N s ln e).bind (evSs cl N ss ln) := by rw [evSs]
end
@[simp] theorem lrngT_int (j e) : lrngT (.val (.int j)) e = if (smallR j && decide (j.toNat ≤ sizeL)) = true then .ok (.val (.lst true (rngL 0 1 j.toNat))) e else .err := id rfl
end LT
/-! LuF: what is still to be done, asked. -/
namespace LT
section
variable (cl : Nat → List D → CR) (N : Nat) (ln : List Nat)
@[simp] theorem own_scr (b) : (D.scr b).own = false := id rfl
@[simp] theorem own_dic (b k v) : (D.dic b k v).own = b := id rfl
@[simp] theorem own_ins (b c k v) : (D.ins b c k v).own = b := id rfl
@[simp] theorem frz_scr (b) : (D.scr b).frz = .scr b := id rfl
@[simp] theorem kVar_some (i d e) : kVar i (some d) e = .ok (if d.own = true then .ref i [] else .val d) e := id rfl
@[simp] theorem kOf_some {α : Type} (a : α) (k : α → R T) : kOf (some a) k = k a := id rfl
@[simp] theorem kOf_none {α : Type} (k : α → R T) : kOf (none : Option α) k = .err := id rfl
@[simp] theorem kOf_ite {α : Type} (c : Prop) [Decidable c] (a b : Option α) (k : α → R T) : kOf (if c then a else b) k = if c then kOf a k else kOf b k := by split <;> rfl
@[simp] theorem kBin1_val (o b d e) : kBin1 cl o b (.val d) e = (evE cl b e).bind (kBin2 o (.val d)) := by simp [kBin1]
@[simp] theorem kBin1_ref (o b i e) : kBin1 cl o b (.ref i []) e = (evE cl b e).bind (kBin2 o (.ref i [])) := by simp [kBin1]
@[simp] theorem kBin2_eq (o t u e) : kBin2 o t u e = (rs t e).bind (kBin3 o u) := id rfl
@[simp] theorem kBin3_eq (o u x e) : kBin3 o u x e = (rs u e).bind (kBin4 o x) := id rfl
@[simp] theorem kBin4_eq (o x y e) : kBin4 o x y e = kOf (binop o x y) fun z => .ok (.val z) e := id rfl
@[simp] theorem kCmp1_val (o b d e) : kCmp1 cl o b (.val d) e = (evE cl b e).bind (kCmp2 o (.val d)) := by simp [kCmp1]
@[simp] theorem kCmp1_ref (o b i e) : kCmp1 cl o b (.ref i []) e = (evE cl b e).bind (kCmp2 o (.ref i [])) := by simp [kCmp1]
@[simp] theorem kCmp2_eq (o t u e) : kCmp2 o t u e = (rs t e).bind (kCmp3 o u) := id rfl
@[simp] theorem kCmp3_eq (o u x e) : kCmp3 o u x e = (rs u e).bind (kCmp4 o x) := id rfl
@[simp] theorem kCmp4_eq (o x y e) : kCmp4 o x y e = kOf (cmpop o x y) fun z => .ok (.val (.bl z)) e := id rfl
@[simp] theorem kAnd_bl (b x e) : kAnd cl b (.val (.bl x)) e = if x = true then evE cl b e else .ok (.val (.bl false)) e := id rfl
@[simp] theorem kOr_bl (b x e) : kOr cl b (.val (.bl x)) e = if x = true then .ok (.val (.bl true)) e else evE cl b e := id rfl
@[simp] theorem kIte_bl (a b x e) : kIte cl a b (.val (.bl x)) e = if x = true then evE cl a e else evE cl b e := id rfl
@[simp] theorem negT_int (i e) : negT (.val (.int i)) e = .ok (.val (.int (-i))) e := id rfl
@[simp] theorem notT_bl (i e) : notT (.val (.bl i)) e = .ok (.val (.bl (!i))) e := id rfl
@[simp] theorem lenT_eq (t e) : lenT t e = kOf ((peek t e).bind lenD) fun n => .ok (.val (.int n)) e := by
  unfold lenT kOf
  cases (peek t e).bind lenD <;> rfl
@[simp] theorem lenD_lst (o xs) : lenD (.lst o xs) = some xs.length := id rfl
@[simp] theorem lenD_tup (xs) : lenD (.tup xs) = some xs.length := id rfl
@[simp] theorem lenD_scr (xs) : lenD (.scr xs) = some xs.length := id rfl
@[simp] theorem lenD_str (xs : Cs) : lenD (.str xs) = if xs.length ≤ sizeL then some xs.length else none := id rfl
@[simp] theorem kCut1_val (l u d e) : kCut1 cl l u (.val d) e = (evE cl l e).bind (kCut2 cl u (.val d)) := by simp [kCut1]
@[simp] theorem kCut1_ref (l u i e) : kCut1 cl l u (.ref i []) e = (evE cl l e).bind (kCut2 cl u (.ref i [])) := by simp [kCut1]
@[simp] theorem kCut2_int (u t i e) : kCut2 cl u t (.val (.int i)) e = (evE cl u e).bind (kCut2' t i) := id rfl
@[simp] theorem kCut2'_int (t i j e) : kCut2' t i (.val (.int j)) e = (rs t e).bind fun d e => kCut3 d i j e := id rfl
@[simp] theorem kCut3_eq (d i j e) : kCut3 d i j e = kOf (cutD (some i) (some j) d) fun z => .ok (.val z) e := id rfl
@[simp] theorem kMth_val (m as d e) : kMth cl m as (.val d) e = if meOk m (some d) = true then (evEs cl as e).bind (kMth2 m (.val d)) else .err := by simp [kMth]
@[simp] theorem kMth_ref (m as i) (e : Env) : kMth cl m as (.ref i []) e = if meOk m (e.at i []) = true then (evEs cl as e).bind (kMth2 m (.ref i [])) else .err := by simp [kMth]
@[simp] theorem kMth2_eq (m t ts e) : kMth2 m t ts e = (rsL (t :: ts) e).bind (kBi3 (.me m)) := id rfl
@[simp] theorem meOk_index (o xs) : meOk .index (some (.lst o xs)) = true := id rfl
@[simp] theorem meOk_count (o xs) : meOk .count (some (.lst o xs)) = true := id rfl
@[simp] theorem meOk_bitlen (i) : meOk .bitlen (some (.int i)) = true := id rfl
@[simp] theorem meOk_join (s) : meOk .join (some (.str s)) = true := id rfl
@[simp] theorem bi_me (m ds) : bi (.me m) ds = meth m ds := id rfl
@[simp] theorem meth_bitlen (i) : meth .bitlen [.int i] = some (.int (PySem.Builtin.Int.intBits i : Nat)) := id rfl
@[simp] theorem bi_cutL (d i) : bi .cutL [d, .int i] = cutD (some i) none d := id rfl
@[simp] theorem bi_cutU (d i) : bi .cutU [d, .int i] = cutD none (some i) d := id rfl
@[simp] theorem bi_all1 (o xs) : bi .all [.lst o xs] = (allBl xs).map fun l => .bl (l.all id) := id rfl
@[simp] theorem bi_any1 (o xs) : bi .any [.lst o xs] = (allBl xs).map fun l => .bl (l.any id) := id rfl
@[simp] theorem bi_sum1 (o xs) : bi .sum [.lst o xs] = (allInt xs).map fun l => .int l.sum := id rfl
@[simp] theorem bi_max3' (i j k) : bi .max3 [.int i, .int j, .int k] = some (.int (maxL i [j, k])) := id rfl
@[simp] theorem bi_min3' (i j k) : bi .min3 [.int i, .int j, .int k] = some (.int (minL i [j, k])) := id rfl
@[simp] theorem enumT_one (t e) : enumT [t] e = (src t e).bind fun r e => .ok (r.2.1.zipIdx.map fun p => .tup [.int p.2, p.1], [r.2.2]) e := id rfl
@[simp] theorem zipT_two (t u e) : zipT [t, u] e = (src t e).bind fun r e => (src u e).bind fun r' e => .ok ((r.2.1.zip r'.2.1).map fun p => .tup [p.1, p.2], [r.2.2, r'.2.2]) e := id rfl
theorem allBl_map {α : Type} (l : List α) (f : α → Bool) : allBl (l.map fun x => .bl (f x)) = some (l.map f) := by
  induction l with
  | nil => rfl
  | cons x l ih => simp [allBl, ih]
theorem allInt_map {α : Type} (l : List α) (f : α → Int) : allInt (l.map fun x => .int (f x)) = some (l.map f) := by
  induction l with
  | nil => rfl
  | cons x l ih => simp [allInt, ih]
/-! calls -/
@[simp] theorem kCall_eq (j ts e) : kCall cl j ts e = kCallB cl j ts e (lend ts e) := id rfl
@[simp] theorem kCallB_some (j ts e r) : kCallB cl j ts e (some r) = kCall3 ts r.2 (cl j r.1) := id rfl
@[simp] theorem kCallB_none (j ts e) : kCallB cl j ts e none = kOf (borrow ts e) fun ds => kCallR e (cl j ds) := id rfl
@[simp] theorem kCallR_ret (e d o) : kCallR e (.ret d o) = if d.atom = true then .ok (.val d) e else .err := id rfl
@[simp] theorem kCallR_exc (e d o) : kCallR e (.exc d o) = .exc d e := id rfl
@[simp] theorem atom_non : D.non.atom = true := id rfl
@[simp] theorem atom_bl (b) : (D.bl b).atom = true := id rfl
@[simp] theorem atom_int (b) : (D.int b).atom = true := id rfl
@[simp] theorem atom_str (b) : (D.str b).atom = true := id rfl
@[simp] theorem borrow_nil (e) : borrow [] e = some [] := id rfl
@[simp] theorem borrow_val (d ts e) : borrow (.val d :: ts) e = if d.own = true then none else (borrow ts e).map (d :: ·) := id rfl
def borrowR (ts : List T) (e : Env) : Option D → Option (List D)
  | some d => (borrow ts e).map (d.frz :: ·)
  | none => none
@[simp] theorem borrowR_some (ts e d) : borrowR ts e (some d) = (borrow ts e).map (d.frz :: ·) := id rfl
@[simp] theorem borrow_ref (i p ts) (e : Env) : borrow (.ref i p :: ts) e = borrowR ts e (e.at i p) := by
  simp only [borrow]
  cases e.at i p <;> rfl
@[simp] theorem lend_path (i s p ts) (e : Env) : lend (.ref i (s :: p) :: ts) e = none := id rfl
@[simp] theorem kCall3_ret (ts e d o) : kCall3 ts e (.ret d o) = .ok (.val d) (back ts o e) := id rfl
@[simp] theorem kCall3_exc (ts e d o) : kCall3 ts e (.exc d o) = .exc d (back ts o e) := id rfl
@[simp] theorem lend_nil (e) : lend [] e = some ([], e) := id rfl
@[simp] theorem lend_val (d ts e) : lend (.val d :: ts) e = (lend ts e).map fun r => (d :: r.1, r.2) := id rfl
def lendR (o : Option D) (ts : List T) (e : Env) : Option (List D × Env) := match o with
  | some d => (lend ts e).map fun r => (d :: r.1, r.2)
  | none => none
@[simp] theorem lend_ref (i ts) (e : Env) : lend (.ref i [] :: ts) e = lendR (e[i]?.getD none) ts (e.set i none) := by
  simp only [lend, List.isEmpty_nil, if_true]
  rfl
@[simp] theorem lendR_some (d ts e) : lendR (some d) ts e = (lend ts e).map fun r => (d :: r.1, r.2) := id rfl
@[simp] theorem back_nil (ds e) : back [] ds e = e := id rfl
@[simp] theorem back_val (d ts d' ds e) : back (.val d :: ts) (d' :: ds) e = back ts ds e := id rfl
@[simp] theorem back_ref (i p ts d ds) (e : Env) : back (.ref i p :: ts) (d :: ds) e = back ts ds (e.set i (some d)) := id rfl
/-! builtins -/
@[simp] theorem kBi_eq (p ts e) : kBi p ts e = (rsL ts e).bind (kBi3 p) := id rfl
@[simp] theorem kBi3_eq (p ds e) : kBi3 p ds e = kOf (bi p ds) fun z => .ok (.val z) e := id rfl
@[simp] theorem rsL_nil (e) : rsL [] e = .ok [] e := id rfl
@[simp] theorem rsL_cons (t ts e) : rsL (t :: ts) e = (rs t e).bind fun d e => (rsL ts e).bind fun ds e => .ok (d :: ds) e := id rfl
def rsR (i : Nat) (p : List Stp) (e : Env) (o : Option D) : R D := match o with
  | none => .err
  | some d => if d.plain = true then .ok d.flat e else if p.isEmpty = true then .ok d.frz (e.set i (some d.frz)) else .err
@[simp] theorem rs_ref (i p) (e : Env) : rs (.ref i p) e = rsR i p e (e.at i p) := id rfl
@[simp] theorem rsR_some (i p d) (e : Env) : rsR i p e (some d) = if d.plain = true then .ok d.flat e else if p.isEmpty = true then .ok d.frz (e.set i (some d.frz)) else .err := id rfl
@[simp] theorem flat_lst (o xs) : (D.lst o xs).flat = .lst false xs := by cases o <;> rfl
@[simp] theorem plain_lst (o xs) : (D.lst o xs).plain = xs.all fun x => !x.own := id rfl
@[simp] theorem bi_abs' (i) : bi .abs [.int i] = some (.int (if i < 0 then -i else i)) := id rfl
@[simp] theorem bi_min2' (i j) : bi .min2 [.int i, .int j] = some (.int (if j < i then j else i)) := id rfl
@[simp] theorem bi_max2' (i j) : bi .max2 [.int i, .int j] = some (.int (if j > i then j else i)) := id rfl
@[simp] theorem bi_isT (n d) : bi (.isT n) [d] = (tyD d).map fun t => .bl (t == n || (n == 2 && t == 1)) := id rfl
@[simp] theorem ty_non : tyD .non = some 0 := id rfl
@[simp] theorem ty_bl (b) : tyD (.bl b) = some 1 := id rfl
@[simp] theorem ty_int (b) : tyD (.int b) = some 2 := id rfl
@[simp] theorem ty_str (b) : tyD (.str b) = some 3 := id rfl
@[simp] theorem ty_tup (b) : tyD (.tup b) = some 4 := id rfl
@[simp] theorem ty_lst (o b) : tyD (.lst o b) = some 5 := id rfl
@[simp] theorem ty_scr (b) : tyD (.scr b) = some 5 := id rfl
/-! items -/
@[simp] theorem kIdx1_val (b d e) : kIdx1 cl b (.val d) e = (evE cl b e).bind (kIdx2 (.val d)) := by simp [kIdx1]
@[simp] theorem kIdx1_ref (b i e) : kIdx1 cl b (.ref i []) e = (evE cl b e).bind (kIdx2 (.ref i [])) := by simp [kIdx1]
@[simp] theorem kIdx2_val (t k e) : kIdx2 t (.val k) e = kOf ((peek t e).bind (idxD t k)) fun r => .ok r e := id rfl
@[simp] theorem idxD_lst (t i o xs) : idxD t (.int i) (.lst o xs) = (ixOf xs.length i).bind fun n => (xs[n]?).map (kidT t (.ix n)) := id rfl
@[simp] theorem idxD_scr (t i ns) : idxD t (.int i) (.scr ns) = (ixOf ns.length i).bind fun n => (ns[n]?).map fun n => .val (.int n) := id rfl
@[simp] theorem idxD_tup (t i ns) : idxD t (.int i) (.tup ns) = (ixOf ns.length i).bind fun n => (ns[n]?).map .val := id rfl
@[simp] theorem kidT_no (t s d) (h : (!D.own d) = true) : kidT t s d = .val d := by simp at h; simp [kidT, h]
@[simp] theorem kidT_ref (j p s d) (h : d.own = true) : kidT (.ref j p) s d = .ref j (p ++ [s]) := by simp [kidT, h]
@[simp] theorem kidT_lst (j p s xs) : kidT (.ref j p) s (.lst true xs) = .ref j (p ++ [s]) := by simp [kidT]
theorem ixOf_lt {n : Nat} {i : Int} (h0 : 0 ≤ i) (h1 : i < n) : ixOf n i = some i.toNat := by simp [ixOf, h0, h1]
/-! displays -/
@[simp] theorem kEs_val (as d e) : kEs cl as (.val d) e = (evEs cl as e).bind (kEs2 (.val d)) := by simp [kEs]
@[simp] theorem kEs_ref (as i e) : kEs cl as (.ref i []) e = (evEs cl as e).bind (kEs2 (.ref i [])) := by simp [kEs]
@[simp] theorem kEs2_eq (t ts e) : kEs2 t ts e = .ok (t :: ts) e := id rfl
@[simp] theorem kTup_eq (ts e) : kTup ts e = (escL ts e).bind fun ds e => .ok (.val (.tup (frzs ds))) e := id rfl
@[simp] theorem kLst_eq (ts e) : kLst ts e = (escL ts e).bind fun ds e => .ok (.val (.lst true ds)) e := id rfl
@[simp] theorem escL_nil (e) : escL [] e = .ok [] e := id rfl
@[simp] theorem escL_cons (t ts e) : escL (t :: ts) e = (esc t e).bind fun d e => (escL ts e).bind fun ds e => .ok (d :: ds) e := id rfl
def escR (i : Nat) (e : Env) (o : Option D) : R D := match o with
  | none => .err
  | some d => .ok d.frz (e.set i (some d.frz))
@[simp] theorem esc_ref (i) (e : Env) : esc (.ref i []) e = escR i e (e.at i []) := by
  unfold esc escR
  dsimp only
  all_goals (cases e.at i [] <;> rfl)
@[simp] theorem escR_some (i d) (e : Env) : escR i e (some d) = .ok d.frz (e.set i (some d.frz)) := id rfl
@[simp] theorem frzs_nil : frzs [] = [] := id rfl
@[simp] theorem frzs_cons (d ds) : frzs (d :: ds) = d.frz :: frzs ds := id rfl
/-! statements -/
@[simp] theorem kAsg_eq (i d) (e : Env) : kAsg ln i d e = if ln.contains i = true then .err else .nx (e.set i (some d)) := id rfl
@[simp] theorem asgD_eq (i d) (e : Env) : asgD ln i d e = if ln.contains i = true then .err else .nx (e.set i (some d)) := id rfl
@[simp] theorem kAsgT_eq (t d e) : kAsgT ln t d e = asgTD ln t d e := id rfl
@[simp] theorem asgTD_v (i d e) : asgTD ln (.v i) d e = asgD ln i d e := by rw [asgTD]
@[simp] theorem asgTD_nil (e) : asgTD ln .nil (.tup []) e = .nx e := by rw [asgTD]
@[simp] theorem asgTD_cons (t ts d ds e) : asgTD ln (.cons t ts) (.tup (d :: ds)) e = (asgTD ln t d e).bind (asgTD ln ts (.tup ds)) := by rw [asgTD]
@[simp] theorem kAsgP_eq (is ds e) : kAsgP ln is ds e = asgL ln is ds e := id rfl
@[simp] theorem asgL_nil (e) : asgL ln [] [] e = .nx e := id rfl
@[simp] theorem asgL_cons (i is d ds e) : asgL ln (i :: is) (d :: ds) e = (asgL ln is ds e).bind fun e => asgD ln i d e := id rfl
@[simp] theorem kSet1_eq (o k d e) : kSet1 cl o k d e = (evE cl o e).got (kSet2 cl k d) := id rfl
@[simp] theorem kSet2_eq (k d t e) : kSet2 cl k d t e = (evE cl k e).got (kSet3 t d) := id rfl
@[simp] theorem kSet3_eq (t d u e) : kSet3 t d u e = (rs u e).got (kSet4 t d) := id rfl
@[simp] theorem kSet4_eq (t d x e) : kSet4 t d x e = putT t (fun o => setD o x d) e := id rfl
def kPut (i : Nat) (p : List Stp) (e : Env) (o : Option D) : F := match o with
  | some d => .nx (e.put i p d)
  | none => .err
@[simp] theorem putT_ref (i p g) (e : Env) : putT (.ref i p) g e = kPut i p e ((e.at i p).bind g) := by
  unfold putT kPut
  dsimp only
  all_goals (cases (e.at i p).bind g <;> rfl)
@[simp] theorem kPut_some (i p d) (e : Env) : kPut i p e (some d) = .nx (e.put i p d) := id rfl
@[simp] theorem put_nil (i d) (e : Env) : e.put i [] d = e.set i ((e[i]?.getD none).map fun _ => d) := id rfl
@[simp] theorem setD_lst (xs i v) : setD (.lst true xs) (.int i) v = (ixOf xs.length i).map fun n => .lst true (xs.set n v) := by
  simp only [setD]
  cases ixOf xs.length i <;> rfl
@[simp] theorem setD_dic (ks vs k v) : setD (.dic true ks vs) k v = if (okKey k ks && decide (ks.length < sizeL)) = true then some (.dic true (dputs ks vs k v.frz).1 (dputs ks vs k v.frz).2) else none := id rfl
@[simp] theorem idxD_dic (t k o ks vs) : idxD t k (.dic o ks vs) = if okKey k ks = true then (dget ks vs k).map .val else none := id rfl
@[simp] theorem inn_dic (x o ks vs) : cmpop .inn x (.dic o ks vs) = if okKey x ks = true then some (ks.any fun y => y.eqv x) else none := id rfl
@[simp] theorem nin_dic (x o ks vs) : cmpop .nin x (.dic o ks vs) = (if okKey x ks = true then some (ks.any fun y => y.eqv x) else none).map not := id rfl
@[simp] theorem lt_tup (a b) : cmpop .lt (.tup a) (.tup b) = lexD .lt a b := id rfl
@[simp] theorem le_tup (a b) : cmpop .le (.tup a) (.tup b) = lexD .le a b := id rfl
@[simp] theorem gt_tup (a b) : cmpop .gt (.tup a) (.tup b) = lexD .gt a b := id rfl
@[simp] theorem ge_tup (a b) : cmpop .ge (.tup a) (.tup b) = lexD .ge a b := id rfl
@[simp] theorem isDic_dic (o ks vs) : isDic (some (.dic o ks vs)) = true := id rfl
def getO (o : Option D) (kd dd : D) (e : Env) : R T := match o with
  | some (.dic _ ks vs) => if (okKey kd ks && !dd.own) = true then .ok (.val ((dget ks vs kd).getD dd)) e else .err
  | _ => .err
@[simp] theorem getT_vv (t kd dd e) : getT t (.val kd) (.val dd) e = getO (peek t e) kd dd e := id rfl
@[simp] theorem getO_dic (o ks vs kd dd e) : getO (some (.dic o ks vs)) kd dd e = if (okKey kd ks && !dd.own) = true then .ok (.val ((dget ks vs kd).getD dd)) e else .err := id rfl
@[simp] theorem dic1T_val (kd u e) : dic1T (.val kd) u e = (escF u e).bind fun vd e => if okKey kd [] = true then .ok (.val (.dic true [kd] [vd])) e else .err := id rfl
@[simp] theorem escF_eq (t e) : escF t e = (esc t e).bind fun d e => .ok d.frz e := id rfl
@[simp] theorem okKey_int (i ks) : okKey (.int i) ks = !headT ks := by simp [okKey, D.key, D.isTup]
@[simp] theorem okKey_str (i ks) : okKey (.str i) ks = !headT ks := by simp [okKey, D.key, D.isTup]
@[simp] theorem okKey_tup (xs ks) : okKey (.tup xs) ks = ((D.tup xs).nk 8 && (ks.isEmpty || headT ks)) := by simp [okKey, D.key, D.isTup]
@[simp] theorem headT_nil : headT [] = false := id rfl
@[simp] theorem headT_cons (k ks) : headT (k :: ks) = k.isTup := id rfl
@[simp] theorem isTup_str (s) : (D.str s).isTup = false := id rfl
@[simp] theorem isTup_int (s) : (D.int s).isTup = false := id rfl
@[simp] theorem isTup_tup (s) : (D.tup s).isTup = true := id rfl
@[simp] theorem key_int (i) : (D.int i).key = true := id rfl
@[simp] theorem key_str (i) : (D.str i).key = true := id rfl
@[simp] theorem flat_dic (o ks vs) : (D.dic o ks vs).flat = .dic false ks vs := by cases o <;> rfl
@[simp] theorem plain_dic (o ks vs) : (D.dic o ks vs).plain = vs.all fun x => !x.own := id rfl
@[simp] theorem frz_dicF (ks vs) : (D.dic false ks vs).frz = .dic false ks vs := id rfl
@[simp] theorem frz_dicT (ks vs) : (D.dic true ks vs).frz = .dic false ks (frzs vs) := id rfl
@[simp] theorem kAug_int (i a e x) : kAug cl ln i a e (some (.int x)) = (evE cl a e).got (kAug2 ln i x) := id rfl
@[simp] theorem kAug2_int (i x y e) : kAug2 ln i x (.val (.int y)) e = asgD ln i (.int (x + y)) e := id rfl
@[simp] theorem kEx_eq (t e) : kEx t e = .nx e := id rfl
@[simp] theorem kIf_bl (a b x e) : kIf cl N ln a b (.val (.bl x)) e = if x = true then evSs cl N a ln e else evSs cl N b ln e := id rfl
@[simp] theorem kTest_bl (x e) : kTest (.val (.bl x)) e = .ok x e := id rfl
@[simp] theorem kFor_eq (tg b r e) : kFor cl N ln tg b r e = forL (forT cl N tg b (srcs r.2 ln)) (heldP r.2 e) r.1 e := id rfl
@[simp] theorem srcs_nil (l) : srcs [] l = l := id rfl
@[simp] theorem srcs_val (d ts l) : srcs (.val d :: ts) l = srcs ts l := id rfl
@[simp] theorem srcs_ref (i p ts l) : srcs (.ref i p :: ts) l = i :: srcs ts l := id rfl
@[simp] theorem kRet_val (d e) : kRet ln (.val d) e = .ret d e := id rfl
@[simp] theorem kRet_ref (i e) : kRet ln (.ref i []) e = kRet2 ln i e (e.at i []) := id rfl
@[simp] theorem kRet2_some (i d) (e : Env) : kRet2 ln i e (some d) = if ln.contains i = true then .ret d.frz (e.set i (some d.frz)) else .ret d (e.set i none) := id rfl
@[simp] theorem rngT1 (j e) : rngT 1 [.val (.int j)] e = if smallR j = true then .ok (rngL 0 1 j.toNat, []) e else .err := id rfl
@[simp] theorem rngT2 (i j e) : rngT 2 [.val (.int i), .val (.int j)] e = if (smallR i && smallR j) = true then .ok (rngL i 1 (j - i).toNat, []) e else .err := id rfl
@[simp] theorem rngT3 (i j k e) : rngT 3 [.val (.int i), .val (.int j), .val (.int k)] e = if rngOk i j k = true then .ok (rngL i k (PySem.Builtin.Range.rangeSize i j k).toNat, []) e else .err := id rfl
/-! operators -/
@[simp] theorem b_add (i j) : binop .add (.int i) (.int j) = some (.int (i + j)) := id rfl
@[simp] theorem b_sub (i j) : binop .sub (.int i) (.int j) = some (.int (i - j)) := id rfl
@[simp] theorem b_mul (i j) (h : mulOk i j) : binop .mul (.int i) (.int j) = some (.int (i * j)) := by simp [binop, h]
@[simp] theorem b_fdiv (i j) (h : 0 < j) (h2 : smallDiv j) : binop .fdiv (.int i) (.int j) = some (.int (i / j)) := by simp [binop, h, h2]
@[simp] theorem b_mod (i j) (h : 0 < j) : binop .mod (.int i) (.int j) = some (.int (i % j)) := by simp [binop, h]
@[simp] theorem b_pow (i j) (h1 : 0 ≤ j) (h2 : j ≤ 1000000) (h3 : i.natAbs < 18446744073709551616) : binop .pow (.int i) (.int j) = some (.int (i ^ j.toNat)) := by simp [binop, h1, h2, h3]
@[simp] theorem b_shr (i j) (h : 0 ≤ j) : binop .shr (.int i) (.int j) = some (.int (i / 2 ^ j.toNat)) := by simp [binop, h]
@[simp] theorem b_shl (i j) (h1 : 0 ≤ j) (h2 : j ≤ 1000000) (h3 : i.natAbs < 18446744073709551616) : binop .shl (.int i) (.int j) = some (.int (i * 2 ^ j.toNat)) := by simp [binop, h1, h2, h3]
@[simp] theorem mulOk_r {i j : Int} (h1 : -18446744073709551616 < j) (h2 : j < 18446744073709551616) : mulOk i j := .inr (.inl ⟨h1, h2⟩)
@[simp] theorem mulOk_l {i j : Int} (h1 : -18446744073709551616 < i) (h2 : i < 18446744073709551616) : mulOk i j := .inl ⟨h1, h2⟩
theorem pow_le64 : 18446744073709551616 ≤ 2 ^ 8999 := by
  have : (2 : Nat) ^ 64 ≤ 2 ^ 8999 := Nat.pow_le_pow_right (by decide) (by decide)
  exact this
@[simp] theorem smallDiv_lit {j : Int} (h1 : -18446744073709551616 < j) (h2 : j < 18446744073709551616) : smallDiv j := Nat.lt_of_lt_of_le (by omega : j.natAbs < 18446744073709551616) pow_le64
@[simp] theorem c_lt (i j) : cmpop .lt (.int i) (.int j) = some (decide (i < j)) := id rfl
@[simp] theorem c_le (i j) : cmpop .le (.int i) (.int j) = some (decide (i ≤ j)) := id rfl
@[simp] theorem c_gt (i j) : cmpop .gt (.int i) (.int j) = some (decide (j < i)) := id rfl
@[simp] theorem c_ge (i j) : cmpop .ge (.int i) (.int j) = some (decide (j ≤ i)) := id rfl
@[simp] theorem c_isN (a) : cmpop .isN a .non = some a.isNon := id rfl
@[simp] theorem c_notN (a) : cmpop .notN a .non = some (!a.isNon) := id rfl
@[simp] theorem c_isB (a b) : cmpop .isN (.bl a) (.bl b) = some (a == b) := id rfl
@[simp] theorem c_notB (a b) : cmpop .notN (.bl a) (.bl b) = some (!(a == b)) := id rfl
@[simp] theorem c_eqI (i j) : cmpop .eq (.int i) (.int j) = some (i == j) := id rfl
@[simp] theorem c_neI (i j) : cmpop .ne (.int i) (.int j) = some (!(i == j)) := id rfl
@[simp] theorem isNon_non : D.non.isNon = true := id rfl
@[simp] theorem isNon_int (i) : (D.int i).isNon = false := id rfl
@[simp] theorem isNon_bl (i) : (D.bl i).isNon = false := id rfl
@[simp] theorem isNon_str (i) : (D.str i).isNon = false := id rfl
@[simp] theorem isNon_tup (i) : (D.tup i).isNon = false := id rfl
@[simp] theorem isNon_lst (o i) : (D.lst o i).isNon = false := id rfl
@[simp] theorem simple_var (i) : (E.var i).simple = true := by rw [E.simple]
@[simp] theorem simple_con (i) : (E.con i).simple = true := by rw [E.simple]
@[simp] theorem simple_idx (a b) : (E.idx a b).simple = (a.simple && b.simple) := by rw [E.simple]
@[simp] theorem simple_bin (o a b) : (E.bin o a b).simple = (a.simple && b.simple) := by rw [E.simple]
/-! what is walked -/
def srcR (i : Nat) (e : Env) (o : Option D) : R (Nat × List D × T) := match o with
  | none => .err
  | some d => if d.plain = true then (match itemsOf d with
        | some xs => .ok (knd d, xs, .ref i []) e
        | none => .err) else match itemsOf d.frz with
        | some xs => .ok (knd d, xs, .val d.frz) (e.set i (some d.frz))
        | none => .err
@[simp] theorem kSrc_eq (t e) : kSrc t e = (src t e).bind kSrc2 := id rfl
@[simp] theorem kSrc2_eq (r e) : kSrc2 r e = .ok (r.2.1, [r.2.2]) e := id rfl
@[simp] theorem src_ref (i) (e : Env) : src (.ref i []) e = srcR i e (e.at i []) := by
  unfold src srcR
  dsimp only
  all_goals (cases e.at i [] <;> rfl)
@[simp] theorem srcR_plain (i e xs) (h : (xs.all fun x => !x.own) = true) : srcR i e (some (.lst true xs)) = .ok (0, xs, .ref i []) e := by
  have h' : (D.lst true xs).plain = true := h
  simp only [srcR, h', if_true]
  rfl
@[simp] theorem srcR_own (i) (e : Env) (xs) (h : (!(xs.all fun x => !x.own)) = true) : srcR i e (some (.lst true xs)) = .ok (0, frzs xs, .val (.lst false (frzs xs))) (e.set i (some (.lst false (frzs xs)))) := by
  have h' : (D.lst true xs).plain = false := by simpa [D.plain, D.kids] using h
  simp only [srcR, h', Bool.false_eq_true, if_false]
  rfl
@[simp] theorem src_lstF (e xs) : src (.val (.lst false xs)) e = .ok (0, xs, .val (.lst false xs)) e := id rfl
@[simp] theorem src_lstT (e xs) : src (.val (.lst true xs)) e = .ok (0, frzs xs, .val (.lst false (frzs xs))) e := id rfl
@[simp] theorem src_tup (e xs) : src (.val (.tup xs)) e = .ok (1, xs, .val (.tup xs)) e := id rfl
@[simp] theorem src_scr (e ns) : src (.val (.scr ns)) e = .ok (0, ns.map .int, .val (.scr ns)) e := id rfl
@[simp] theorem src_str (e) (s : Cs) : src (.val (.str s)) e = .ok (2, s.map fun c => .str [c], .val (.str s)) e := id rfl
@[simp] theorem heldP_nil (e e') : heldP [] e e' = True := by simp [heldP]
@[simp] theorem heldP_val (d ts e e') : heldP (.val d :: ts) e e' = heldP ts e e' := by simp [heldP, Held]
@[simp] theorem heldP_ref (i p ts e e') : heldP (.ref i p :: ts) e e' = (Env.at e' i p = Env.at e i p ∧ heldP ts e e') := by simp [heldP, Held]
end
end LT
/-! LuG: the helpers that the laws share: the bag and what is taken of it, the box and what is drawn. -/
namespace LT
def irBag : Ss := Ss.cons (S.asg 2 (E.con (D.int 0))) (Ss.cons (S.ifS (E.cmp Cm.lt (E.var 1) (E.len (E.var 0))) (Ss.cons (S.asg 2 (E.bi Bi.abs (Es.cons (E.idx (E.var 0) (E.var 1)) Es.nil))) Ss.nil) Ss.nil) (Ss.cons (S.asg 3 (E.bin Op.add (E.bin Op.mul (E.con (D.int 7919)) (E.var 1)) (E.con (D.int 17)))) (Ss.cons (S.forS (Tg.v 4) (It.rng 1 (Es.cons (E.bi Bi.min2 (Es.cons (E.len (E.var 0)) (Es.cons (E.con (D.int 60)) Es.nil))) Es.nil)) (Ss.cons (S.asg 3 (E.bin Op.mod (E.bin Op.add (E.bin Op.add (E.bin Op.mul (E.var 3) (E.con (D.int 48271))) (E.bin Op.mod (E.idx (E.var 0) (E.var 4)) (E.con (D.int 2147483647)))) (E.var 4)) (E.con (D.int 2147483629)))) Ss.nil)) (Ss.cons (S.ifS (E.cmp Cm.lt (E.var 2) (E.bin Op.pow (E.con (D.int 10)) (E.con (D.int 18)))) (Ss.cons (S.asg 2 (E.con (D.int 0))) Ss.nil) Ss.nil) (Ss.cons (S.ret (E.lstE (Es.cons (E.var 2) (Es.cons (E.var 3) Es.nil)))) Ss.nil)))))
def fnBag : Fn := ⟨2, 5, irBag⟩
def irTake : Ss := Ss.cons (S.ifS (E.cmp Cm.gt (E.idx (E.var 0) (E.con (D.int 0))) (E.con (D.int 0))) (Ss.cons (S.asg 2 (E.bin Op.mod (E.idx (E.var 0) (E.con (D.int 0))) (E.var 1))) (Ss.cons (S.seti (E.var 0) (E.con (D.int 0)) (E.bin Op.fdiv (E.idx (E.var 0) (E.con (D.int 0))) (E.var 1))) (Ss.cons (S.ret (E.var 2)) Ss.nil))) Ss.nil) (Ss.cons (S.asg 3 (E.con (D.int 0))) (Ss.cons (S.asg 4 (E.con (D.int 1))) (Ss.cons (S.whl (E.cmp Cm.lt (E.var 4) (E.var 1)) (Ss.cons (S.seti (E.var 0) (E.con (D.int 1)) (E.bin Op.mod (E.bin Op.add (E.bin Op.mul (E.idx (E.var 0) (E.con (D.int 1))) (E.con (D.int 48271))) (E.con (D.int 7919))) (E.con (D.int 2147483647)))) (Ss.cons (S.asg 3 (E.bin Op.add (E.bin Op.mul (E.var 3) (E.con (D.int 1073741789))) (E.bin Op.mod (E.bin Op.mul (E.bin Op.fdiv (E.idx (E.var 0) (E.con (D.int 1))) (E.con (D.int 8))) (E.con (D.int 69621))) (E.con (D.int 1073741789))))) (Ss.cons (S.asg 4 (E.bin Op.mul (E.var 4) (E.con (D.int 1073741789)))) Ss.nil)))) (Ss.cons (S.ret (E.bin Op.mod (E.var 3) (E.var 1))) Ss.nil))))
def fnTake : Fn := ⟨2, 5, irTake⟩
def irBox : Ss := Ss.cons (S.asg 2 (E.con (D.int 0))) (Ss.cons (S.ifS (E.cmp Cm.lt (E.var 1) (E.len (E.var 0))) (Ss.cons (S.asg 2 (E.bi Bi.abs (Es.cons (E.idx (E.var 0) (E.var 1)) Es.nil))) Ss.nil) Ss.nil) (Ss.cons (S.ifS (E.cmp Cm.ge (E.var 2) (E.bin Op.pow (E.con (D.int 10)) (E.con (D.int 18)))) (Ss.cons (S.ret (E.lstE (Es.cons (E.var 2) Es.nil))) Ss.nil) Ss.nil) (Ss.cons (S.asg 3 (E.con (D.int 0))) (Ss.cons (S.forS (Tg.v 4) (It.rng 1 (Es.cons (E.con (D.int 128)) Es.nil)) (Ss.cons (S.asg 5 (E.bin Op.mod (E.bin Op.mul (E.bin Op.add (E.bin Op.add (E.bin Op.add (E.bin Op.mod (E.var 2) (E.con (D.int 2147483647))) (E.bin Op.mul (E.con (D.int 7919)) (E.var 1))) (E.bin Op.mul (E.con (D.int 104729)) (E.var 4))) (E.con (D.int 97))) (E.con (D.int 48271))) (E.con (D.int 2147483647)))) (Ss.cons (S.asg 3 (E.bin Op.add (E.bin Op.mul (E.var 3) (E.con (D.int 2147483647))) (E.bin Op.mod (E.bin Op.add (E.bin Op.add (E.bin Op.mul (E.var 5) (E.var 5)) (E.bin Op.mul (E.con (D.int 31)) (E.var 4))) (E.bin Op.fdiv (E.var 2) (E.con (D.int 2147483647)))) (E.con (D.int 2147483647))))) Ss.nil))) (Ss.cons (S.ret (E.lstE (Es.cons (E.var 3) Es.nil))) Ss.nil)))))
def fnBox : Fn := ⟨2, 6, irBox⟩
def irDraw : Ss := Ss.cons (S.asg 2 (E.bin Op.mod (E.idx (E.var 0) (E.con (D.int 0))) (E.var 1))) (Ss.cons (S.seti (E.var 0) (E.con (D.int 0)) (E.bin Op.fdiv (E.idx (E.var 0) (E.con (D.int 0))) (E.var 1))) (Ss.cons (S.ret (E.var 2)) Ss.nil))
def fnDraw : Fn := ⟨2, 3, irDraw⟩
theorem sd_of {j : Int} (h1 : 0 < j) (h2 : j ≤ 10 ^ 100) : smallDiv j := by
  have h3 : (10 : Int) ^ 100 < 2 ^ 400 := by decide
  have h4 : (2 : Nat) ^ 400 ≤ 2 ^ 8999 := Nat.pow_le_pow_right (by decide) (by decide)
  have h5 : (j.natAbs : Int) < (2 : Int) ^ 400 := by omega
  have h6 : j.natAbs < 2 ^ 400 := by exact_mod_cast h5
  exact Nat.lt_of_lt_of_le h6 h4
theorem take_spec (cl) (c m many : Int) (hc : 0 ≤ c) (hm : 0 ≤ m) (h1 : 0 < many) (h2 : many ≤ 10 ^ 100) : ∃ d c' m' : Int, runF cl 10000000000000000 fnTake [.lst true [.int c, .int m], .int many] = .ret (.int d) [.lst true [.int c', .int m'], .int many] ∧ 0 ≤ d ∧ d < many ∧ 0 ≤ c' ∧ 0 ≤ m' := by
  have sd : smallDiv many := sd_of h1 h2
  by_cases h : 0 < c
  · refine ⟨c % many, c / many, m, ?_, Int.emod_nonneg _ (by omega), Int.emod_lt_of_pos _ h1, Int.ediv_nonneg hc (by omega), hm⟩
    simp [runF, fnTake, irTake, lentIx, ixOf, h, h1, sd]
  · have key : ∀ (body : Ss), body = (Ss.cons (S.seti (E.var 0) (E.con (D.int 1)) (E.bin Op.mod (E.bin Op.add (E.bin Op.mul (E.idx (E.var 0) (E.con (D.int 1))) (E.con (D.int 48271))) (E.con (D.int 7919))) (E.con (D.int 2147483647)))) (Ss.cons (S.asg 3 (E.bin Op.add (E.bin Op.mul (E.var 3) (E.con (D.int 1073741789))) (E.bin Op.mod (E.bin Op.mul (E.bin Op.fdiv (E.idx (E.var 0) (E.con (D.int 1))) (E.con (D.int 8))) (E.con (D.int 69621))) (E.con (D.int 1073741789))))) (Ss.cons (S.asg 4 (E.bin Op.mul (E.var 4) (E.con (D.int 1073741789)))) Ss.nil))) →
        ∃ e', whL (whT cl (E.cmp Cm.lt (E.var 4) (E.var 1))) (evSs cl 10000000000000000 body [0]) 10000000000000000 [some (D.lst true [D.int c, D.int m]), some (D.int many), none, some (D.int 0), some (D.int 1)] = .nx e' ∧ ∃ m' n r : Int, e' = [some (D.lst true [D.int c, D.int m']), some (D.int many), none, some (D.int n), some (D.int r)] ∧ 0 ≤ m' := by
      rintro body rfl
      refine whL_inv (fun k e => ∃ m' n r : Int, e = [some (D.lst true [D.int c, D.int m']), some (D.int many), none, some (D.int n), some (D.int r)] ∧ 0 ≤ m' ∧ 0 < r ∧ many ≤ r * 2 ^ k) _ ?_ 10000000000000000 399 _ (by decide) ⟨m, 0, 1, rfl, hm, by decide, ?_⟩
      · rintro k e ⟨m', n, r, rfl, hm', hr, hk⟩
        by_cases ht : r < many
        · refine .inr ⟨[some (D.lst true [D.int c, D.int m']), some (D.int many), none, some (D.int n), some (D.int r)], [some (D.lst true [D.int c, D.int ((m' * 48271 + 7919) % 2147483647)]), some (D.int many), none, some (D.int (n * 1073741789 + (m' * 48271 + 7919) % 2147483647 / 8 * 69621 % 1073741789)), some (D.int (r * 1073741789))], by simp [whT, ht], by simp [ixOf], k - 1, ?_, _, _, _, rfl, Int.emod_nonneg _ (by decide), by omega, ?_⟩
          · cases k with
            | zero => simp at hk; omega
            | succ k => omega
          · cases k with
            | zero => simp at hk; omega
            | succ k =>
              have hp : (0 : Int) < 2 ^ k := Int.pow_pos (by decide)
              have : (2 : Int) ^ (k + 1) = 2 ^ k * 2 := Int.pow_succ ..
              rw [this] at hk
              simp only [Nat.add_sub_cancel]
              have h8 : r * (2 ^ k * 2) ≤ r * 1073741789 * 2 ^ k := by
                have h9 : 0 ≤ r * 2 ^ k := Int.mul_nonneg (by omega) (by omega)
                have e1 : r * (2 ^ k * 2) = (r * 2 ^ k) * 2 := by rw [Int.mul_assoc]
                have e2 : r * 1073741789 * 2 ^ k = (r * 2 ^ k) * 1073741789 := by rw [Int.mul_assoc, Int.mul_comm 1073741789, ← Int.mul_assoc]
                rw [e1, e2]
                omega
              omega
        · exact .inl ⟨by simp [whT, ht], m', n, r, rfl, hm'⟩
      · have h3 : (10 : Int) ^ 100 ≤ 1 * 2 ^ 399 := by decide
        omega
    obtain ⟨e', k1, m', n, r, rfl, k2⟩ := key _ rfl
    refine ⟨n % many, c, m', ?_, Int.emod_nonneg _ (by omega), Int.emod_lt_of_pos _ h1, hc, k2⟩
    simp [runF, fnTake, irTake, lentIx, ixOf, h, h1, sd, k1]
theorem bag_spec (cl) (ns : List Int) (at_ : Int) (h0 : 0 ≤ at_) (hl : ns.length ≤ 63) : ∃ c m : Int, runF cl 10000000000000000 fnBag [.scr ns, .int at_] = .ret (.lst true [.int c, .int m]) [.scr ns, .int at_] ∧ 0 ≤ c ∧ 0 ≤ m := by
  have loop : ∀ (body : Ss), body = (Ss.cons (S.asg 3 (E.bin Op.mod (E.bin Op.add (E.bin Op.add (E.bin Op.mul (E.var 3) (E.con (D.int 48271))) (E.bin Op.mod (E.idx (E.var 0) (E.var 4)) (E.con (D.int 2147483647)))) (E.var 4)) (E.con (D.int 2147483629)))) Ss.nil) → ∀ (e0 : Env) (L : Nat) (cell mix : Int), L ≤ ns.length → 0 ≤ mix →
      ∃ e', forL (forT cl 10000000000000000 (.v 4) body []) (heldP [] e0) (rngL 0 1 L) [some (D.scr ns), some (D.int at_), some (D.int cell), some (D.int mix), none] = .nx e' ∧ ∃ (mix' : Int) (s : Option D), e' = [some (D.scr ns), some (D.int at_), some (D.int cell), some (D.int mix'), s] ∧ 0 ≤ mix' := by
    intro body hb e0 L cell mix hL hm
    obtain ⟨e', k1, k2⟩ := forL_inv (turn := forT cl 10000000000000000 (.v 4) body []) (held := heldP [] e0) (fun _ e => ∃ (mix' : Int) (s : Option D), e = [some (D.scr ns), some (D.int at_), some (D.int cell), some (D.int mix'), s] ∧ 0 ≤ mix') (rngL 0 1 L) 0 _ ⟨mix, none, rfl, hm⟩ (by
      rintro i d e hd ⟨mix', s, rfl, hm'⟩
      obtain ⟨rfl, hi⟩ := rng_get hd
      have hi2 : i < ns.length := by omega
      refine ⟨[some (D.scr ns), some (D.int at_), some (D.int cell), some (D.int ((mix' * 48271 + ns[i] % 2147483647 + i) % 2147483629)), some (D.int i)], by simp [forT, hb, ixOf, hi2], by simp [heldP], _, _, rfl, Int.emod_nonneg _ (by decide)⟩)
    exact ⟨e', k1, k2⟩
  have sm : ∀ L : Int, 0 ≤ L → L ≤ 63 → smallR L = true := fun L h1 h2 => by simp [smallR]; omega
  obtain ⟨L, hL⟩ : ∃ L : Nat, (if (60 : Int) < ns.length then (60 : Int) else ns.length) = L := ⟨min ns.length 60, by split <;> omega⟩
  have hL1 : L ≤ ns.length := by split at hL <;> omega
  have hL2 := sm L (by omega) (by omega)
  by_cases hat : at_ < ns.length
  · have lt : at_.toNat < ns.length := by omega
    obtain ⟨e', k1, mix', s, rfl, k2⟩ := loop _ rfl [some (D.scr ns), some (D.int at_), some (D.int (if ns[at_.toNat] < 0 then -ns[at_.toNat] else ns[at_.toNat])), some (D.int (7919 * at_ + 17)), none] L (if ns[at_.toNat] < 0 then -ns[at_.toNat] else ns[at_.toNat]) (7919 * at_ + 17) hL1 (by omega)
    by_cases hc : (if ns[at_.toNat] < 0 then -ns[at_.toNat] else ns[at_.toNat]) < 1000000000000000000
    · refine ⟨0, mix', ?_, by omega, k2⟩
      simp [runF, fnBag, irBag, lentIx, ixOf_lt h0 hat, hat, lt, hL, hL2, k1, hc]
    · refine ⟨if ns[at_.toNat] < 0 then -ns[at_.toNat] else ns[at_.toNat], mix', ?_, by split <;> omega, k2⟩
      simp [runF, fnBag, irBag, lentIx, ixOf_lt h0 hat, hat, lt, hL, hL2, k1, hc]
  · obtain ⟨e', k1, mix', s, rfl, k2⟩ := loop _ rfl [some (D.scr ns), some (D.int at_), some (D.int 0), some (D.int (7919 * at_ + 17)), none] L 0 (7919 * at_ + 17) hL1 (by omega)
    refine ⟨0, mix', ?_, by omega, k2⟩
    simp [runF, fnBag, irBag, lentIx, hat, hL, hL2, k1]
theorem draw_spec (cl) (n many : Int) (h1 : 0 < many) (h2 : many ≤ 10 ^ 100) : runF cl 10000000000000000 fnDraw [.lst true [.int n], .int many] = .ret (.int (n % many)) [.lst true [.int (n / many)], .int many] := by
  have sd : smallDiv many := sd_of h1 h2
  simp [runF, fnDraw, irDraw, lentIx, ixOf, h1, sd]
def boxBody : Ss := (Ss.cons (S.asg 5 (E.bin Op.mod (E.bin Op.mul (E.bin Op.add (E.bin Op.add (E.bin Op.add (E.bin Op.mod (E.var 2) (E.con (D.int 2147483647))) (E.bin Op.mul (E.con (D.int 7919)) (E.var 1))) (E.bin Op.mul (E.con (D.int 104729)) (E.var 4))) (E.con (D.int 97))) (E.con (D.int 48271))) (E.con (D.int 2147483647)))) (Ss.cons (S.asg 3 (E.bin Op.add (E.bin Op.mul (E.var 3) (E.con (D.int 2147483647))) (E.bin Op.mod (E.bin Op.add (E.bin Op.add (E.bin Op.mul (E.var 5) (E.var 5)) (E.bin Op.mul (E.con (D.int 31)) (E.var 4))) (E.bin Op.fdiv (E.var 2) (E.con (D.int 2147483647)))) (E.con (D.int 2147483647))))) Ss.nil))
theorem box_loop (cl) (ns : List Int) (at_ cell : Int) (e0 : Env) : ∃ e', forL (forT cl 10000000000000000 (.v 4) boxBody []) (heldP [] e0) (rngL 0 1 128) [some (D.scr ns), some (D.int at_), some (D.int cell), some (D.int 0), none, none] = .nx e' ∧ ∃ (n : Int) (s t : Option D), e' = [some (D.scr ns), some (D.int at_), some (D.int cell), some (D.int n), s, t] ∧ 0 ≤ n := by
  obtain ⟨e', k1, k2⟩ := forL_inv (turn := forT cl 10000000000000000 (.v 4) boxBody []) (held := heldP [] e0) (fun _ e => ∃ (n : Int) (s t : Option D), e = [some (D.scr ns), some (D.int at_), some (D.int cell), some (D.int n), s, t] ∧ 0 ≤ n) (rngL 0 1 128) 0 _ ⟨0, none, none, rfl, by decide⟩ (by
    rintro i d e hd ⟨n, s, t, rfl, hn⟩
    obtain ⟨rfl, hi⟩ := rng_get hd
    have p : ∃ p : Int, (cell % 2147483647 + 7919 * at_ + 104729 * i + 97) * 48271 % 2147483647 = p ∧ 0 ≤ p ∧ p < 2147483647 := ⟨_, rfl, Int.emod_nonneg _ (by decide), Int.emod_lt_of_pos _ (by decide)⟩
    obtain ⟨p, hp, p0, p1⟩ := p
    have mo : mulOk p p := .inl ⟨by unfold big; omega, by unfold big; omega⟩
    have q0 : 0 ≤ (p * p + 31 * i + cell / 2147483647) % 2147483647 := Int.emod_nonneg _ (by decide)
    refine ⟨[some (D.scr ns), some (D.int at_), some (D.int cell), some (D.int (n * 2147483647 + (p * p + 31 * i + cell / 2147483647) % 2147483647)), some (D.int i), some (D.int p)], by simp [forT, boxBody, hp, mo], by simp, _, _, _, rfl, by omega⟩)
  exact ⟨e', k1, k2⟩
theorem box_spec (cl) (ns : List Int) (at_ : Int) (h0 : 0 ≤ at_) : ∃ n : Int, runF cl 10000000000000000 fnBox [.scr ns, .int at_] = .ret (.lst true [.int n]) [.scr ns, .int at_] ∧ 0 ≤ n := by
  have sm : smallR 128 = true := by decide
  have fin : ∀ cell : Int, 0 ≤ cell → (at_ < ns.length → ∃ lt : at_.toNat < ns.length, cell = if ns[at_.toNat] < 0 then -ns[at_.toNat] else ns[at_.toNat]) → (¬ at_ < ns.length → cell = 0) → ∃ n : Int, runF cl 10000000000000000 fnBox [.scr ns, .int at_] = .ret (.lst true [.int n]) [.scr ns, .int at_] ∧ 0 ≤ n := by
    intro cell hc h1 h2
    by_cases hat : at_ < ns.length
    · obtain ⟨lt, hl⟩ := h1 hat
      by_cases hb : 1000000000000000000 ≤ cell
      · exact ⟨cell, by simp [runF, fnBox, irBox, lentIx, ixOf_lt h0 hat, hat, lt, ← hl, hb], hc⟩
      · obtain ⟨e', k1, n, s, t, rfl, k2⟩ := box_loop cl ns at_ cell [some (D.scr ns), some (D.int at_), some (D.int cell), some (D.int 0), none, none]
        simp only [boxBody] at k1
        exact ⟨n, by simp [runF, fnBox, irBox, lentIx, ixOf_lt h0 hat, hat, lt, ← hl, hb, sm, k1], k2⟩
    · obtain rfl := h2 hat
      obtain ⟨e', k1, n, s, t, rfl, k2⟩ := box_loop cl ns at_ 0 [some (D.scr ns), some (D.int at_), some (D.int 0), some (D.int 0), none, none]
      simp only [boxBody] at k1
      exact ⟨n, by simp [runF, fnBox, irBox, lentIx, hat, sm, k1], k2⟩
  by_cases hat : at_ < ns.length
  · have lt : at_.toNat < ns.length := by omega
    exact fin (if ns[at_.toNat] < 0 then -ns[at_.toNat] else ns[at_.toNat]) (by split <;> omega) (fun _ => ⟨lt, rfl⟩) (fun h => absurd hat h)
  · exact fin 0 (by decide) (fun h => absurd h hat) fun _ => rfl
/-- a comprehension that leaves all as it is -/
theorem lcL_map {turn : D → Env → R (Option D)} {held : Env → Prop} {f : D → D} {e : Env} (hh : held e) : ∀ {ds : List D}, (∀ d ∈ ds, turn d e = .ok (some (f d)) e) → lcL turn held ds e = .ok (ds.map f) e
  | [], _ => rfl
  | d :: ds, h => by
    simp only [lcL, h d List.mem_cons_self, R.noX_ok, R.bind_ok, if_pos hh, lcL_map hh fun d m => h d (List.mem_cons_of_mem _ m), optL, List.map_cons]
/-- .. that takes some only -/
theorem lcL_filterMap {turn : D → Env → R (Option D)} {held : Env → Prop} {f : D → Option D} {e : Env} (hh : held e) : ∀ {ds : List D}, (∀ d ∈ ds, turn d e = .ok (f d) e) → lcL turn held ds e = .ok (ds.filterMap f) e
  | [], _ => rfl
  | d :: ds, h => by
    simp only [lcL, h d List.mem_cons_self, R.noX_ok, R.bind_ok, if_pos hh, lcL_filterMap hh fun d m => h d (List.mem_cons_of_mem _ m), List.filterMap_cons]
    cases f d <;> rfl
@[simp] theorem kLc_eq (cl a c tg r e) : kLc cl a c tg r e = if apart r.2 (slots tg) = true then (lcL (lcT cl a c tg r.2) (heldP r.2 e) r.1 (forget tg e)).bind kLc2 else .err := id rfl
@[simp] theorem kLc2_eq (xs e) : kLc2 xs e = if xs.length ≤ sizeL then .ok (.val (.lst true xs)) e else .err := id rfl
@[simp] theorem apart_nil (l) : apart [] l = true := id rfl
@[simp] theorem apart_val (d ts l) : apart (.val d :: ts) l = apart ts l := by simp [apart]
@[simp] theorem apart_ref (i p ts l) : apart (.ref i p :: ts) l = (!l.contains i && apart ts l) := by simp [apart]
@[simp] theorem slots_v (i) : slots (.v i) = [i] := id rfl
@[simp] theorem slots_nil : slots .nil = [] := id rfl
@[simp] theorem slots_cons (t ts) : slots (.cons t ts) = slots t ++ slots ts := id rfl
@[simp] theorem forget_v (i) (e : Env) : forget (.v i) e = e.set i none := id rfl
@[simp] theorem forget_nil (e : Env) : forget .nil e = e := id rfl
@[simp] theorem forget_cons (t ts) (e : Env) : forget (.cons t ts) e = forget t (forget ts e) := id rfl
@[simp] theorem lcT1_bl (cl a tg x e) : lcT1 cl a tg (.val (.bl x)) e = if x = true then (evE cl a e).bind (lcT2 tg) else .ok none (forget tg e) := id rfl
@[simp] theorem lcT0_eq (cl a c tg u e) : lcT0 cl a c tg u e = (evE cl c e).bind (lcT1 cl a tg) := id rfl
@[simp] theorem lcT2_eq (tg t e) : lcT2 tg t e = (esc t e).bind fun d e => .ok (some d) (forget tg e) := id rfl
@[simp] theorem nxR_ite (c : Prop) [Decidable c] (a b : F) : (if c then a else b).nxR = if c then a.nxR else b.nxR := by split <;> rfl
@[simp] theorem bi_tup_lst (o xs) : bi .tuple [.lst o xs] = some (.tup xs) := id rfl
@[simp] theorem bi_tup_tup (xs) : bi .tuple [.tup xs] = some (.tup xs) := id rfl
@[simp] theorem bi_list_lst (o xs) : bi .list [.lst o xs] = some (.lst true xs) := id rfl
@[simp] theorem bi_list_tup (xs) : bi .list [.tup xs] = some (.lst true xs) := id rfl
@[simp] theorem bi_int_int (i) : bi .int [.int i] = some (.int i) := id rfl
@[simp] theorem bi_int_bl (b) : bi .int [.bl b] = some (.int (if b then 1 else 0)) := id rfl
/-! lists written by their methods -/
noncomputable def kMutR (cl : Nat → List D → CR) (m : Mu) (as : Es) (i : Nat) (e : Env) (o : Option D) : R T := if isL o = true then (evEs cl as e).bind (mutT m (.ref i [])) else .err
@[simp] theorem kMut_ref (cl m as i) (e : Env) : kMut cl m as (.ref i []) e = kMutR cl m as i e (e.at i []) := by simp [kMut, kMutR]
@[simp] theorem kMutR_lst (cl m as i e xs) : kMutR cl m as i e (some (.lst true xs)) = (evEs cl as e).bind (mutT m (.ref i [])) := by simp [kMutR, isL]
def kMut3 (i : Nat) (p : List Stp) (e : Env) (o : Option (D × D)) : R T := match o with
  | some r => .ok (.val r.1) (e.put i p r.2)
  | none => .err
def kMut2 (m : Mu) (i : Nat) (p : List Stp) (ds : List D) (e : Env) : R T := kMut3 i p e ((e.at i p).bind fun d => mutop m d ds)
@[simp] theorem mutT_ref (m i p ts) (e : Env) : mutT m (.ref i p) ts e = (escL ts e).bind (kMut2 m i p) := by
  unfold mutT
  dsimp only
  congr 1
  funext ds e
  unfold kMut2 kMut3
  cases e.at i p with
  | none => rfl
  | some d =>
    simp only [Option.bind_some]
    cases mutop m d ds <;> rfl
@[simp] theorem kMut2_eq (m i p ds) (e : Env) : kMut2 m i p ds e = kMut3 i p e ((e.at i p).bind fun d => mutop m d ds) := id rfl
@[simp] theorem kMut3_some (i p r) (e : Env) : kMut3 i p e (some r) = .ok (.val r.1) (e.put i p r.2) := id rfl
@[simp] theorem mutop_l (m xs ds) : mutop m (.lst true xs) ds = (mutL m xs ds).map fun r => (r.1, .lst true r.2) := id rfl
@[simp] theorem mutL_append (xs d) : mutL .append xs [d] = if xs.length < sizeL then some (.non, xs ++ [d]) else none := id rfl
end LT
/-! LuH: a def's body walked in place: what is wanted of its end, loops by what is kept, comprehensions as maps. -/
namespace LT
/-- the def of this number -/
class Has (fns : Nat → Option Fn) (j : Nat) (f : outParam Fn) : Prop where
  h : fns j = some f
/-- what is wanted is held, so that simp leaves it alone -/
class Mk (Q : F → Prop) : Type where
instance instMk (Q : F → Prop) : Mk Q := ⟨⟩
def FW (r : F) (Q : F → Prop) [Mk Q] : Prop := Q r
@[simp] theorem FW_nx (e) (Q : F → Prop) {m : Mk Q} : @FW (.nx e) Q m = Q (.nx e) := id rfl
@[simp] theorem FW_ret (d e) (Q : F → Prop) {m : Mk Q} : @FW (.ret d e) Q m = Q (.ret d e) := id rfl
@[simp] theorem FW_brk (e) (Q : F → Prop) {m : Mk Q} : @FW (.brk e) Q m = Q (.brk e) := id rfl
@[simp] theorem FW_cnt (e) (Q : F → Prop) {m : Mk Q} : @FW (.cnt e) Q m = Q (.cnt e) := id rfl
@[simp] theorem FW_exc (d e) (Q : F → Prop) {m : Mk Q} : @FW (.exc d e) Q m = Q (.exc d e) := id rfl
@[simp] theorem FW_ite (c : Prop) [Decidable c] (a b : F) (Q : F → Prop) {m : Mk Q} : @FW (if c then a else b) Q m = if c then @FW a Q m else @FW b Q m := by split <;> rfl
/-! two ways of a test that both go on are one way -/
@[simp] theorem nx_ite (c : Prop) [Decidable c] (a b : Env) : (if c then F.nx a else F.nx b) = F.nx (if c then a else b) := by split <;> rfl
@[simp] theorem cons_ite {α : Type} (c : Prop) [Decidable c] (a b : α) (l m : List α) : (if c then a :: l else b :: m) = (if c then a else b) :: (if c then l else m) := by split <;> rfl
@[simp] theorem some_iteD (c : Prop) [Decidable c] (a b : D) : (if c then some a else some b) = some (if c then a else b) := by split <;> rfl
@[simp] theorem int_ite (c : Prop) [Decidable c] (a b : Int) : (if c then D.int a else D.int b) = D.int (if c then a else b) := by split <;> rfl
@[simp] theorem bl_ite (c : Prop) [Decidable c] (a b : Bool) : (if c then D.bl a else D.bl b) = D.bl (if c then a else b) := by split <;> rfl
@[simp] theorem str_ite (c : Prop) [Decidable c] (a b : Cs) : (if c then D.str a else D.str b) = D.str (if c then a else b) := by split <;> rfl
@[simp] theorem lst_ite (c : Prop) [Decidable c] (o : Bool) (a b : List D) : (if c then D.lst o a else D.lst o b) = D.lst o (if c then a else b) := by split <;> rfl
@[simp] theorem tup_ite (c : Prop) [Decidable c] (a b : List D) : (if c then D.tup a else D.tup b) = D.tup (if c then a else b) := by split <;> rfl
@[simp] theorem cast_ite (c : Prop) [Decidable c] (a b : Nat) : (if c then (a : Int) else (b : Int)) = ((if c then a else b : Nat) : Int) := by split <;> rfl
@[simp] theorem ok_ite {α : Type} (c : Prop) [Decidable c] (a b : α) (e e' : Env) : (if c then R.ok a e else R.ok b e') = R.ok (if c then a else b) (if c then e else e') := by split <;> rfl
@[simp] theorem val_ite (c : Prop) [Decidable c] (a b : D) : (if c then T.val a else T.val b) = T.val (if c then a else b) := by split <;> rfl
def CW (c : CR) (Q : D → List D → Prop) : Prop := ∃ d o, c = .ret d o ∧ Q d o
@[simp] theorem CW_ret (d o Q) : CW (.ret d o) Q = Q d o := by
  apply propext
  constructor
  · rintro ⟨d', o', h, q⟩; cases h; exact q
  · exact fun h => ⟨d, o, rfl, h⟩
@[simp] theorem CR_of_ite (c : Prop) [Decidable c] (a b : Option (List D)) (f) : CR.of (if c then a else b) f = if c then CR.of a f else CR.of b f := by split <;> rfl
section
variable {N n j : Nat} {fns : Nat → Option Fn} {f : Fn} {ds : List D}
theorem call_eq [h : Has fns j f] {X : CR} (hl : ds.length = f.np) (w : FW (evSs (call N fns n) N f.body (lentIx 0 ds) (ds.map some ++ List.replicate (f.ns - f.np) none)) fun r => F.fin ds r = X) : call N fns (n + 1) j ds = X := by
  rw [call_succ h.h, runF, if_pos hl]
  exact w
theorem call_cw [h : Has fns j f] {Q : D → List D → Prop} (hl : ds.length = f.np) (w : FW (evSs (call N fns n) N f.body (lentIx 0 ds) (ds.map some ++ List.replicate (f.ns - f.np) none)) fun r => CW (F.fin ds r) Q) : CW (call N fns (n + 1) j ds) Q := by
  rw [call_succ h.h, runF, if_pos hl]
  exact w
end
/-- behind a loop's turn -/
def Trn (held I : Env → Prop) (k : Env → F) (Q : F → Prop) : F → Prop
  | .nx e => held e ∧ I e
  | .cnt e => held e ∧ I e
  | .brk e => FW (k e) Q
  | .ret d e => Q (.ret d e)
  | .exc x e => Q (.exc x e)
  | .err => False
section
variable {held I : Env → Prop} {k : Env → F} {Q : F → Prop}
@[simp] theorem Trn_nx (e) : Trn held I k Q (.nx e) = (held e ∧ I e) := id rfl
@[simp] theorem Trn_cnt (e) : Trn held I k Q (.cnt e) = (held e ∧ I e) := id rfl
@[simp] theorem Trn_brk (e) : Trn held I k Q (.brk e) = FW (k e) Q := id rfl
@[simp] theorem Trn_ret (d e) : Trn held I k Q (.ret d e) = Q (.ret d e) := id rfl
@[simp] theorem Trn_exc (d e) : Trn held I k Q (.exc d e) = Q (.exc d e) := id rfl
end
/-- a for loop, by what is kept -/
theorem for_gen {turn : D → Env → F} {held : Env → Prop} {k : Env → F} {Q : F → Prop} (I : Nat → Env → Prop) : ∀ (ds : List D) (n : Nat) (e : Env), I n e →
    (∀ i d e', ds[i]? = some d → I (n + i) e' → FW (turn d e') (Trn held (I (n + i + 1)) k Q)) → (∀ e', I (n + ds.length) e' → FW (k e') Q) → FW ((forL turn held ds e).bind k) Q
  | [], n, e, h, _, hk => hk e h
  | d :: ds, n, e, h, hs, hk => by
    have h1 := hs 0 d e rfl h
    have go : ∀ e1, held e1 ∧ I (n + 0 + 1) e1 → FW ((forL turn held ds e1).bind k) Q := fun e1 z => for_gen I ds (n + 1) e1 z.2 (fun i d' e' q r => by
      have := hs (i + 1) d' e' (by simpa using q) (by rw [show n + (i + 1) = n + 1 + i by omega]; exact r)
      rw [show n + (i + 1) + 1 = n + 1 + i + 1 by omega] at this
      exact this) fun e' r => hk e' (by rw [List.length_cons, show n + (ds.length + 1) = n + 1 + ds.length by omega]; exact r)
    unfold forL
    generalize turn d e = t at h1
    cases t with
    | nx e1 => dsimp only; rw [if_pos h1.1]; exact go e1 h1
    | cnt e1 => dsimp only; rw [if_pos h1.1]; exact go e1 h1
    | brk e1 => exact h1
    | ret d e1 => exact h1
    | exc x e1 => exact h1
    | err => exact h1.elim
section
variable {turn : D → Env → F} {held : Env → Prop} {k : Env → F} {Q : F → Prop} {ds : List D} {e : Env}
theorem for_inv (I : Nat → Env → Prop) (h0 : I 0 e) (hs : ∀ i d e', ds[i]? = some d → I i e' → FW (turn d e') (Trn held (I (i + 1)) k Q)) (hk : ∀ e', I ds.length e' → FW (k e') Q) : FW ((forL turn held ds e).bind k) Q :=
  for_gen I ds 0 e h0 (fun i d e' h r => by
    have := hs i d e' h (by simpa using r)
    have q : 0 + i + 1 = i + 1 := by omega
    rw [q]
    exact this) fun e' r => hk e' (by simpa using r)
theorem for_map {α : Type} (xs : List α) (g : α → D) (I : Nat → Env → Prop) (hds : ds = xs.map g) (h0 : I 0 e) (hs : ∀ i x e', xs[i]? = some x → I i e' → FW (turn (g x) e') (Trn held (I (i + 1)) k Q)) (hk : ∀ e', I xs.length e' → FW (k e') Q) : FW ((forL turn held ds e).bind k) Q := by
  subst hds
  refine for_inv I h0 (fun i d e' h r => ?_) fun e' r => hk e' (by simpa using r)
  rw [List.getElem?_map] at h
  obtain ⟨x, hx, rfl⟩ := Option.map_eq_some_iff.mp h
  exact hs i x e' hx r
theorem for_rng {lo c : Int} {n : Nat} (I : Nat → Env → Prop) (h0 : I 0 e) (hs : ∀ i e', i < n → I i e' → FW (turn (.int (lo + i * c)) e') (Trn held (I (i + 1)) k Q)) (hk : ∀ e', I n e' → FW (k e') Q) : FW ((forL turn held (rngL lo c n) e).bind k) Q := by
  refine for_inv I h0 (fun i d e' h r => ?_) fun e' r => hk e' (by simpa using r)
  obtain ⟨rfl, hi⟩ := rng_get h
  exact hs i e' hi r
/-- .. by a fold -/
theorem for_fold {α σ : Type} (g : α → D) (step : σ → α → σ) (I : σ → Env → Prop) (P : α → Prop) : ∀ (xs : List α) {s : σ} {e : Env}, I s e → (∀ x ∈ xs, P x) → (∀ s x e', P x → I s e' → FW (turn (g x) e') (Trn held (I (step s x)) k Q)) → (∀ e', I (xs.foldl step s) e' → FW (k e') Q) → FW ((forL turn held (xs.map g) e).bind k) Q
  | [], s, e, h, _, _, hk => hk e h
  | x :: xs, s, e, h, hP, hs, hk => by
    have h1 := hs s x e (hP x List.mem_cons_self) h
    have go : ∀ e1, held e1 ∧ I (step s x) e1 → FW ((forL turn held (xs.map g) e1).bind k) Q := fun e1 z => for_fold g step I P xs z.2 (fun x m => hP x (List.mem_cons_of_mem _ m)) hs hk
    rw [List.map_cons]
    unfold forL
    generalize turn (g x) e = t at h1
    cases t with
    | nx e1 => dsimp only; rw [if_pos h1.1]; exact go e1 h1
    | cnt e1 => dsimp only; rw [if_pos h1.1]; exact go e1 h1
    | brk e1 => exact h1
    | ret d e1 => exact h1
    | exc x e1 => exact h1
    | err => exact h1.elim
end
/-- a test's answer -/
def TB (r : R Bool) (P : Bool → Env → Prop) (X : D → Env → Prop) : Prop := match r with
  | .ok b e => P b e
  | .exc x e => X x e
  | .err => False
@[simp] theorem TB_ok (b e P X) : TB (.ok b e) P X = P b e := id rfl
@[simp] theorem TB_ite (c : Prop) [Decidable c] (a b : R Bool) (P X) : TB (if c then a else b) P X = if c then TB a P X else TB b P X := by split <;> rfl
/-- a while loop, by what is kept and a number that falls -/
theorem wh_inv {test : Env → R Bool} {turn : Env → F} {k : Env → F} {Q : F → Prop} (I : Nat → Env → Prop) : ∀ (N m : Nat) (e : Env), m < N → I m e →
    (∀ m e', I m e' → TB (test e') (fun b e1 => if b = true then FW (turn e1) (Trn (fun _ => True) (fun e2 => ∃ m', m' < m ∧ I m' e2) k Q) else FW (k e1) Q) fun x e1 => Q (.exc x e1)) → FW ((whL test turn N e).bind k) Q
  | 0, m, e, h, _, _ => by omega
  | N + 1, m, e, h, h0, hs => by
    have h1 := hs m e h0
    unfold whL
    generalize test e = t at h1
    cases t with
    | err => exact h1.elim
    | exc x e1 => exact h1
    | ok b e1 =>
      simp only [R.got_ok]
      rw [TB_ok] at h1
      cases b with
      | false =>
        rw [if_neg (by decide)] at h1 ⊢
        exact h1
      | true =>
        rw [if_pos rfl] at h1 ⊢
        generalize turn e1 = r at h1
        cases r with
        | nx e2 => obtain ⟨_, m', h2, h3⟩ := h1; exact wh_inv I N m' e2 (by omega) h3 hs
        | cnt e2 => obtain ⟨_, m', h2, h3⟩ := h1; exact wh_inv I N m' e2 (by omega) h3 hs
        | brk e2 => exact h1
        | ret d e2 => exact h1
        | exc x e2 => exact h1
        | err => exact h1.elim
/-- comprehensions that leave all as it is -/
theorem lc_map {turn : D → Env → R (Option D)} {held : Env → Prop} {ds : List D} {e : Env} {α : Type} (xs : List α) (g f : α → D) (hds : ds = xs.map g) (hh : held e) (h : ∀ x, x ∈ xs → turn (g x) e = .ok (some (f x)) e) : lcL turn held ds e = .ok (xs.map f) e := by
  subst hds
  induction xs with
  | nil => rfl
  | cons x xs ih => simp only [lcL, List.map_cons, h x List.mem_cons_self, R.noX_ok, R.bind_ok, if_pos hh, ih fun x m => h x (List.mem_cons_of_mem _ m), optL]
theorem lc_fmap {turn : D → Env → R (Option D)} {held : Env → Prop} {ds : List D} {e : Env} {α : Type} (xs : List α) (g : α → D) (f : α → Option D) (hds : ds = xs.map g) (hh : held e) (h : ∀ x, x ∈ xs → turn (g x) e = .ok (f x) e) : lcL turn held ds e = .ok (xs.filterMap f) e := by
  subst hds
  induction xs with
  | nil => rfl
  | cons x xs ih =>
    simp only [lcL, List.map_cons, h x List.mem_cons_self, R.noX_ok, R.bind_ok, if_pos hh, ih fun x m => h x (List.mem_cons_of_mem _ m), List.filterMap_cons]
    cases f x <;> rfl
theorem lc_rng {turn : D → Env → R (Option D)} {held : Env → Prop} {lo c : Int} {n : Nat} {e : Env} (f : Nat → D) (hh : held e) (h : ∀ i, i < n → turn (.int (lo + i * c)) e = .ok (some (f i)) e) : lcL turn held (rngL lo c n) e = .ok ((List.range n).map f) e :=
  lc_map (List.range n) (fun i => .int (lo + i * c)) f rfl hh fun i m => h i (by simpa using m)
theorem lc_filt {turn : D → Env → R (Option D)} {held : Env → Prop} {ds : List D} {e : Env} {α : Type} (xs : List α) (g : α → D) (p : α → Bool) (hds : ds = xs.map g) (hh : held e) (h : ∀ x, x ∈ xs → turn (g x) e = .ok (if p x = true then some (g x) else none) e) : lcL turn held ds e = .ok ((xs.filter p).map g) e := by
  rw [lc_fmap xs g (fun x => if p x = true then some (g x) else none) hds hh h]
  congr 1
  induction xs generalizing ds with
  | nil => rfl
  | cons x xs ih =>
    rw [List.filterMap_cons, List.filter_cons]
    cases p x <;> simp [ih rfl fun x m => h x (List.mem_cons_of_mem _ m)]
theorem rng_map (n : Nat) : rngL 0 1 n = (List.range n).map fun (k : Nat) => D.int (k : Int) := by
  unfold rngL
  apply List.map_congr_left
  intro k _
  simp
/-- .. by what is kept -/
theorem lc_inv {turn : D → Env → R (Option D)} {held : Env → Prop} (I : Nat → List D → Env → Prop) : ∀ (ds : List D) (n : Nat) (acc : List D) (e : Env), I n acc e → (∀ i d acc e', ds[i]? = some d → I (n + i) acc e' → ∃ o e2, turn d e' = .ok o e2 ∧ held e2 ∧ I (n + i + 1) (acc ++ optL o []) e2) → ∃ ys e', lcL turn held ds e = .ok ys e' ∧ I (n + ds.length) (acc ++ ys) e'
  | [], n, acc, e, h, _ => ⟨[], e, rfl, by simpa using h⟩
  | d :: ds, n, acc, e, h, hs => by
    obtain ⟨o, e2, h1, h2, h3⟩ := hs 0 d acc e rfl h
    obtain ⟨ys, e', h4, h5⟩ := lc_inv I ds (n + 1) (acc ++ optL o []) e2 h3 fun i d' acc' e' q r => by
      have := hs (i + 1) d' acc' e' (by simpa using q) (by rw [show n + (i + 1) = n + 1 + i by omega]; exact r)
      rw [show n + (i + 1) + 1 = n + 1 + i + 1 by omega] at this
      exact this
    refine ⟨optL o ys, e', by simp only [lcL, h1, R.noX_ok, R.bind_ok, if_pos h2, h4], ?_⟩
    rw [List.length_cons, show n + (ds.length + 1) = n + 1 + ds.length by omega]
    have : acc ++ optL o ys = acc ++ optL o [] ++ ys := by cases o <;> simp [optL]
    rw [this]
    exact h5
theorem frzs_noown : ∀ {xs : List D}, (∀ d ∈ xs, d.own = false) → frzs xs = xs
  | [], _ => rfl
  | d :: xs, h => by rw [frzs_cons, frz_id (h d List.mem_cons_self), frzs_noown fun d m => h d (List.mem_cons_of_mem _ m)]
theorem frzs_map {α : Type} {xs : List α} {f : α → D} (h : ∀ x ∈ xs, (f x).own = false) : frzs (xs.map f) = xs.map f := frzs_noown fun d m => by
  obtain ⟨x, hx, rfl⟩ := List.mem_map.mp m
  exact h x hx
theorem all_map {α : Type} {xs : List α} {f : α → D} (h : ∀ x ∈ xs, (f x).own = false) : ((xs.map f).all fun x => !x.own) = true := by
  rw [List.all_map, List.all_eq_true]
  intro x hx
  simp [h x hx]
@[simp] theorem frzs_map' {α : Type} (xs : List α) (f : α → D) (h : ∀ x, (f x).own = false) : frzs (xs.map f) = xs.map f := frzs_map fun x _ => h x
@[simp] theorem frzs_rep (n : Nat) (d : D) (h : d.own = false) : frzs (List.replicate n d) = List.replicate n d := frzs_noown fun x m => by rw [List.eq_of_mem_replicate m]; exact h
/-- slots that are forgotten on the way -/
def clr : List Nat → Env → Env
  | [], e => e
  | i :: is, e => clr is (e.set i none)
@[simp] theorem clr_nil (e) : clr [] e = e := id rfl
@[simp] theorem clr_cons (i is) (e : Env) : clr (i :: is) e = clr is (e.set i none) := id rfl
/-- a comprehension as a map, some slots forgotten by its turns -/
theorem lc_mapC {turn : D → Env → R (Option D)} {held : Env → Prop} {ds : List D} {e : Env} {α : Type} (cs : List Nat) (xs : List α) (g f : α → D) (hds : ds = xs.map g) (hh : held (clr cs e)) (h : ∀ x, x ∈ xs → ∀ e1, e1 = e ∨ e1 = clr cs e → turn (g x) e1 = .ok (some (f x)) (clr cs e)) : lcL turn held ds e = .ok (xs.map f) (if xs.isEmpty = true then e else clr cs e) := by
  subst hds
  cases xs with
  | nil => rfl
  | cons x xs =>
    rw [lc_mapC1 hh h]
    rfl
where
  lc_mapC1 {turn : D → Env → R (Option D)} {held : Env → Prop} {e : Env} {α : Type} {cs : List Nat} {x : α} {xs : List α} {g f : α → D} (hh : held (clr cs e)) (h : ∀ y, y ∈ x :: xs → ∀ e1, e1 = e ∨ e1 = clr cs e → turn (g y) e1 = .ok (some (f y)) (clr cs e)) : lcL turn held ((x :: xs).map g) e = .ok ((x :: xs).map f) (clr cs e) := by
    have go : ∀ (ys : List α), (∀ y ∈ ys, y ∈ x :: xs) → lcL turn held (ys.map g) (clr cs e) = .ok (ys.map f) (clr cs e) := fun ys => by
      induction ys with
      | nil => intro _; rfl
      | cons y ys ih =>
        intro hy
        simp only [lcL, List.map_cons, h y (hy y List.mem_cons_self) _ (.inr rfl), R.noX_ok, R.bind_ok, if_pos hh, ih fun z m => hy z (List.mem_cons_of_mem _ m), optL]
    simp only [lcL, List.map_cons, h x List.mem_cons_self _ (.inl rfl), R.noX_ok, R.bind_ok, if_pos hh, go xs fun y m => List.mem_cons_of_mem _ m, optL]
end LT
/-! LuI: what the head tells of the classes of exceptions. -/
namespace LT
open PySem L2
open PyProof.Rows
/-- what is asked of a class -/
def exOne (K : PySem.W.Frag) (p : Str × Nat) : Bool :=
  (p.2 == 4 || p.2 == 5 || (PySem.W.excIn K (He.ga K p.1) He.veBase "ValueError.__new__" && (PySem.W.keepIn K (.ref (He.ga K p.1)) && (decide (PySem.W.subIn K (.ref (He.ga K p.1)) (.type "BaseException") = some true) && decide (PySem.W.typeIn K (.ref (He.ga K p.1)) = some (.type "type")))))) &&
  (decide (PySem.W.kitOne K (.ref (He.ga K p.1)) (.type "ValueError") = some true) &&
  (He.eqO (PySem.W.findIn K (.ref (He.ga K p.1)) "__getattribute__") (some (some (.builtin "BaseException.__getattribute__"))) &&
  (He.eqO (PySem.W.findIn K (.ref (He.ga K p.1)) "__getattr__") (some none) &&
  (decide (PySem.W.subIn K (.ref (He.ga K p.1)) (.type "BaseException") = some true) &&
  (PySem.W.hasDictIn K (He.ga K p.1) &&
  (He.eqO (PySem.W.findIn K (.ref (He.ga K p.1)) "__class__") (some (some (.builtin "object.__class__"))) &&
  (He.eqO (PySem.W.specialIn K (.builtin "object.__class__") "__get__") (some (some (.builtin "getset_descriptor.__get__"))) &&
  (decide (PySem.W.takesIn K (.builtin "object.__class__") = some true) &&
  decide (PySem.W.mroIn K (He.ga K p.1) (.type "object") = some true)))))))))
def exTwo (K : PySem.W.Frag) (p q : Str × Nat) : Bool :=
  decide (PySem.W.exmOne K (.ref (He.ga K p.1)) (.ref (He.ga K q.1)) = some (catches q.2 p.2)) && decide (PySem.W.kitOne K (.ref (He.ga K p.1)) (.ref (He.ga K q.1)) = some (catches q.2 p.2))
def exB (t : List (Str × Nat)) (K : PySem.W.Frag) : Bool := t.all fun p => exOne K p && t.all fun q => exTwo K p q
def gkX (K : PySem.W.Frag) (t : List (Str × Nat)) (w : World) : GK := ⟨K, fun _ => 0, fun k => match t.find? (fun q => q.2 == k) with
  | some p => He.ga K p.1
  | none => 0, t, w⟩
theorem ExF.nil {K : PySem.W.Frag} {w : World} {mg : Str → Option Value} : ExF (gkX K [] w) mg := by
  have no : ∀ k, ¬ (gkX K [] w).exIn k := fun k ⟨x, e⟩ => by cases e
  exact ⟨fun x k e => (by cases e), fun k h => absurd h (no k), fun k j h => absurd h (no k), fun k j h => absurd h (no k), fun k h => absurd h (no k), fun k h => absurd h (no k)⟩
theorem ExF.of {K : PySem.W.Frag} {w : World} {h : Heap} {mg : Str → Option Value} {t : List (Str × Nat)} (X : K.In h) (Gn : h.Ns mainGlobals mg) (hg : ∀ p ∈ t, He.Fa.ok K (.glo p.1) = true) (hb : exB t K = true)
    (hn : t.all (fun p => t.find? (fun q => q.2 == p.2) == some p && p.2 != 10) = true) : ExF (gkX K t w) mg := by
  rw [List.all_eq_true] at hn
  unfold exB at hb
  rw [List.all_eq_true] at hb
  have in_ : ∀ x k, t.lookup x = some k → (x, k) ∈ t ∧ (gkX K t w).ex k = He.ga K x ∧ k ≠ 10 := fun x k e => by
    have m := lookup_mem e
    have := hn _ m
    rw [Bool.and_eq_true] at this
    obtain ⟨h1, h2⟩ := this
    have h1 : t.find? (fun q => q.2 == k) = some (x, k) := eq_of_beq h1
    refine ⟨m, ?_, by simpa using h2⟩
    unfold gkX
    dsimp only
    rw [h1]
  have one : ∀ x k, t.lookup x = some k → exOne K (x, k) = true := fun x k e => by
    have := hb _ (in_ x k e).1
    rw [Bool.and_eq_true] at this
    exact this.1
  have two : ∀ x k y j, t.lookup x = some k → t.lookup y = some j → exTwo K (x, k) (y, j) = true := fun x k y j e e2 => by
    have := hb _ (in_ x k e).1
    rw [Bool.and_eq_true, List.all_eq_true] at this
    exact this.2 _ (in_ y j e2).1
  refine ⟨fun x k e => ?_, fun k ⟨x, e⟩ n4 n5 => ?_, fun k j ⟨x, e⟩ ⟨y, e2⟩ => ?_, fun k j ⟨x, e⟩ ⟨y, e2⟩ => ?_, fun k ⟨x, e⟩ => ?_, fun k ⟨x, e⟩ => ?_⟩
  · obtain ⟨m, h1, h2⟩ := in_ x k e
    rw [h1]
    exact ⟨He.glo_ok X Gn (hg _ m), h2⟩
  · obtain ⟨m, h1, h2⟩ := in_ x k e
    have := one x k e
    unfold exOne at this
    simp only [Bool.and_eq_true, Bool.or_eq_true, beq_iff_eq, decide_eq_true_eq] at this
    obtain ⟨h3, _⟩ := this
    rcases h3 with (h3 | h3) | h3
    · exact absurd h3 n4
    · exact absurd h3 n5
    · rw [h1]
      exact h3
  · have := two x k y j e e2
    unfold exTwo at this
    simp only [Bool.and_eq_true, decide_eq_true_eq] at this
    rw [(in_ x k e).2.1, (in_ y j e2).2.1]
    exact this.1
  · have := two x k y j e e2
    unfold exTwo at this
    simp only [Bool.and_eq_true, decide_eq_true_eq] at this
    rw [(in_ x k e).2.1, (in_ y j e2).2.1]
    exact this.2
  · have := one x k e
    unfold exOne at this
    simp only [Bool.and_eq_true, decide_eq_true_eq] at this
    rw [(in_ x k e).2.1]
    exact this.2.1
  · have := one x k e
    unfold exOne at this
    simp only [Bool.and_eq_true, decide_eq_true_eq] at this
    rw [(in_ x k e).2.1]
    obtain ⟨_, _, g1, g2, g3, g4, g5, g6, g7, g8⟩ := this
    exact ⟨He.eqO_ok g1, He.eqO_ok g2, g3, g4, He.eqO_ok g5, He.eqO_ok g6, g7, g8⟩
end LT
/-! LuJ: raise, try, isinstance of an exception: step by step. -/
namespace LT
section
variable (cl : Nat → List D → CR) (N : Nat) (ln : List Nat)
@[simp] theorem x_rais (c e) : evS cl N (.rais c .nil) ln e = .exc (.exn c []) e := by rw [evS]
noncomputable def kTry (c : Nat) (x : Option Nat) (h : Ss) (r : F) : F := tryK c x ln (evSs cl N h ln) r
@[simp] theorem x_try (b c x h e) : evS cl N (.tryS b c x h) ln e = kTry cl N ln c x h (evSs cl N b ln e) := by rw [evS]; rfl
@[simp] theorem kTry_nx (c x h e) : kTry cl N ln c x h (.nx e) = .nx e := id rfl
@[simp] theorem kTry_ret (c x h d e) : kTry cl N ln c x h (.ret d e) = .ret d e := id rfl
@[simp] theorem kTry_brk (c x h e) : kTry cl N ln c x h (.brk e) = .brk e := id rfl
@[simp] theorem kTry_cnt (c x h e) : kTry cl N ln c x h (.cnt e) = .cnt e := id rfl
@[simp] theorem kTry_ite (p : Prop) [Decidable p] (c x h a b) : kTry cl N ln c x h (if p then a else b) = if p then kTry cl N ln c x h a else kTry cl N ln c x h b := by split <;> rfl
@[simp] theorem kTry_n (c h k fs e) : kTry cl N ln c none h (.exc (.exn k fs) e) = if catches c k = true then noXF (evSs cl N h ln e) else .exc (.exn k fs) e := id rfl
@[simp] theorem kTry_s (c i h k fs e) : kTry cl N ln c (some i) h (.exc (.exn k fs) e) = if catches c k = true then (if ln.contains i then .err else clrF i (evSs cl N h ln (e.set i (some (.exn k fs))))) else .exc (.exn k fs) e := id rfl
@[simp] theorem x_isE (a cs e) : evE cl (.isE a cs) e = (evE cl a e).bind (isEK cs) := by rw [evE]; rfl
end
@[simp] theorem isEK_exn (ks k fs e) : isEK ks (.val (.exn k fs)) e = .ok (.val (.bl (ks.any fun c => catches c k))) e := id rfl
@[simp] theorem own_exn (k fs) : (D.exn k fs).own = false := id rfl
@[simp] theorem noXF_nx (e) : noXF (.nx e) = .nx e := id rfl
@[simp] theorem noXF_ret (d e) : noXF (.ret d e) = .ret d e := id rfl
@[simp] theorem noXF_brk (e) : noXF (.brk e) = .brk e := id rfl
@[simp] theorem noXF_cnt (e) : noXF (.cnt e) = .cnt e := id rfl
@[simp] theorem noXF_ite (p : Prop) [Decidable p] (a b) : noXF (if p then a else b) = if p then noXF a else noXF b := by split <;> rfl
@[simp] theorem clrF_nx (i e) : clrF i (.nx e) = .nx (e.set i none) := id rfl
@[simp] theorem clrF_ret (i d e) : clrF i (.ret d e) = .ret d e := id rfl
@[simp] theorem clrF_brk (i e) : clrF i (.brk e) = .brk (e.set i none) := id rfl
@[simp] theorem clrF_cnt (i e) : clrF i (.cnt e) = .cnt (e.set i none) := id rfl
@[simp] theorem clrF_ite (i) (p : Prop) [Decidable p] (a b) : clrF i (if p then a else b) = if p then clrF i a else clrF i b := by split <;> rfl
@[simp] theorem catches_def (c k) : catches c k = (c == 0 || c == 10 || c == k) := id rfl
end LT
/-! LuK: rules of evaluation: places within places. -/
namespace LT
section
variable (cl : Nat → List D → CR) (N : Nat) (ln : List Nat)
@[simp] theorem simpleEs_nil : Es.simple .nil = true := by rw [Es.simple]
@[simp] theorem simpleEs_cons (e es) : Es.simple (.cons e es) = (e.simple && es.simple) := by rw [Es.simple]
@[simp] theorem simple_tup (as) : (E.tupE as).simple = as.simple := by rw [E.simple]
@[simp] theorem simple_fld (a f) : (E.fld a f).simple = a.simple := by rw [E.simple]
@[simp] theorem simple_len (a) : (E.len a).simple = a.simple := by rw [E.simple]
@[simp] theorem simple_neg (a) : (E.neg a).simple = a.simple := by rw [E.simple]
@[simp] theorem isL_lst (xs) : isL (some (.lst true xs)) = true := id rfl
@[simp] theorem root_path (i s p) : (T.ref i (s :: p)).root = false := id rfl
@[simp] theorem kEs_path (as i s p) (e : Env) : kEs cl as (.ref i (s :: p)) e = if as.simple = true then (evEs cl as e).bind (kEs2 (.ref i (s :: p))) else .err := by simp [kEs]
@[simp] theorem kMut_path (m as i s p) (e : Env) : kMut cl m as (.ref i (s :: p)) e = if (as.simple && isL (e.at i (s :: p))) = true then (evEs cl as e).bind (mutT m (.ref i (s :: p))) else .err := by simp [kMut]
@[simp] theorem kIdx1_path (b i s p) (e : Env) : kIdx1 cl b (.ref i (s :: p)) e = if b.simple = true then (evE cl b e).bind (kIdx2 (.ref i (s :: p))) else .err := by simp [kIdx1]
@[simp] theorem kMth_path (m as i s p) (e : Env) : kMth cl m as (.ref i (s :: p)) e = if (as.simple && meOk m (e.at i (s :: p))) = true then (evEs cl as e).bind (kMth2 m (.ref i (s :: p))) else .err := by simp [kMth]
end
end LT
namespace LT.K
open LT
def ir0 : Ss := Ss.cons (S.ret (E.and (E.bi (Bi.isT 2) (Es.cons (E.var 0) Es.nil)) (E.not (E.bi (Bi.isT 1) (Es.cons (E.var 0) Es.nil))))) Ss.nil
def fn0 : Fn := ⟨1, 1, ir0⟩
def ir1 : Ss := Ss.cons (S.ret (E.and (E.call 0 (Es.cons (E.var 0) Es.nil)) (E.cmp2 Cm.le Cm.le (E.var 1) (E.var 0) (E.var 2)))) Ss.nil
def fn1 : Fn := ⟨3, 3, ir1⟩
def ir2 : Ss := Ss.cons (S.ret (E.and (E.bi (Bi.isT 3) (Es.cons (E.var 0) Es.nil)) (E.and (E.cmp Cm.eq (E.len (E.var 0)) (E.con (D.int 1))) (E.cmp Cm.inn (E.var 0) (E.bi Bi.cutU (Es.cons (E.con (D.str [97, 98, 99])) (Es.cons (E.var 1) Es.nil))))))) Ss.nil
def fn2 : Fn := ⟨2, 2, ir2⟩
def b3_1 : Ss := Ss.cons (S.ifS (E.not (E.call 1 (Es.cons (E.var 3) (Es.cons (E.bin Op.add (E.var 2) (E.con (D.int 1))) (Es.cons (E.bin Op.sub (E.var 1) (E.con (D.int 1))) Es.nil))))) (Ss.cons (S.ret (E.con (D.bl false))) Ss.nil) Ss.nil) (Ss.cons (S.asg 2 (E.var 3)) Ss.nil)
def ir3 : Ss := Ss.cons (S.ifS (E.not (E.bi (Bi.isT 4) (Es.cons (E.var 0) Es.nil))) (Ss.cons (S.ret (E.con (D.bl false))) Ss.nil) Ss.nil) (Ss.cons (S.asg 2 (E.neg (E.con (D.int 1)))) (Ss.cons (S.forS (Tg.v 3) (It.seq (E.var 0)) b3_1) (Ss.cons (S.ret (E.con (D.bl true))) Ss.nil)))
def fn3 : Fn := ⟨2, 4, ir3⟩
def ir4 : Ss := Ss.cons (S.ifS (E.or (E.not (E.bi (Bi.isT 4) (Es.cons (E.var 0) Es.nil))) (E.cmp Cm.ne (E.len (E.var 0)) (E.con (D.int 4)))) (Ss.cons (S.ret (E.con (D.bl false))) Ss.nil) Ss.nil) (Ss.cons (S.asgT (Tg.cons (Tg.v 3) (Tg.cons (Tg.v 4) (Tg.cons (Tg.v 5) (Tg.cons (Tg.v 6) Tg.nil)))) (E.var 0)) (Ss.cons (S.ifS (E.or (E.not (E.call 1 (Es.cons (E.var 3) (Es.cons (E.con (D.int 0)) (Es.cons (E.bin Op.sub (E.var 2) (E.con (D.int 1))) Es.nil))))) (E.not (E.call 1 (Es.cons (E.var 5) (Es.cons (E.con (D.int 0)) (Es.cons (E.bin Op.sub (E.var 2) (E.con (D.int 1))) Es.nil)))))) (Ss.cons (S.ret (E.con (D.bl false))) Ss.nil) Ss.nil) (Ss.cons (S.ret (E.and (E.call 2 (Es.cons (E.var 4) (Es.cons (E.var 1) Es.nil))) (E.call 1 (Es.cons (E.var 6) (Es.cons (E.con (D.int 0)) (Es.cons (E.con (D.int 3)) Es.nil)))))) Ss.nil)))
def fn4 : Fn := ⟨3, 7, ir4⟩
def c5_1 : E := E.call 4 (Es.cons (E.var 6) (Es.cons (E.var 1) (Es.cons (E.var 2) Es.nil)))
def ir5 : Ss := Ss.cons (S.ifS (E.or (E.not (E.bi (Bi.isT 4) (Es.cons (E.var 0) Es.nil))) (E.cmp Cm.ne (E.len (E.var 0)) (E.con (D.int 5)))) (Ss.cons (S.ret (E.con (D.bl false))) Ss.nil) Ss.nil) (Ss.cons (S.asgT (Tg.cons (Tg.v 1) (Tg.cons (Tg.v 2) (Tg.cons (Tg.v 3) (Tg.cons (Tg.v 4) (Tg.cons (Tg.v 5) Tg.nil))))) (E.var 0)) (Ss.cons (S.ifS (E.or (E.not (E.call 1 (Es.cons (E.var 1) (Es.cons (E.con (D.int 1)) (Es.cons (E.len (E.con (D.str [97, 98, 99]))) Es.nil))))) (E.not (E.call 1 (Es.cons (E.var 2) (Es.cons (E.con (D.int 1)) (Es.cons (E.con (D.int 5)) Es.nil)))))) (Ss.cons (S.ret (E.con (D.bl false))) Ss.nil) Ss.nil) (Ss.cons (S.ifS (E.or (E.not (E.call 3 (Es.cons (E.var 3) (Es.cons (E.var 2) Es.nil)))) (E.not (E.call 3 (Es.cons (E.var 4) (Es.cons (E.var 2) Es.nil))))) (Ss.cons (S.ret (E.con (D.bl false))) Ss.nil) Ss.nil) (Ss.cons (S.ifS (E.or (E.not (E.bi (Bi.isT 4) (Es.cons (E.var 5) Es.nil))) (E.cmp Cm.gt (E.len (E.var 5)) (E.con (D.int 75)))) (Ss.cons (S.ret (E.con (D.bl false))) Ss.nil) Ss.nil) (Ss.cons (S.ret (E.bi Bi.all (Es.cons (E.lc c5_1 (Tg.v 6) (It.seq (E.var 5)) (E.con (D.bl true))) Es.nil))) Ss.nil)))))
def fn5 : Fn := ⟨1, 7, ir5⟩
def b6_1 : Ss := Ss.cons (S.asg 3 (E.bin Op.mod (E.bin Op.add (E.bin Op.add (E.bin Op.mul (E.var 3) (E.con (D.int 48271))) (E.bin Op.mod (E.idx (E.var 0) (E.var 4)) (E.con (D.int 2147483647)))) (E.var 4)) (E.con (D.int 2147483629)))) Ss.nil
def ir6 : Ss := Ss.cons (S.asg 2 (E.con (D.int 0))) (Ss.cons (S.ifS (E.cmp Cm.lt (E.var 1) (E.len (E.var 0))) (Ss.cons (S.asg 2 (E.bi Bi.abs (Es.cons (E.idx (E.var 0) (E.var 1)) Es.nil))) Ss.nil) Ss.nil) (Ss.cons (S.asg 3 (E.bin Op.add (E.bin Op.mul (E.con (D.int 7919)) (E.var 1)) (E.con (D.int 17)))) (Ss.cons (S.forS (Tg.v 4) (It.rng 1 (Es.cons (E.bi Bi.min2 (Es.cons (E.len (E.var 0)) (Es.cons (E.con (D.int 60)) Es.nil))) Es.nil)) b6_1) (Ss.cons (S.ifS (E.cmp Cm.lt (E.var 2) (E.bin Op.pow (E.con (D.int 10)) (E.con (D.int 18)))) (Ss.cons (S.asg 2 (E.con (D.int 0))) Ss.nil) Ss.nil) (Ss.cons (S.ret (E.lstE (Es.cons (E.var 2) (Es.cons (E.var 3) Es.nil)))) Ss.nil)))))
def fn6 : Fn := ⟨2, 5, ir6⟩
def t7_1 : E := E.cmp Cm.lt (E.var 4) (E.var 1)
def b7_2 : Ss := Ss.cons (S.seti (E.var 0) (E.con (D.int 1)) (E.bin Op.mod (E.bin Op.add (E.bin Op.mul (E.idx (E.var 0) (E.con (D.int 1))) (E.con (D.int 48271))) (E.con (D.int 7919))) (E.con (D.int 2147483647)))) (Ss.cons (S.asg 3 (E.bin Op.add (E.bin Op.mul (E.var 3) (E.con (D.int 1073741789))) (E.bin Op.mod (E.bin Op.mul (E.bin Op.fdiv (E.idx (E.var 0) (E.con (D.int 1))) (E.con (D.int 8))) (E.con (D.int 69621))) (E.con (D.int 1073741789))))) (Ss.cons (S.asg 4 (E.bin Op.mul (E.var 4) (E.con (D.int 1073741789)))) Ss.nil))
def ir7 : Ss := Ss.cons (S.ifS (E.cmp Cm.gt (E.idx (E.var 0) (E.con (D.int 0))) (E.con (D.int 0))) (Ss.cons (S.asg 2 (E.bin Op.mod (E.idx (E.var 0) (E.con (D.int 0))) (E.var 1))) (Ss.cons (S.seti (E.var 0) (E.con (D.int 0)) (E.bin Op.fdiv (E.idx (E.var 0) (E.con (D.int 0))) (E.var 1))) (Ss.cons (S.ret (E.var 2)) Ss.nil))) Ss.nil) (Ss.cons (S.asg 3 (E.con (D.int 0))) (Ss.cons (S.asg 4 (E.con (D.int 1))) (Ss.cons (S.whl t7_1 b7_2) (Ss.cons (S.ret (E.bin Op.mod (E.var 3) (E.var 1))) Ss.nil))))
def fn7 : Fn := ⟨2, 5, ir7⟩
def c8_1 : E := E.var 3
def t8_2 : E := E.cmp Cm.eq (E.bin Op.mod (E.bin Op.fdiv (E.var 2) (E.bin Op.shl (E.con (D.int 1)) (E.var 3))) (E.con (D.int 2))) (E.con (D.int 1))
def ir8 : Ss := Ss.cons (S.asg 2 (E.call 7 (Es.cons (E.var 0) (Es.cons (E.bin Op.shl (E.con (D.int 1)) (E.var 1)) Es.nil)))) (Ss.cons (S.ret (E.bi Bi.tuple (Es.cons (E.lc c8_1 (Tg.v 3) (It.rng 1 (Es.cons (E.var 1) Es.nil)) t8_2) Es.nil))) Ss.nil)
def fn8 : Fn := ⟨2, 4, ir8⟩
def b9_1 : Ss := Ss.cons (S.ex (E.mut Mu.append (E.var 4) (Es.cons (E.tupE (Es.cons (E.call 7 (Es.cons (E.var 0) (Es.cons (E.var 2) Es.nil))) (Es.cons (E.idx (E.con (D.str [97, 98, 99])) (E.call 7 (Es.cons (E.var 0) (Es.cons (E.var 1) Es.nil)))) (Es.cons (E.call 7 (Es.cons (E.var 0) (Es.cons (E.var 2) Es.nil))) (Es.cons (E.call 7 (Es.cons (E.var 0) (Es.cons (E.con (D.int 4)) Es.nil))) Es.nil))))) Es.nil))) Ss.nil
def ir9 : Ss := Ss.cons (S.asg 1 (E.bin Op.add (E.con (D.int 1)) (E.call 7 (Es.cons (E.var 0) (Es.cons (E.con (D.int 3)) Es.nil))))) (Ss.cons (S.asg 2 (E.bin Op.add (E.con (D.int 1)) (E.call 7 (Es.cons (E.var 0) (Es.cons (E.con (D.int 5)) Es.nil))))) (Ss.cons (S.asg 3 (E.call 7 (Es.cons (E.var 0) (Es.cons (E.con (D.int 13)) Es.nil)))) (Ss.cons (S.ifS (E.cmp Cm.eq (E.call 7 (Es.cons (E.var 0) (Es.cons (E.con (D.int 8)) Es.nil))) (E.con (D.int 7))) (Ss.cons (S.asg 3 (E.call 7 (Es.cons (E.var 0) (Es.cons (E.con (D.int 76)) Es.nil)))) Ss.nil) Ss.nil) (Ss.cons (S.asg 4 (E.lstE Es.nil)) (Ss.cons (S.forS (Tg.v 5) (It.rng 1 (Es.cons (E.var 3) Es.nil)) b9_1) (Ss.cons (S.ret (E.tupE (Es.cons (E.var 1) (Es.cons (E.var 2) (Es.cons (E.call 8 (Es.cons (E.var 0) (Es.cons (E.var 2) Es.nil))) (Es.cons (E.call 8 (Es.cons (E.var 0) (Es.cons (E.var 2) Es.nil))) (Es.cons (E.bi Bi.tuple (Es.cons (E.var 4) Es.nil)) Es.nil))))))) Ss.nil))))))
def fn9 : Fn := ⟨1, 6, ir9⟩
def ir12 : Ss := Ss.cons (S.ret (E.and (E.bi (Bi.isT 2) (Es.cons (E.var 0) Es.nil)) (E.and (E.not (E.bi (Bi.isT 1) (Es.cons (E.var 0) Es.nil))) (E.cmp2 Cm.le Cm.le (E.var 1) (E.var 0) (E.var 2))))) Ss.nil
def fn12 : Fn := ⟨3, 3, ir12⟩
def ir42 : Ss := Ss.cons (S.ifS (E.cmp Cm.isN (E.var 0) (E.con D.non)) (Ss.cons (S.ret (E.var 1)) Ss.nil) Ss.nil) (Ss.cons (S.ifS (E.or (E.cmp Cm.isN (E.var 1) (E.con D.non)) (E.cmp Cm.le (E.var 0) (E.var 1))) (Ss.cons (S.ret (E.var 0)) Ss.nil) Ss.nil) (Ss.cons (S.ret (E.var 1)) Ss.nil))
def fn42 : Fn := ⟨2, 2, ir42⟩
def ir43 : Ss := Ss.cons (S.ifS (E.or (E.cmp Cm.isN (E.var 0) (E.con D.non)) (E.cmp Cm.isN (E.var 1) (E.con D.non))) (Ss.cons (S.ret (E.con D.non)) Ss.nil) Ss.nil) (Ss.cons (S.ret (E.bin Op.add (E.var 0) (E.var 1))) Ss.nil)
def fn43 : Fn := ⟨2, 2, ir43⟩
def b59_1 : Ss := Ss.cons (S.asg 2 (E.call 42 (Es.cons (E.var 2) (Es.cons (E.idx (E.var 0) (E.var 3)) Es.nil)))) Ss.nil
def ir59 : Ss := Ss.cons (S.asg 2 (E.con D.non)) (Ss.cons (S.forS (Tg.v 3) (It.seq (E.var 1)) b59_1) (Ss.cons (S.ret (E.var 2)) Ss.nil))
def fn59 : Fn := ⟨2, 4, ir59⟩
def ir64 : Ss := Ss.cons (S.ifS (E.or (E.cmp Cm.isN (E.var 0) (E.con D.non)) (E.cmp Cm.le (E.var 0) (E.var 1))) (Ss.cons (S.ret (E.var 0)) Ss.nil) Ss.nil) (Ss.cons (S.ret (E.bin Op.add (E.var 1) (E.con (D.int 1)))) Ss.nil)
def fn64 : Fn := ⟨2, 2, ir64⟩
def ir65 : Ss := Ss.cons (S.ret (E.idx (E.lstE (Es.cons (E.call 7 (Es.cons (E.var 0) (Es.cons (E.con (D.int 3)) Es.nil))) (Es.cons (E.call 7 (Es.cons (E.var 0) (Es.cons (E.con (D.int 13)) Es.nil))) (Es.cons (E.call 7 (Es.cons (E.var 0) (Es.cons (E.bin Op.pow (E.con (D.int 10)) (E.con (D.int 9))) Es.nil))) (Es.cons (E.call 7 (Es.cons (E.var 0) (Es.cons (E.bin Op.pow (E.con (D.int 10)) (E.con (D.int 30))) Es.nil))) Es.nil))))) (E.call 7 (Es.cons (E.var 0) (Es.cons (E.con (D.int 4)) Es.nil))))) Ss.nil
def fn65 : Fn := ⟨1, 1, ir65⟩
def c67_1 : E := E.ite (E.cmp Cm.inn (E.var 1) (E.idx (E.var 0) (E.con (D.int 2)))) (E.con (D.int 0)) (E.con D.non)
def ir67 : Ss := Ss.cons (S.ret (E.bi Bi.tuple (Es.cons (E.lc c67_1 (Tg.v 1) (It.rng 1 (Es.cons (E.idx (E.var 0) (E.con (D.int 1))) Es.nil)) (E.con (D.bl true))) Es.nil))) Ss.nil
def fn67 : Fn := ⟨1, 2, ir67⟩
def c68_1 : E := E.con D.non
def b68_2 : Ss := Ss.cons (S.ifS (E.and (E.cmp Cm.eq (E.var 7) (E.var 3)) (E.cmp Cm.notN (E.idx (E.var 2) (E.var 6)) (E.con D.non))) (Ss.cons (S.seti (E.var 4) (E.var 8) (E.call 42 (Es.cons (E.idx (E.var 4) (E.var 8)) (Es.cons (E.call 64 (Es.cons (E.bin Op.add (E.idx (E.var 2) (E.var 6)) (E.var 9)) (Es.cons (E.var 1) Es.nil))) Es.nil)))) Ss.nil) Ss.nil) Ss.nil
def ir68 : Ss := Ss.cons (S.asg 4 (E.lc c68_1 (Tg.v 5) (It.seq (E.var 2)) (E.con (D.bl true)))) (Ss.cons (S.forS (Tg.cons (Tg.v 6) (Tg.cons (Tg.v 7) (Tg.cons (Tg.v 8) (Tg.cons (Tg.v 9) Tg.nil)))) (It.seq (E.idx (E.var 0) (E.con (D.int 4)))) b68_2) (Ss.cons (S.ret (E.bi Bi.tuple (Es.cons (E.var 4) Es.nil))) Ss.nil))
def fn68 : Fn := ⟨4, 10, ir68⟩
def ir69 : Ss := Ss.cons (S.ret (E.call 59 (Es.cons (E.var 1) (Es.cons (E.idx (E.var 0) (E.con (D.int 3))) Es.nil)))) Ss.nil
def fn69 : Fn := ⟨2, 2, ir69⟩
def b70_1 : Ss := Ss.cons (S.ex (E.mut Mu.append (E.var 4) (Es.cons (E.tupE (Es.cons (E.call 7 (Es.cons (E.var 0) (Es.cons (E.var 2) Es.nil))) (Es.cons (E.idx (E.con (D.str [97, 98, 99])) (E.call 7 (Es.cons (E.var 0) (Es.cons (E.var 1) Es.nil)))) (Es.cons (E.call 7 (Es.cons (E.var 0) (Es.cons (E.var 2) Es.nil))) (Es.cons (E.call 7 (Es.cons (E.var 0) (Es.cons (E.con (D.int 4)) Es.nil))) Es.nil))))) Es.nil))) Ss.nil
def ir70 : Ss := Ss.cons (S.asg 1 (E.bin Op.add (E.con (D.int 1)) (E.call 7 (Es.cons (E.var 0) (Es.cons (E.con (D.int 3)) Es.nil))))) (Ss.cons (S.asg 2 (E.bin Op.add (E.con (D.int 1)) (E.call 7 (Es.cons (E.var 0) (Es.cons (E.con (D.int 5)) Es.nil))))) (Ss.cons (S.asg 3 (E.call 7 (Es.cons (E.var 0) (Es.cons (E.con (D.int 13)) Es.nil)))) (Ss.cons (S.ifS (E.cmp Cm.eq (E.call 7 (Es.cons (E.var 0) (Es.cons (E.con (D.int 8)) Es.nil))) (E.con (D.int 7))) (Ss.cons (S.asg 3 (E.call 7 (Es.cons (E.var 0) (Es.cons (E.con (D.int 31)) Es.nil)))) Ss.nil) Ss.nil) (Ss.cons (S.asg 4 (E.lstE Es.nil)) (Ss.cons (S.forS (Tg.v 5) (It.rng 1 (Es.cons (E.var 3) Es.nil)) b70_1) (Ss.cons (S.ret (E.tupE (Es.cons (E.var 1) (Es.cons (E.var 2) (Es.cons (E.call 8 (Es.cons (E.var 0) (Es.cons (E.var 2) Es.nil))) (Es.cons (E.call 8 (Es.cons (E.var 0) (Es.cons (E.var 2) Es.nil))) (Es.cons (E.bi Bi.tuple (Es.cons (E.var 4) Es.nil)) Es.nil))))))) Ss.nil))))))
def fn70 : Fn := ⟨1, 6, ir70⟩
def c71_1 : E := E.idx (E.lstE (Es.cons (E.con D.non) (Es.cons (E.con (D.int 0)) Es.nil))) (E.bi Bi.int (Es.cons (E.cmp Cm.inn (E.var 1) (E.idx (E.var 0) (E.con (D.int 2)))) Es.nil))
def ir71 : Ss := Ss.cons (S.ret (E.bi Bi.tuple (Es.cons (E.lc c71_1 (Tg.v 1) (It.rng 1 (Es.cons (E.idx (E.var 0) (E.con (D.int 1))) Es.nil)) (E.con (D.bl true))) Es.nil))) Ss.nil
def fn71 : Fn := ⟨1, 2, ir71⟩
def c72_1 : E := E.con D.non
def b72_2 : Ss := Ss.cons (S.ifS (E.and (E.cmp Cm.eq (E.var 7) (E.var 3)) (E.cmp Cm.notN (E.idx (E.var 2) (E.var 6)) (E.con D.non))) (Ss.cons (S.asg 10 (E.bi Bi.min2 (Es.cons (E.bin Op.add (E.idx (E.var 2) (E.var 6)) (E.var 9)) (Es.cons (E.bin Op.add (E.var 1) (E.con (D.int 1))) Es.nil)))) (Ss.cons (S.ifS (E.or (E.cmp Cm.isN (E.idx (E.var 4) (E.var 8)) (E.con D.non)) (E.cmp Cm.lt (E.var 10) (E.idx (E.var 4) (E.var 8)))) (Ss.cons (S.seti (E.var 4) (E.var 8) (E.var 10)) Ss.nil) Ss.nil) Ss.nil)) Ss.nil) Ss.nil
def ir72 : Ss := Ss.cons (S.asg 4 (E.lc c72_1 (Tg.v 5) (It.seq (E.var 2)) (E.con (D.bl true)))) (Ss.cons (S.forS (Tg.cons (Tg.v 6) (Tg.cons (Tg.v 7) (Tg.cons (Tg.v 8) (Tg.cons (Tg.v 9) Tg.nil)))) (It.seq (E.idx (E.var 0) (E.con (D.int 4)))) b72_2) (Ss.cons (S.ret (E.bi Bi.tuple (Es.cons (E.var 4) Es.nil))) Ss.nil))
def fn72 : Fn := ⟨4, 11, ir72⟩
def c73_1 : E := E.idx (E.var 1) (E.var 2)
def t73_2 : E := E.cmp Cm.notN (E.idx (E.var 1) (E.var 2)) (E.con D.non)
def ir73 : Ss := Ss.cons (S.ret (E.bi Bi.min1d (Es.cons (E.lc c73_1 (Tg.v 2) (It.seq (E.idx (E.var 0) (E.con (D.int 3)))) t73_2) (Es.cons (E.con D.non) Es.nil)))) Ss.nil
def fn73 : Fn := ⟨2, 3, ir73⟩
def b74_1 : Ss := Ss.cons (S.ifS (E.and (E.cmp Cm.notN (E.var 2) (E.con D.non)) (E.or (E.not (E.bi (Bi.isT 2) (Es.cons (E.var 2) Es.nil))) (E.bi (Bi.isT 1) (Es.cons (E.var 2) Es.nil)))) (Ss.cons (S.ret (E.con (D.bl false))) Ss.nil) Ss.nil) Ss.nil
def ir74 : Ss := Ss.cons (S.ifS (E.or (E.not (E.bi (Bi.isT 4) (Es.cons (E.var 0) Es.nil))) (E.cmp Cm.ne (E.len (E.var 0)) (E.len (E.var 1)))) (Ss.cons (S.ret (E.con (D.bl false))) Ss.nil) Ss.nil) (Ss.cons (S.forS (Tg.v 2) (It.seq (E.var 0)) b74_1) (Ss.cons (S.ret (E.cmp Cm.eq (E.var 0) (E.var 1))) Ss.nil))
def fn74 : Fn := ⟨2, 3, ir74⟩
def ir79 : Ss := Ss.cons (S.ifS (E.cmp Cm.isN (E.var 0) (E.con D.non)) (Ss.cons (S.ret (E.con D.non)) Ss.nil) Ss.nil) (Ss.cons (S.ret (E.bi Bi.min2 (Es.cons (E.var 0) (Es.cons (E.bin Op.add (E.var 1) (E.con (D.int 1))) Es.nil)))) Ss.nil)
def fn79 : Fn := ⟨2, 2, ir79⟩
def ir81 : Ss := Ss.cons (S.ret (E.bi Bi.cutU (Es.cons (E.con (D.str [97, 98, 99])) (Es.cons (E.idx (E.var 0) (E.con (D.int 0))) Es.nil)))) Ss.nil
def fn81 : Fn := ⟨1, 1, ir81⟩
def t82_1 : E := E.cmp Cm.lt (E.var 5) (E.len (E.var 3))
def b82_3 : Ss := Ss.cons (S.asg 9 (E.call 68 (Es.cons (E.var 0) (Es.cons (E.var 1) (Es.cons (E.var 7) (Es.cons (E.var 8) Es.nil)))))) (Ss.cons (S.ifS (E.cmp Cm.inn (E.var 9) (E.var 4)) (Ss.cons S.cnt Ss.nil) Ss.nil) (Ss.cons (S.ifS (E.cmp Cm.eq (E.len (E.var 3)) (E.con (D.int 300))) (Ss.cons (S.rais 2 Es.nil) Ss.nil) Ss.nil) (Ss.cons (S.seti (E.var 4) (E.var 9) (E.con (D.bl true))) (Ss.cons (S.ex (E.mut Mu.append (E.var 3) (Es.cons (E.tupE (Es.cons (E.bin Op.add (E.var 6) (E.var 8)) (Es.cons (E.var 9) Es.nil))) Es.nil))) (Ss.cons (S.ifS (E.cmp Cm.eq (E.call 69 (Es.cons (E.var 0) (Es.cons (E.var 9) Es.nil))) (E.bin Op.add (E.var 1) (E.con (D.int 1)))) (Ss.cons (S.ret (E.var 3)) Ss.nil) Ss.nil) Ss.nil)))))
def b82_2 : Ss := Ss.cons (S.asgT (Tg.cons (Tg.v 6) (Tg.cons (Tg.v 7) Tg.nil)) (E.idx (E.var 3) (E.var 5))) (Ss.cons (S.forS (Tg.v 8) (It.seq (E.call 81 (Es.cons (E.var 0) Es.nil))) b82_3) (Ss.cons (S.aug 5 (E.con (D.int 1))) Ss.nil))
def ir82 : Ss := Ss.cons (S.asg 2 (E.call 67 (Es.cons (E.var 0) Es.nil))) (Ss.cons (S.asg 3 (E.lstE (Es.cons (E.tupE (Es.cons (E.con (D.str [])) (Es.cons (E.var 2) Es.nil))) Es.nil))) (Ss.cons (S.asg 4 (E.dic1 (E.var 2) (E.con (D.bl true)))) (Ss.cons (S.asg 5 (E.con (D.int 0))) (Ss.cons (S.whl t82_1 b82_2) (Ss.cons (S.ret (E.var 3)) Ss.nil)))))
def fn82 : Fn := ⟨2, 10, ir82⟩
def ir83 : Ss := Ss.cons (S.tryS (Ss.cons (S.ret (E.lstE (Es.cons (E.call 82 (Es.cons (E.var 0) (Es.cons (E.var 1) Es.nil))) Es.nil))) Ss.nil) 2 none (Ss.cons (S.ret (E.lstE Es.nil)) Ss.nil)) Ss.nil
def fn83 : Fn := ⟨2, 2, ir83⟩
def b84_1 : Ss := Ss.cons (S.ifS (E.or (E.not (E.bi (Bi.isT 4) (Es.cons (E.var 5) Es.nil))) (E.or (E.cmp Cm.ne (E.len (E.var 5)) (E.con (D.int 2))) (E.not (E.bi (Bi.isT 3) (Es.cons (E.idx (E.var 5) (E.con (D.int 0))) Es.nil))))) (Ss.cons (S.ret (E.con (D.bl false))) Ss.nil) Ss.nil) (Ss.cons (S.asg 6 (E.call 71 (Es.cons (E.var 0) Es.nil))) (Ss.cons (S.ifS (E.cmp Cm.ne (E.idx (E.var 5) (E.con (D.int 0))) (E.con (D.str []))) (Ss.cons (S.ifS (E.or (E.cmp Cm.nin (E.bi Bi.cutU (Es.cons (E.idx (E.var 5) (E.con (D.int 0))) (Es.cons (E.neg (E.con (D.int 1))) Es.nil))) (E.var 4)) (E.cmp Cm.nin (E.idx (E.idx (E.var 5) (E.con (D.int 0))) (E.neg (E.con (D.int 1)))) (E.bi Bi.cutU (Es.cons (E.lstE (Es.cons (E.con (D.str [97])) (Es.cons (E.con (D.str [98])) (Es.cons (E.con (D.str [99])) Es.nil)))) (Es.cons (E.idx (E.var 0) (E.con (D.int 0))) Es.nil))))) (Ss.cons (S.ret (E.con (D.bl false))) Ss.nil) Ss.nil) (Ss.cons (S.asg 6 (E.call 72 (Es.cons (E.var 0) (Es.cons (E.var 1) (Es.cons (E.idx (E.var 4) (E.bi Bi.cutU (Es.cons (E.idx (E.var 5) (E.con (D.int 0))) (Es.cons (E.neg (E.con (D.int 1))) Es.nil)))) (Es.cons (E.idx (E.idx (E.var 5) (E.con (D.int 0))) (E.neg (E.con (D.int 1)))) Es.nil)))))) Ss.nil)) Ss.nil) (Ss.cons (S.ifS (E.or (E.not (E.call 74 (Es.cons (E.idx (E.var 5) (E.con (D.int 1))) (Es.cons (E.var 6) Es.nil)))) (E.cmp Cm.inn (E.var 6) (E.var 3))) (Ss.cons (S.ret (E.con (D.bl false))) Ss.nil) Ss.nil) (Ss.cons (S.seti (E.var 3) (E.var 6) (E.con (D.bl true))) (Ss.cons (S.seti (E.var 4) (E.idx (E.var 5) (E.con (D.int 0))) (E.var 6)) Ss.nil)))))
def ir84 : Ss := Ss.cons (S.ifS (E.or (E.not (E.bi (Bi.isT 5) (Es.cons (E.var 2) Es.nil))) (E.or (E.cmp Cm.eq (E.len (E.var 2)) (E.con (D.int 0))) (E.cmp Cm.gt (E.len (E.var 2)) (E.con (D.int 300))))) (Ss.cons (S.ret (E.con (D.bl false))) Ss.nil) Ss.nil) (Ss.cons (S.asg 3 (E.dicE Es.nil Es.nil)) (Ss.cons (S.asg 4 (E.dicE Es.nil Es.nil)) (Ss.cons (S.forS (Tg.v 5) (It.seq (E.var 2)) b84_1) (Ss.cons (S.ret (E.con (D.bl true))) Ss.nil))))
def fn84 : Fn := ⟨3, 7, ir84⟩
def b85_1 : Ss := Ss.cons (S.seti (E.var 5) (E.var 7) (E.var 6)) (Ss.cons (S.ifS (E.and (E.cmp Cm.eq (E.call 73 (Es.cons (E.var 0) (Es.cons (E.var 7) Es.nil))) (E.bin Op.add (E.var 1) (E.con (D.int 1)))) (E.cmp Cm.ne (E.var 6) (E.idx (E.idx (E.var 2) (E.neg (E.con (D.int 1)))) (E.con (D.int 0))))) (Ss.cons (S.ret (E.con (D.bl false))) Ss.nil) Ss.nil) Ss.nil)
def b85_2 : Ss := Ss.cons (S.ifS (E.cmp Cm.ge (E.tupE (Es.cons (E.len (E.idx (E.idx (E.var 2) (E.var 8)) (E.con (D.int 0)))) (Es.cons (E.idx (E.idx (E.var 2) (E.var 8)) (E.con (D.int 0))) Es.nil))) (E.tupE (Es.cons (E.len (E.idx (E.idx (E.var 2) (E.bin Op.add (E.var 8) (E.con (D.int 1)))) (E.con (D.int 0)))) (Es.cons (E.idx (E.idx (E.var 2) (E.bin Op.add (E.var 8) (E.con (D.int 1)))) (E.con (D.int 0))) Es.nil)))) (Ss.cons (S.ret (E.con (D.bl false))) Ss.nil) Ss.nil) Ss.nil
def b85_4 : Ss := Ss.cons (S.asg 10 (E.tupE (Es.cons (E.bin Op.add (E.len (E.var 6)) (E.con (D.int 1))) (Es.cons (E.bin Op.add (E.var 6) (E.var 9)) Es.nil)))) (Ss.cons (S.ifS (E.and (E.var 4) (E.cmp Cm.ge (E.var 10) (E.var 3))) (Ss.cons S.cnt Ss.nil) Ss.nil) (Ss.cons (S.asg 11 (E.call 72 (Es.cons (E.var 0) (Es.cons (E.var 1) (Es.cons (E.var 7) (Es.cons (E.var 9) Es.nil)))))) (Ss.cons (S.ifS (E.or (E.cmp Cm.nin (E.var 11) (E.var 5)) (E.cmp Cm.gt (E.tupE (Es.cons (E.len (E.idx (E.var 5) (E.var 11))) (Es.cons (E.idx (E.var 5) (E.var 11)) Es.nil))) (E.var 10))) (Ss.cons (S.ret (E.con (D.bl false))) Ss.nil) Ss.nil) Ss.nil)))
def b85_3 : Ss := Ss.cons (S.forS (Tg.v 9) (It.seq (E.bi Bi.cutU (Es.cons (E.con (D.str [97, 98, 99])) (Es.cons (E.idx (E.var 0) (E.con (D.int 0))) Es.nil)))) b85_4) Ss.nil
def ir85 : Ss := Ss.cons (S.asg 3 (E.tupE (Es.cons (E.len (E.idx (E.idx (E.var 2) (E.neg (E.con (D.int 1)))) (E.con (D.int 0)))) (Es.cons (E.idx (E.idx (E.var 2) (E.neg (E.con (D.int 1)))) (E.con (D.int 0))) Es.nil)))) (Ss.cons (S.asg 4 (E.cmp Cm.eq (E.call 73 (Es.cons (E.var 0) (Es.cons (E.idx (E.idx (E.var 2) (E.neg (E.con (D.int 1)))) (E.con (D.int 1))) Es.nil))) (E.bin Op.add (E.var 1) (E.con (D.int 1))))) (Ss.cons (S.asg 5 (E.dicE Es.nil Es.nil)) (Ss.cons (S.forS (Tg.cons (Tg.v 6) (Tg.cons (Tg.v 7) Tg.nil)) (It.seq (E.var 2)) b85_1) (Ss.cons (S.forS (Tg.v 8) (It.rng 1 (Es.cons (E.bin Op.sub (E.len (E.var 2)) (E.con (D.int 1))) Es.nil)) b85_2) (Ss.cons (S.forS (Tg.cons (Tg.v 6) (Tg.cons (Tg.v 7) Tg.nil)) (It.seq (E.var 2)) b85_3) (Ss.cons (S.ret (E.cmp Cm.eq (E.idx (E.idx (E.var 2) (E.con (D.int 0))) (E.con (D.int 0))) (E.con (D.str [])))) Ss.nil))))))
def fn85 : Fn := ⟨3, 12, ir85⟩
def b86_1 : Ss := Ss.cons (S.asg 2 (E.call 6 (Es.cons (E.var 0) (Es.cons (E.var 1) Es.nil)))) (Ss.cons (S.asg 3 (E.call 70 (Es.cons (E.var 2) Es.nil))) (Ss.cons (S.asg 4 (E.call 65 (Es.cons (E.var 2) Es.nil))) (Ss.cons (S.asg 5 (E.call 83 (Es.cons (E.var 3) (Es.cons (E.var 4) Es.nil)))) (Ss.cons (S.ifS (E.cmp Cm.eq (E.len (E.var 5)) (E.con (D.int 0))) (Ss.cons S.cnt Ss.nil) Ss.nil) (Ss.cons (S.ifS (E.or (E.not (E.call 84 (Es.cons (E.var 3) (Es.cons (E.var 4) (Es.cons (E.idx (E.var 5) (E.con (D.int 0))) Es.nil))))) (E.not (E.call 85 (Es.cons (E.var 3) (Es.cons (E.var 4) (Es.cons (E.idx (E.var 5) (E.con (D.int 0))) Es.nil)))))) (Ss.cons (S.ret (E.con (D.bl false))) Ss.nil) Ss.nil) (Ss.cons (S.asg 6 (E.bi Bi.list (Es.cons (E.idx (E.var 5) (E.con (D.int 0))) Es.nil))) (Ss.cons (S.ex (E.mut Mu.reverse (E.idx (E.var 5) (E.con (D.int 0))) Es.nil)) (Ss.cons (S.ex (E.mut Mu.append (E.idx (E.var 5) (E.con (D.int 0))) (Es.cons (E.tupE (Es.cons (E.con (D.str [])) (Es.cons (E.tupE Es.nil) Es.nil))) Es.nil))) (Ss.cons (S.ifS (E.cmp Cm.ne (E.call 83 (Es.cons (E.var 3) (Es.cons (E.var 4) Es.nil))) (E.lstE (Es.cons (E.var 6) Es.nil))) (Ss.cons (S.ret (E.con (D.bl false))) Ss.nil) Ss.nil) Ss.nil)))))))))
def ir86 : Ss := Ss.cons (S.forS (Tg.v 1) (It.rng 1 (Es.cons (E.con (D.int 2)) Es.nil)) b86_1) (Ss.cons (S.ret (E.con (D.bl true))) Ss.nil)
def fn86 : Fn := ⟨1, 7, ir86⟩
def ir99 : Ss := Ss.cons (S.ifS (E.cmp Cm.isN (E.var 0) (E.con D.non)) (Ss.cons (S.ret (E.con (D.int 3))) Ss.nil) Ss.nil) (Ss.cons (S.ifS (E.cmp Cm.eq (E.var 0) (E.con (D.int 0))) (Ss.cons (S.ret (E.con (D.int 0))) Ss.nil) Ss.nil) (Ss.cons (S.ret (E.con (D.int 1))) Ss.nil))
def fn99 : Fn := ⟨1, 1, ir99⟩
def ir103 : Ss := Ss.cons (S.asg 2 (E.bin Op.mod (E.idx (E.var 0) (E.con (D.int 0))) (E.var 1))) (Ss.cons (S.seti (E.var 0) (E.con (D.int 0)) (E.bin Op.fdiv (E.idx (E.var 0) (E.con (D.int 0))) (E.var 1))) (Ss.cons (S.ret (E.var 2)) Ss.nil))
def fn103 : Fn := ⟨2, 3, ir103⟩
def ir107 : Ss := Ss.cons (S.ifS (E.cmp Cm.isN (E.var 0) (E.con D.non)) (Ss.cons (S.ret (E.con (D.int 3))) Ss.nil) Ss.nil) (Ss.cons (S.ret (E.bi Bi.int (Es.cons (E.cmp Cm.gt (E.var 0) (E.con (D.int 0))) Es.nil))) Ss.nil)
def fn107 : Fn := ⟨1, 1, ir107⟩
def c109_1 : E := E.bi Bi.max2 (Es.cons (E.var 3) (Es.cons (E.idx (E.var 4) (E.var 2)) Es.nil))
def ir109 : Ss := Ss.cons (S.ret (E.bi Bi.min1 (Es.cons (E.lc c109_1 (Tg.cons (Tg.v 3) (Tg.cons (Tg.v 4) Tg.nil)) (It.zip (Es.cons (E.var 0) (Es.cons (E.var 1) Es.nil))) (E.con (D.bl true))) Es.nil))) Ss.nil
def fn109 : Fn := ⟨3, 5, ir109⟩
def c110_1 : E := E.call 109 (Es.cons (E.var 0) (Es.cons (E.var 1) (Es.cons (E.var 2) Es.nil)))
def ir110 : Ss := Ss.cons (S.ret (E.bi Bi.tuple (Es.cons (E.lc c110_1 (Tg.v 2) (It.rng 1 (Es.cons (E.len (E.var 0)) Es.nil)) (E.con (D.bl true))) Es.nil))) Ss.nil
def fn110 : Fn := ⟨2, 3, ir110⟩
def c111_1 : E := E.call 110 (Es.cons (E.var 2) (Es.cons (E.var 1) Es.nil))
def ir111 : Ss := Ss.cons (S.ret (E.bi Bi.tuple (Es.cons (E.lc c111_1 (Tg.v 2) (It.seq (E.var 0)) (E.con (D.bl true))) Es.nil))) Ss.nil
def fn111 : Fn := ⟨2, 3, ir111⟩
def ir123 : Ss := Ss.cons (S.ret (E.cmp Cm.eq (E.call 111 (Es.cons (E.var 0) (Es.cons (E.var 0) Es.nil))) (E.var 0))) Ss.nil
def fn123 : Fn := ⟨1, 1, ir123⟩
end LT.K
/-! PBase: how what the laws speak of stands as data -/
namespace LT.K
open LT
abbrev nD (k : Nat) : D := .int (k : Int)
structure Door where
  s : Nat
  l : Nat
  g : Nat
  t : Nat
deriving DecidableEq, Inhabited
structure Mach where
  lets : Nat
  rooms : Nat
  begins : List Nat
  ends : List Nat
  doors : List Door
deriving DecidableEq, Inhabited
def doorD (d : Door) : D := .tup [.int (d.s : Int), .str [d.l], .int (d.g : Int), .int (d.t : Int)]
def nsD (l : List Nat) : D := .tup (l.map fun (k : Nat) => D.int (k : Int))
def doorsD (l : List Door) : D := .tup (l.map doorD)
def machD (m : Mach) : D := .tup [.int (m.lets : Int), .int (m.rooms : Int), nsD m.begins, nsD m.ends, doorsD m.doors]
@[simp] theorem own_door (d) : (doorD d).own = false := id rfl
@[simp] theorem frz_door (d) : (doorD d).frz = doorD d := id rfl
@[simp] theorem own_mach (d) : (machD d).own = false := id rfl
@[simp] theorem frz_mach (d) : (machD d).frz = machD d := id rfl
@[simp] theorem own_ns (d) : (nsD d).own = false := id rfl
@[simp] theorem frz_ns (d) : (nsD d).frz = nsD d := id rfl
@[simp] theorem own_doors (d) : (doorsD d).own = false := id rfl
@[simp] theorem frz_doors (d) : (doorsD d).frz = doorsD d := id rfl
structure DoorOk (lets rooms : Nat) (d : Door) : Prop where
  s : d.s < rooms
  l0 : 97 ≤ d.l
  l1 : d.l < 97 + lets
  g : d.g < rooms
  t : d.t ≤ 3
structure RoomsOk (rooms : Nat) (l : List Nat) : Prop where
  lt : ∀ r ∈ l, r < rooms
  up : l.Pairwise (· < ·)
structure MachOk (m : Mach) : Prop where
  l0 : 1 ≤ m.lets
  l1 : m.lets ≤ 3
  r0 : 1 ≤ m.rooms
  r1 : m.rooms ≤ 5
  b : RoomsOk m.rooms m.begins
  e : RoomsOk m.rooms m.ends
  d : ∀ d ∈ m.doors, DoorOk m.lets m.rooms d
  dn : m.doors.length ≤ 75
@[simp] theorem ixOf_nat (n k : Nat) : ixOf n (k : Int) = if k < n then some k else none := by
  unfold ixOf
  rw [if_pos (by omega)]
  by_cases h : k < n
  · rw [if_pos (by omega), if_pos h]; simp
  · rw [if_neg (by omega), if_neg h]
@[simp] theorem ixOf_zero (n : Nat) : ixOf n 0 = if 0 < n then some 0 else none := ixOf_nat n 0
@[simp] theorem ixOf_ofNat (n k : Nat) : ixOf n (no_index (OfNat.ofNat (k + 1)) : Int) = if k + 1 < n then some (k + 1) else none := ixOf_nat n (k + 1)
@[simp] theorem smallR_nat {k : Nat} (h : k < 4611686018427387904) : smallR (k : Int) = true := by simp [smallR]; omega
@[simp] theorem smallR_ofNat (k : Nat) : smallR (no_index (OfNat.ofNat (k + 1)) : Int) = decide (k + 1 < 4611686018427387904) := by
  show smallR ((k + 1 : Nat) : Int) = _
  apply Bool.eq_iff_iff.mpr
  simp [smallR]
  omega
theorem sizeL_val : sizeL = 16777216 := rfl
/-! an item at a reckoned place of a written list -/
def pick {α : Type} [Inhabited α] (l : List α) (d : Int) : α := l.getD d.toNat default
theorem pick_mem {α : Type} [Inhabited α] {l : List α} {d : Int} (h0 : 0 ≤ d) (h1 : d < l.length) : pick l d ∈ l := by
  have : d.toNat < l.length := by omega
  unfold pick
  rw [List.getD_eq_getElem?_getD, List.getElem?_eq_getElem this]
  exact List.getElem_mem this
def unI : D → Int
  | .int i => i
  | _ => 0
def isI : D → Bool
  | .int _ => true
  | _ => false
@[simp] theorem unI_int (i) : unI (.int i) = i := id rfl
@[simp] theorem isI_int (i) : isI (.int i) = true := id rfl
@[simp high] theorem idxD_ints (t : T) (d : Int) (o : Bool) (xs : List D) (h0 : 0 ≤ d) (h1 : d < xs.length) (h : xs.all isI = true) : idxD t (.int d) (.lst o xs) = some (.val (.int (pick (xs.map unI) d))) := by
  have lt : d.toNat < xs.length := by omega
  simp only [idxD, ixOf_lt h0 h1, Option.bind_some, List.getElem?_eq_getElem lt, Option.map_some, pick]
  have hi : isI xs[d.toNat] = true := List.all_eq_true.mp h _ (List.getElem_mem lt)
  rw [List.getD_eq_getElem?_getD, List.getElem?_map, List.getElem?_eq_getElem lt]
  cases e : xs[d.toNat] with
  | int i => simp [kidT, D.own, unI]
  | _ => rw [e] at hi; cases hi
theorem idxD_str0 (t : T) (d : Int) (s : Cs) : idxD t (.int d) (.str s) = if s.length ≤ sizeL then (ixOf s.length d).bind fun n => (s[n]?).map fun c => .val (.str [c]) else none := id rfl
@[simp] theorem idxD_str (t : T) (d : Int) (s : Cs) (h0 : 0 ≤ d) (h1 : d < s.length) (h : s.length ≤ sizeL) : idxD t (.int d) (.str s) = some (.val (.str [pick s d])) := by
  have lt : d.toNat < s.length := by omega
  rw [idxD_str0, if_pos h, ixOf_lt h0 h1]
  simp only [Option.bind_some, List.getElem?_eq_getElem lt, Option.map_some, pick]
  rw [List.getD_eq_getElem?_getD, List.getElem?_eq_getElem lt]
  rfl
@[simp] theorem idxD_strN (t : T) (k : Nat) (s : Cs) (h1 : k < s.length) (h : s.length ≤ sizeL) : idxD t (.int (k : Int)) (.str s) = some (.val (.str [s[k]])) := by
  rw [idxD_str0, if_pos h]
  simp [h1]
@[simp] theorem sizeL_le1 : 1 ≤ sizeL := by decide
@[simp] theorem sizeL_lit (k : Nat) : (no_index (OfNat.ofNat (k + 1)) ≤ sizeL) = (k + 1 ≤ 16777216) := id rfl
@[simp] theorem sizeL_pos : 0 < sizeL := by decide
@[simp] theorem sizeL_zero : 0 ≤ sizeL := by decide
@[simp] theorem smallR_iteN (c : Prop) [Decidable c] (a b : Nat) : smallR ((if c then a else b : Nat) : Int) = if c then smallR a else smallR b := by split <;> rfl
@[simp] theorem smallR_ite (c : Prop) [Decidable c] (a b : Int) : smallR (if c then a else b) = if c then smallR a else smallR b := by split <;> rfl
/-- rooms by bits -/
theorem pw_filter {l : List Nat} {p : Nat → Bool} (h : l.Pairwise (· < ·)) : (l.filter p).Pairwise (· < ·) := h.filter p
theorem rooms_filter (n : Nat) (p : Nat → Bool) : RoomsOk n ((List.range n).filter p) where
  lt := fun r m => by
    have := (List.mem_filter.mp m).1
    simpa using this
  up := pw_filter List.pairwise_lt_range
end LT.K
namespace LT.K
open LT
theorem ex2 {α β : Type} {c : CR} {f : α → β → D} {g : α → β → List D} {P : α → β → Prop} (h : ∀ Q : D → List D → Prop, (∀ a b, P a b → Q (f a b) (g a b)) → CW c Q) : ∃ a b, c = .ret (f a b) (g a b) ∧ P a b := by
  obtain ⟨_, _, e, a, b, rfl, rfl, p⟩ := h (fun d o => ∃ a b, d = f a b ∧ o = g a b ∧ P a b) fun a b p => ⟨a, b, rfl, rfl, p⟩
  exact ⟨a, b, e, p⟩
end LT.K
namespace LT.K
open LT
/-- the item at a place -/
def nth {α : Type} [Inhabited α] (l : List α) (i : Nat) : α := l.getD i default
theorem nth_mem {α : Type} [Inhabited α] {l : List α} {i : Nat} (h : i < l.length) : nth l i ∈ l := by
  unfold nth
  rw [List.getD_eq_getElem?_getD, List.getElem?_eq_getElem h]
  exact List.getElem_mem h
theorem nth_eq {α : Type} [Inhabited α] {l : List α} {i : Nat} {x : α} (h : l[i]? = some x) : nth l i = x := by
  unfold nth
  rw [List.getD_eq_getElem?_getD, h]
  rfl
theorem nth_get {α : Type} [Inhabited α] {l : List α} {i : Nat} (h : i < l.length) : nth l i = l[i] := nth_eq (List.getElem?_eq_getElem h)
@[simp] theorem idx_mach0 (t : T) (m) : idxD t (.int 0) (machD m) = some (.val (.int (m.lets : Int))) := id rfl
@[simp] theorem idx_mach1 (t : T) (m) : idxD t (.int 1) (machD m) = some (.val (.int (m.rooms : Int))) := id rfl
@[simp] theorem idx_mach2 (t : T) (m) : idxD t (.int 2) (machD m) = some (.val (nsD m.begins)) := id rfl
@[simp] theorem idx_mach3 (t : T) (m) : idxD t (.int 3) (machD m) = some (.val (nsD m.ends)) := id rfl
@[simp] theorem idx_mach4 (t : T) (m) : idxD t (.int 4) (machD m) = some (.val (doorsD m.doors)) := id rfl
@[simp] theorem src_ns (l e) : src (.val (nsD l)) e = .ok (1, l.map nD, .val (nsD l)) e := id rfl
@[simp] theorem src_doors (l e) : src (.val (doorsD l)) e = .ok (1, l.map doorD, .val (doorsD l)) e := id rfl
theorem idx_tupN {α : Type} [Inhabited α] (t : T) (l : List α) (g : α → D) (i : Nat) (h : i < l.length) : idxD t (.int (i : Int)) (.tup (l.map g)) = some (.val (g (nth l i))) := by
  rw [nth_get h]
  simp [h]
@[simp] theorem idx_ns (t : T) (l : List Nat) (i : Nat) (h : i < l.length) : idxD t (.int (i : Int)) (nsD l) = some (.val (.int ((nth l i : Nat) : Int))) := idx_tupN t l nD i h
@[simp] theorem idx_doors (t : T) (l : List Door) (i : Nat) (h : i < l.length) : idxD t (.int (i : Int)) (doorsD l) = some (.val (doorD (nth l i))) := idx_tupN t l doorD i h
@[simp] theorem len_ns (l) : lenD (nsD l) = some l.length := by simp [nsD]
@[simp] theorem len_doors (l) : lenD (doorsD l) = some l.length := by simp [doorsD]
@[simp] theorem len_mach (l) : lenD (machD l) = some 5 := by simp [machD]
@[simp] theorem idx_door0 (t : T) (d) : idxD t (.int 0) (doorD d) = some (.val (.int (d.s : Int))) := id rfl
@[simp] theorem idx_door1 (t : T) (d) : idxD t (.int 1) (doorD d) = some (.val (.str [d.l])) := by rfl
@[simp] theorem idx_door2 (t : T) (d) : idxD t (.int 2) (doorD d) = some (.val (.int (d.g : Int))) := id rfl
@[simp] theorem idx_door3 (t : T) (d) : idxD t (.int 3) (doorD d) = some (.val (.int (d.t : Int))) := id rfl
@[simp] theorem asg_door (ln x xs e) (d : Door) : asgTD ln (.cons x xs) (doorD d) e = asgTD ln (.cons x xs) (.tup [.int (d.s : Int), .str [d.l], .int (d.g : Int), .int (d.t : Int)]) e := id rfl
@[simp] theorem asg_mach (ln x xs e) (m : Mach) : asgTD ln (.cons x xs) (machD m) e = asgTD ln (.cons x xs) (.tup [.int (m.lets : Int), .int (m.rooms : Int), nsD m.begins, nsD m.ends, doorsD m.doors]) e := id rfl
/-- what the first i items give -/
def pre {α β : Type} (f : α → β) (l : List α) (i : Nat) : List β := (l.take i).map f
/-- a fold over the first numbers -/
def upto {σ : Type} (f : σ → Nat → σ) (s : σ) (m : Nat) : σ := (List.range m).foldl f s
end LT.K
/-! PBox: the box of digits and what is drawn of it -/
namespace LT.K
open LT
def dr (b : Nat) (m : Int) : Nat := ((b : Int) % m).toNat
def db (b : Nat) (m : Int) : Nat := ((b : Int) / m).toNat
/-- what may be drawn of -/
def Mo (m : Int) : Prop := 0 < m ∧ m ≤ 10 ^ 100
@[simp] theorem mo_lit (k : Nat) : Mo (no_index (OfNat.ofNat (k + 1)) : Int) = (k + 1 ≤ 10 ^ 100) := by
  unfold Mo
  apply propext
  constructor
  · rintro ⟨_, h⟩
    have : ((k + 1 : Nat) : Int) ≤ ((10 ^ 100 : Nat) : Int) := h
    exact_mod_cast this
  · intro h
    refine ⟨Int.natCast_pos.mpr (Nat.succ_pos k), ?_⟩
    have : ((k + 1 : Nat) : Int) ≤ ((10 ^ 100 : Nat) : Int) := by exact_mod_cast h
    exact this
theorem mo_of {m : Int} (h : 0 < m) (h2 : m ≤ 1000000) : Mo m := ⟨h, by omega⟩
theorem dr_lt {b : Nat} {m : Int} (h : Mo m) : (dr b m : Int) < m := by
  have h1 := Int.emod_lt_of_pos (b : Int) h.1
  have h2 := Int.emod_nonneg (b : Int) (b := m) (by have := h.1; omega)
  unfold dr; omega
@[simp] theorem dr_lt' (b : Nat) (m : Int) (h : Mo m) : (dr b m : Int) < m := dr_lt h
@[simp] theorem dr_sm (b : Nat) (m : Int) (h : Mo m) (h2 : smallR m = true) : smallR (dr b m : Int) = true := by
  have h4 := dr_lt' b m h
  simp [smallR] at h2 ⊢
  omega
abbrev bxD (b : Nat) : D := .lst true [.int (b : Int)]
variable {fns : Nat → Option Fn} {n : Nat}
@[simp] theorem draw_c [Has fns 103 fn103] (b : Nat) (m : Int) (h : Mo m) : call 10000000000000000 fns (n + 1) 103 [.lst true [.int (b : Int)], .int m] = .ret (.int (dr b m : Int)) [.lst true [.int (db b m : Nat)], .int m] := by
  have e : ((db b m : Nat) : Int) = (b : Int) / m := by
    have : 0 ≤ (b : Int) / m := Int.ediv_nonneg (by omega) (by have := h.1; omega)
    unfold db; omega
  have e2 : ((dr b m : Nat) : Int) = (b : Int) % m := by
    have : 0 ≤ (b : Int) % m := Int.emod_nonneg _ (by have := h.1; omega)
    unfold dr; omega
  rw [e, e2]
  rw [call_succ Has.h]
  exact draw_spec _ b m h.1 h.2
end LT.K
namespace LT.K
open LT
variable {fns : Nat → Option Fn} {n : Nat}
end LT.K
namespace LT.K
open LT
variable {fns : Nat → Option Fn} {n : Nat}
/-- a table of signs -/
def sgsD (t : List (List Nat)) : D := .tup (t.map nsD)
structure SgRow (k : Nat) (l : List Nat) : Prop where
  len : l.length = k
  le : ∀ x ∈ l, x ≤ 3
structure SgsOk (k : Nat) (t : List (List Nat)) : Prop where
  len : t.length = k
  row : ∀ l ∈ t, SgRow k l
@[simp] theorem own_sgs (t) : (sgsD t).own = false := id rfl
@[simp] theorem frz_sgs (t) : (sgsD t).frz = sgsD t := id rfl
@[simp] theorem src_sgs (l e) : src (.val (sgsD l)) e = .ok (1, l.map nsD, .val (sgsD l)) e := id rfl
@[simp] theorem idx_sgs (t : T) (l : List (List Nat)) (i : Nat) (h : i < l.length) : idxD t (.int (i : Int)) (sgsD l) = some (.val (nsD (nth l i))) := idx_tupN t l nsD i h
@[simp] theorem len_sgs (l) : lenD (sgsD l) = some l.length := by simp [sgsD]
theorem SgsOk.nth {k : Nat} {t : List (List Nat)} (h : SgsOk k t) {i : Nat} (hi : i < k) : SgRow k (nth t i) := h.row _ (nth_mem (by rw [h.len]; exact hi))
end LT.K
/-! PBag: the bag and what is taken of it -/
namespace LT.K
open LT
structure Bag where
  c : Nat
  m : Nat
def bagD (b : Bag) : D := .lst true [.int (b.c : Int), .int (b.m : Int)]
@[simp] theorem own_bag (b) : (bagD b).own = true := id rfl
/-- the loop of take: mix, number, room -/
def tkRun (many : Int) : Nat → Nat → Int → Int → Nat × Int × Int
  | 0, m, n, r => (m, n, r)
  | k + 1, m, n, r => if r < many then tkRun many k ((m * 48271 + 7919) % 2147483647) (n * 1073741789 + ((m * 48271 + 7919) % 2147483647 : Nat) / 8 * 69621 % 1073741789) (r * 1073741789) else (m, n, r)
def tk (b : Bag) (many : Int) : Nat := if 0 < b.c then ((b.c : Int) % many).toNat else ((tkRun many 399 b.m 0 1).2.1 % many).toNat
def tb (b : Bag) (many : Int) : Bag := if 0 < b.c then ⟨((b.c : Int) / many).toNat, b.m⟩ else ⟨b.c, (tkRun many 399 b.m 0 1).1⟩
theorem tk_lt {b : Bag} {m : Int} (h : Mo m) : (tk b m : Int) < m := by
  have h0 := h.1
  unfold tk
  split
  · have h1 := Int.emod_lt_of_pos (b.c : Int) h.1
    have h2 := Int.emod_nonneg (b.c : Int) (b := m) (by omega)
    omega
  · have h1 := Int.emod_lt_of_pos ((tkRun m 399 b.m 0 1).2.1) h.1
    have h2 := Int.emod_nonneg ((tkRun m 399 b.m 0 1).2.1) (b := m) (by omega)
    omega
theorem tk_ltN {b : Bag} {m : Nat} (h : Mo (m : Int)) : tk b (m : Int) < m := by
  have := tk_lt (b := b) h; omega
theorem tk_lit {b : Bag} {k : Nat} (h : Mo (no_index (OfNat.ofNat (k + 1)) : Int)) : tk b (no_index (OfNat.ofNat (k + 1)) : Int) < k + 1 := by
  have := tk_lt (b := b) h
  have e : (OfNat.ofNat (k + 1) : Int) = ((k + 1 : Nat) : Int) := rfl
  rw [e] at this
  exact_mod_cast this
@[simp] theorem tk_lt' (b : Bag) (m : Int) (h : Mo m) : (tk b m : Int) < m := tk_lt h
@[simp] theorem tk_sm (b : Bag) (m : Int) (h : Mo m) (h2 : smallR m = true) : smallR (tk b m : Int) = true := by
  have h4 := tk_lt' b m h
  simp [smallR] at h2 ⊢
  omega
variable {fns : Nat → Option Fn} {n : Nat}
theorem tk_loop (cl : Nat → List D → CR) (c : Int) (many : Int) (x2 : Option D) (X : Nat) : ∀ (k : Nat) (m : Nat) (n r : Int), 0 < r → many ≤ r * 2 ^ k →
    whL (whT cl t7_1) (evSs cl 10000000000000000 b7_2 [0]) (k + X + 1) [some (D.lst true [D.int c, D.int (m : Int)]), some (D.int many), x2, some (D.int n), some (D.int r)] = .nx [some (D.lst true [D.int c, D.int ((tkRun many k m n r).1 : Int)]), some (D.int many), x2, some (D.int (tkRun many k m n r).2.1), some (D.int (tkRun many k m n r).2.2)]
  | 0, m, n, r, hr, h => by
    have ht : ¬ r < many := by simp at h; omega
    simp [whL, whT, t7_1, ht, tkRun]
  | k + 1, m, n, r, hr, h => by
    rw [show k + 1 + X + 1 = (k + X + 1) + 1 by omega, whL]
    by_cases ht : r < many
    · have hp : (0 : Int) < 2 ^ k := Int.pow_pos (by decide)
      have h2 : many ≤ r * 1073741789 * 2 ^ k := by
        have e0 : (2 : Int) ^ (k + 1) = 2 ^ k * 2 := Int.pow_succ ..
        rw [e0] at h
        have h9 : 0 ≤ r * 2 ^ k := Int.mul_nonneg (by omega) (by omega)
        have e1 : r * (2 ^ k * 2) = (r * 2 ^ k) * 2 := by rw [Int.mul_assoc]
        have e2 : r * 1073741789 * 2 ^ k = (r * 2 ^ k) * 1073741789 := by rw [Int.mul_assoc, Int.mul_comm 1073741789, ← Int.mul_assoc]
        rw [e2]
        rw [e1] at h
        omega
      have ih := tk_loop cl c many x2 X k ((m * 48271 + 7919) % 2147483647) (n * 1073741789 + ((m * 48271 + 7919) % 2147483647 : Nat) / 8 * 69621 % 1073741789) (r * 1073741789) (by omega) h2
      have e3 : tkRun many (k + 1) m n r = tkRun many k ((m * 48271 + 7919) % 2147483647) (n * 1073741789 + ((m * 48271 + 7919) % 2147483647 : Nat) / 8 * 69621 % 1073741789) (r * 1073741789) := by
        conv => lhs; rw [tkRun]
        rw [if_pos ht]
      rw [e3]
      simp [whT, t7_1, ht, b7_2, -idxD_ints]
      simpa [b7_2, t7_1, -idxD_ints] using ih
    · have e3 : tkRun many (k + 1) m n r = (m, n, r) := by
        conv => lhs; rw [tkRun]
        rw [if_neg ht]
      rw [e3]
      simp [whT, t7_1, ht]
@[simp] theorem take_c [Has fns 7 fn7] (b : Bag) (m : Int) (h : Mo m) : call 10000000000000000 fns (n + 1) 7 [bagD b, .int m] = .ret (.int (tk b m : Int)) [bagD (tb b m), .int m] := by
  have sd : smallDiv m := sd_of h.1 h.2
  have h0 := h.1
  unfold bagD
  refine call_eq rfl ?_
  by_cases hc : 0 < b.c
  · have e : ((tb b m).c : Int) = (b.c : Int) / m := by
      have : 0 ≤ (b.c : Int) / m := Int.ediv_nonneg (by omega) (by omega)
      simp only [tb, if_pos hc]; omega
    have e1 : (tb b m).m = b.m := by simp [tb, hc]
    have e2 : ((tk b m : Nat) : Int) = (b.c : Int) % m := by
      have : 0 ≤ (b.c : Int) % m := Int.emod_nonneg _ (by omega)
      simp only [tk, if_pos hc]; omega
    have hc' : (0 : Int) < b.c := by omega
    simp [fn7, ir7, lentIx, ixOf, h.1, sd, hc, e1, e2, e, -idxD_ints]
  · have hc' : b.c = 0 := by omega
    have hm : m ≤ 1 * 2 ^ 399 := by
      have h3 : (10 : Int) ^ 100 ≤ 1 * 2 ^ 399 := by decide
      have := h.2
      omega
    have k1 := tk_loop (call 10000000000000000 fns n) 0 m none 9999999999999600 399 b.m 0 1 (by decide) hm
    rw [show 399 + 9999999999999600 + 1 = 10000000000000000 from rfl] at k1
    have e2 : ((tk b m : Nat) : Int) = (tkRun m 399 b.m 0 1).2.1 % m := by
      have : 0 ≤ (tkRun m 399 b.m 0 1).2.1 % m := Int.emod_nonneg _ (by omega)
      simp only [tk, if_neg hc]; omega
    have e1 : (tb b m).m = (tkRun m 399 b.m 0 1).1 := by simp [tb, hc]
    have e3 : (tb b m).c = 0 := by simp [tb, hc, hc']
    simp [fn7, ir7, lentIx, ixOf, hc', e1, e2, e3, -idxD_ints]
    rw [k1]
    simp [h.1, sd, -idxD_ints]
    exact ⟨e2.symm, by simp [e3], by simp [e1]⟩
theorem bag_c [Has fns 6 fn6] (ns : List Int) (a : Int) (h0 : 0 ≤ a) (hl : ns.length ≤ 63) : ∃ b : Bag, call 10000000000000000 fns (n + 1) 6 [.scr ns, .int a] = .ret (bagD b) [.scr ns, .int a] := by
  obtain ⟨c, m, h1, h2, h3⟩ := bag_spec (call 10000000000000000 fns n) ns a h0 hl
  refine ⟨⟨c.toNat, m.toNat⟩, ?_⟩
  rw [call_succ Has.h]
  have e1 : ((c.toNat : Nat) : Int) = c := by omega
  have e2 : ((m.toNat : Nat) : Int) = m := by omega
  rw [bagD]
  dsimp only
  rw [e1, e2]
  exact h1
end LT.K
/-! PTab: tables of prices -/
namespace LT.K
open LT
/-! equality of what stands as data -/
theorem cEq {a b : D} (ha : a.dat 60 = true) (hb : b.dat 60 = true) : cmpop .eq a b = some (a.eqv b) := by simp [cmpop, ha, hb]
theorem cNe {a b : D} (ha : a.dat 60 = true) (hb : b.dat 60 = true) : cmpop .ne a b = some (!a.eqv b) := by simp [cmpop, ha, hb]
theorem dats_map {α : Type} (n : Nat) (f : α → D) (h : ∀ x, (f x).dat n = true) : ∀ xs : List α, dats n (xs.map f) = true
  | [] => rfl
  | x :: xs => by simp [dats, h x, dats_map n f h xs]
theorem eqvs_map {α : Type} [DecidableEq α] (f : α → D) (h : ∀ x y, (f x).eqv (f y) = decide (x = y)) : ∀ xs ys : List α, eqvs (xs.map f) (ys.map f) = decide (xs = ys)
  | [], [] => rfl
  | [], _ :: _ => rfl
  | _ :: _, [] => rfl
  | x :: xs, y :: ys => by simp [eqvs, h x y, eqvs_map f h xs ys]
theorem ns_eta (l : List Nat) : nsD l = .tup (l.map nD) := rfl
@[simp] theorem dat_ns (n : Nat) (l : List Nat) : (nsD l).dat (n + 1) = true := by rw [ns_eta, D.dat]; exact dats_map n nD (fun x => by simp [D.dat]) l
@[simp] theorem eqv_n (a b : Nat) : (D.int (a : Int)).eqv (.int (b : Int)) = decide (a = b) := by
  rw [D.eqv, Bool.eq_iff_iff]; simp; omega
@[simp] theorem eqv_ns (a b : List Nat) : (nsD a).eqv (nsD b) = decide (a = b) := by rw [ns_eta, ns_eta, D.eqv]; exact eqvs_map nD eqv_n a b
@[simp] theorem eq_ns (a b : List Nat) : cmpop .eq (nsD a) (nsD b) = some (decide (a = b)) := by rw [cEq (by simp) (by simp), eqv_ns]
@[simp] theorem ne_ns (a b : List Nat) : cmpop .ne (nsD a) (nsD b) = some (!decide (a = b)) := by rw [cNe (by simp) (by simp), eqv_ns]
/-- a price or none -/
def oD : Option Nat → D
  | none => .non
  | some k => .int (k : Int)
@[simp] theorem oD_none : oD none = .non := id rfl
@[simp] theorem oD_some (k) : oD (some k) = .int (k : Int) := id rfl
@[simp] theorem own_o (x) : (oD x).own = false := by cases x <;> rfl
@[simp] theorem frz_o (x) : (oD x).frz = oD x := by cases x <;> rfl
@[simp] theorem isNon_o (x) : (oD x).isNon = x.isNone := by cases x <;> rfl
@[simp] theorem dat_o (n x) : (oD x).dat n = true := by cases x <;> simp [oD, D.dat]
@[simp] theorem eqv_o (a b : Option Nat) : (oD a).eqv (oD b) = decide (a = b) := by
  cases a <;> cases b <;> simp [oD] <;> rfl
@[simp] theorem eq_o (a b : Option Nat) : cmpop .eq (oD a) (oD b) = some (decide (a = b)) := by rw [cEq (by simp) (by simp), eqv_o]
@[simp] theorem ne_o (a b : Option Nat) : cmpop .ne (oD a) (oD b) = some (!decide (a = b)) := by rw [cNe (by simp) (by simp), eqv_o]
abbrev Row := List (Option Nat)
def rowD (r : Row) : D := .tup (r.map oD)
def tbD (t : List Row) : D := .tup (t.map rowD)
structure TbOk (k : Nat) (t : List Row) : Prop where
  len : t.length = k
  row : ∀ r ∈ t, r.length = k
@[simp] theorem own_row (t) : (rowD t).own = false := id rfl
@[simp] theorem frz_row (t) : (rowD t).frz = rowD t := id rfl
@[simp] theorem own_tb (t) : (tbD t).own = false := id rfl
@[simp] theorem frz_tb (t) : (tbD t).frz = tbD t := id rfl
@[simp] theorem src_row (l e) : src (.val (rowD l)) e = .ok (1, l.map oD, .val (rowD l)) e := id rfl
@[simp] theorem src_tb (l e) : src (.val (tbD l)) e = .ok (1, l.map rowD, .val (tbD l)) e := id rfl
@[simp] theorem idx_row (t : T) (l : Row) (i : Nat) (h : i < l.length) : idxD t (.int (i : Int)) (rowD l) = some (.val (oD (nth l i))) := idx_tupN t l oD i h
@[simp] theorem idx_tb (t : T) (l : List Row) (i : Nat) (h : i < l.length) : idxD t (.int (i : Int)) (tbD l) = some (.val (rowD (nth l i))) := idx_tupN t l rowD i h
@[simp] theorem len_row (l) : lenD (rowD l) = some l.length := by simp [rowD]
@[simp] theorem len_tb (l) : lenD (tbD l) = some l.length := by simp [tbD]
@[simp] theorem isNon_row (t) : (rowD t).isNon = false := id rfl
@[simp] theorem isNon_tb (t) : (tbD t).isNon = false := id rfl
@[simp] theorem dat_row (n l) : (rowD l).dat (n + 1) = true := by rw [rowD, D.dat]; exact dats_map n oD (dat_o n) l
@[simp] theorem dat_tb (n l) : (tbD l).dat (n + 2) = true := by rw [tbD, D.dat]; exact dats_map _ rowD (dat_row n) l
@[simp] theorem eqv_row (a b : Row) : (rowD a).eqv (rowD b) = decide (a = b) := by rw [rowD, rowD, D.eqv]; exact eqvs_map oD eqv_o a b
@[simp] theorem eqv_tb (a b : List Row) : (tbD a).eqv (tbD b) = decide (a = b) := by rw [tbD, tbD, D.eqv]; exact eqvs_map rowD eqv_row a b
@[simp] theorem eq_row (a b : Row) : cmpop .eq (rowD a) (rowD b) = some (decide (a = b)) := by rw [cEq (by simp) (by simp), eqv_row]
@[simp] theorem eq_tb (a b : List Row) : cmpop .eq (tbD a) (tbD b) = some (decide (a = b)) := by rw [cEq (by simp) (by simp), eqv_tb]
@[simp] theorem ne_row (a b : Row) : cmpop .ne (rowD a) (rowD b) = some (!decide (a = b)) := by rw [cNe (by simp) (by simp), eqv_row]
@[simp] theorem ne_tb (a b : List Row) : cmpop .ne (tbD a) (tbD b) = some (!decide (a = b)) := by rw [cNe (by simp) (by simp), eqv_tb]
@[simp] theorem add_row (l : Row) (x) (h : l.length < sizeL) : binop .add (rowD l) (.tup [oD x]) = some (rowD (l ++ [x])) := by
  have : l.length + 1 ≤ sizeL := h
  simp [rowD, binop, this]
@[simp] theorem add_row0 (l : Row) (h : l.length < sizeL) : binop .add (rowD l) (.tup [.non]) = some (rowD (l ++ [none])) := add_row l none h
@[simp] theorem add_row1 (l : Row) (k : Nat) (h : l.length < sizeL) : binop .add (rowD l) (.tup [.int (k : Int)]) = some (rowD (l ++ [some k])) := add_row l (some k) h
@[simp] theorem ty_tb (a) : tyD (tbD a) = some 4 := id rfl
@[simp] theorem ty_row (a) : tyD (rowD a) = some 4 := id rfl
@[simp] theorem ty_ns (a) : tyD (nsD a) = some 4 := id rfl
@[simp] theorem castEq (i j : Nat) : ((i : Int) = (j : Int)) = (i = j) := propext Int.natCast_inj
/-! prices -/
def omin : Option Nat → Option Nat → Option Nat
  | none, b => b
  | some a, none => some a
  | some a, some b => some (min a b)
def oadd : Option Nat → Option Nat → Option Nat
  | some a, some b => some (a + b)
  | _, _ => none
@[simp] theorem omin_none (b) : omin none b = b := id rfl
@[simp] theorem omin_none' (a) : omin a none = a := by cases a <;> rfl
@[simp] theorem oadd_none (b) : oadd none b = none := id rfl
@[simp] theorem oadd_none' (a) : oadd a none = none := by cases a <;> rfl
@[simp] theorem oadd_some (a b) : oadd (some a) (some b) = some (a + b) := id rfl
theorem omin_some (a b : Nat) : omin (some a) (some b) = some (min a b) := id rfl
variable {fns : Nat → Option Fn} {n : Nat}
@[simp] theorem lesser_c [Has fns 42 fn42] (a b : Option Nat) : call 10000000000000000 fns (n + 1) 42 [oD a, oD b] = .ret (oD (omin a b)) [oD a, oD b] := by
  refine call_eq rfl ?_
  cases a <;> cases b <;> simp [fn42, ir42, lentIx]
  rename_i a b
  by_cases h : a ≤ b
  · simp [h, omin_some, Nat.min_eq_left h]
  · simp [h, omin_some, Nat.min_eq_right (Nat.le_of_not_le h)]
@[simp] theorem both_c [Has fns 43 fn43] (a b : Option Nat) : call 10000000000000000 fns (n + 1) 43 [oD a, oD b] = .ret (oD (oadd a b)) [oD a, oD b] := by
  refine call_eq rfl ?_
  cases a <;> cases b <;> simp [fn43, ir43, lentIx]
@[simp] theorem both_c1 [Has fns 43 fn43] (a : Nat) (b : Option Nat) : call 10000000000000000 fns (n + 1) 43 [.int (a : Int), oD b] = .ret (oD (oadd (some a) b)) [.int (a : Int), oD b] := both_c (some a) b
/-- the place i, j of a product of a row with a table -/
def rAt (k : Nat) (r : Row) (t : List Row) (j : Nat) : Option Nat := (List.range k).foldl (fun a i => omin a (oadd (nth r i) (nth (nth t i) j))) none
def rBy (k : Nat) (r : Row) (t : List Row) : Row := (List.range k).map (rAt k r t)
def tMul (k : Nat) (a b : List Row) : List Row := a.map fun r => rBy k r b
@[simp] theorem rBy_len (k r t) : (rBy k r t).length = k := by simp [rBy]
theorem zip_range {α β : Type} [Inhabited α] [Inhabited β] {k : Nat} {a : List α} {b : List β} (ha : a.length = k) (hb : b.length = k) : a.zip b = (List.range k).map fun i => (nth a i, nth b i) := by
  apply List.ext_getElem
  · simp [ha, hb]
  · intro i h1 h2
    have h3 : i < k := by simp [ha, hb] at h1; omega
    simp [nth_get (show i < a.length by omega), nth_get (show i < b.length by omega)]
def rStep (s : Row) (p : Option Nat × Row) : Row := (s.zip p.2).map fun q => omin q.1 (oadd p.1 q.2)
@[simp] theorem nth_map_range {α : Type} [Inhabited α] {k i : Nat} (f : Nat → α) (h : i < k) : nth ((List.range k).map f) i = f i := by
  rw [nth_get (by simpa using h)]; simp
end LT.K
namespace LT.K
open LT
variable {fns : Nat → Option Fn} {n : Nat}
/-- the plain table -/
def tOne (k : Nat) : List Row := (List.range k).map fun i => (List.range k).map fun j => if i = j then some 0 else none
end LT.K
namespace LT.K
open LT
variable {fns : Nat → Option Fn} {n : Nat}
@[simp] theorem dat_sgs (n : Nat) (t) : (sgsD t).dat (n + 2) = true := by rw [sgsD, D.dat]; exact dats_map _ nsD (dat_ns n) t
@[simp] theorem eqv_sgs (a b : List (List Nat)) : (sgsD a).eqv (sgsD b) = decide (a = b) := by rw [sgsD, sgsD, D.eqv]; exact eqvs_map nsD eqv_ns a b
@[simp] theorem eq_sgs (a b) : cmpop .eq (sgsD a) (sgsD b) = some (decide (a = b)) := by rw [cEq (by simp) (by simp), eqv_sgs]
@[simp] theorem ne_sgs (a b) : cmpop .ne (sgsD a) (sgsD b) = some (!decide (a = b)) := by rw [cNe (by simp) (by simp), eqv_sgs]
@[simp] theorem ty_sgs (a) : tyD (sgsD a) = some 4 := id rfl
@[simp] theorem isNon_sgs (a) : (sgsD a).isNon = false := id rfl
/-- a sign -/
def sg : Option Nat → Nat
  | none => 3
  | some 0 => 0
  | some _ => 1
@[simp] theorem sign_of_c [Has fns 99 fn99] (x : Option Nat) : call 10000000000000000 fns (n + 1) 99 [oD x] = .ret (.int (sg x : Int)) [oD x] := by
  refine call_eq rfl ?_
  rcases x with _ | _ | x
  · simp [fn99, ir99, lentIx]; rfl
  · simp [fn99, ir99, lentIx]; rfl
  · have : ¬ ((x : Int) + 1 = 0) := by omega
    simp [fn99, ir99, lentIx, this]; rfl
def rdg (t : List Row) : List (List Nat) := t.map fun r => r.map sg
def sOne (k : Nat) : List (List Nat) := (List.range k).map fun i => (List.range k).map fun j => if i = j then 0 else 3
theorem sOne_ok (k) : SgsOk k (sOne k) := ⟨by simp [sOne], fun l m => by
  obtain ⟨i, _, rfl⟩ := List.mem_map.mp m
  refine ⟨by simp, fun x m => ?_⟩
  obtain ⟨j, _, rfl⟩ := List.mem_map.mp m
  split <;> omega⟩
@[simp] theorem due107 [Has fns 107 fn107] (x : Option Nat) : call 10000000000000000 fns (n + 1) 107 [oD x] = .ret (.int (sg x : Int)) [oD x] := by
  refine call_eq rfl ?_
  rcases x with _ | _ | x
  · simp [fn107, ir107, lentIx]; rfl
  · simp [fn107, ir107, lentIx]; rfl
  · have : 0 < (x : Int) + 1 := by omega
    simp [fn107, ir107, lentIx, this]; rfl
end LT.K
/-! PSg: products of sign tables -/
namespace LT.K
open LT
variable {fns : Nat → Option Fn} {n : Nat}
@[simp 20000] theorem idx_lstN (t : T) (o : Bool) (l : List Nat) (i : Nat) (h : i < l.length) : idxD t (.int (i : Int)) (.lst o (l.map nD)) = some (.val (.int ((nth l i : Nat) : Int))) := by
  rw [nth_get h]
  simp [h, idxD, kidT]
/-- the place j of a row of signs led on -/
def wAt (k : Nat) (l : List Nat) (t : List (List Nat)) (j : Nat) : Nat := (List.range k).foldl (fun a i => min a (max (nth l i) (nth (nth t i) j))) 3
def sRow (k : Nat) (l : List Nat) (t : List (List Nat)) : List Nat := (List.range k).map (wAt k l t)
def sMul (k : Nat) (a b : List (List Nat)) : List (List Nat) := a.map fun l => sRow k l b
theorem foldmin_le {α : Type} (f : α → Nat) (v : Nat) : ∀ (xs : List α) (a : Nat), xs.foldl (fun a i => min a (f i)) a ≤ v ↔ a ≤ v ∨ ∃ i ∈ xs, f i ≤ v
  | [], a => by simp
  | x :: xs, a => by
    rw [List.foldl_cons, foldmin_le f v xs]
    simp only [List.mem_cons, exists_eq_or_imp]
    constructor
    · rintro (h | h)
      · by_cases h1 : a ≤ v
        · exact .inl h1
        · exact .inr (.inl (by omega))
      · exact .inr (.inr h)
    · rintro (h | h | h)
      · exact .inl (by omega)
      · exact .inl (by omega)
      · exact .inr h
theorem wAt_le (k l t j v) : wAt k l t j ≤ v ↔ 3 ≤ v ∨ ∃ i, i < k ∧ nth l i ≤ v ∧ nth (nth t i) j ≤ v := by
  unfold wAt
  rw [foldmin_le]
  simp [Nat.max_le]
theorem wAt_le3 (k l t j) : wAt k l t j ≤ 3 := (wAt_le ..).mpr (.inl (Nat.le_refl _))
theorem le_ext {a b : Nat} (h : ∀ v, a ≤ v ↔ b ≤ v) : a = b := Nat.le_antisymm ((h b).mpr (Nat.le_refl _)) ((h a).mp (Nat.le_refl _))
theorem sRow_ok (k l t) : SgRow k (sRow k l t) := ⟨by simp [sRow], fun x m => by
  obtain ⟨j, _, rfl⟩ := List.mem_map.mp m
  exact wAt_le3 ..⟩
theorem sMul_ok {k a} (b) (h : SgsOk k a) : SgsOk k (sMul k a b) := ⟨by simp [sMul, h.len], fun l m => by
  obtain ⟨x, _, rfl⟩ := List.mem_map.mp m
  exact sRow_ok ..⟩
theorem row_ext {k : Nat} {a b : List Nat} (ha : a.length = k) (hb : b.length = k) (h : ∀ i, i < k → nth a i = nth b i) : a = b := by
  apply List.ext_getElem (by rw [ha, hb])
  intro i h1 h2
  have := h i (by omega)
  rwa [nth_get h1, nth_get h2] at this
theorem sgs_ext {k : Nat} {a b : List (List Nat)} (ha : SgsOk k a) (hb : SgsOk k b) (h : ∀ i j, i < k → j < k → nth (nth a i) j = nth (nth b i) j) : a = b := by
  apply List.ext_getElem (by rw [ha.len, hb.len])
  intro i h1 h2
  have h3 : i < k := by rw [← ha.len]; exact h1
  rw [← nth_get h1, ← nth_get h2]
  exact row_ext (ha.nth h3).len (hb.nth h3).len fun j hj => h i j h3 hj
theorem nth_map {α β : Type} [Inhabited α] [Inhabited β] (f : α → β) {l : List α} {i : Nat} (h : i < l.length) : nth (l.map f) i = f (nth l i) := by
  rw [nth_get (by simpa using h), nth_get h]; simp
/-- the place i, j -/
def at2 (t : List (List Nat)) (i j : Nat) : Nat := nth (nth t i) j
theorem at_mul {k a b i j} (ha : a.length = k) (hi : i < k) (hj : j < k) : at2 (sMul k a b) i j = wAt k (nth a i) b j := by
  unfold at2 sMul
  rw [nth_map _ (by omega)]
  exact nth_map_range _ hj
theorem mul_le {k a b i j v} (ha : a.length = k) (hi : i < k) (hj : j < k) : at2 (sMul k a b) i j ≤ v ↔ 3 ≤ v ∨ ∃ m, m < k ∧ at2 a i m ≤ v ∧ at2 b m j ≤ v := by
  rw [at_mul ha hi hj]; exact wAt_le ..
theorem at_le3 {k a i j} (ha : SgsOk k a) (hi : i < k) (hj : j < k) : at2 a i j ≤ 3 := (ha.nth hi).le _ (nth_mem (by rw [(ha.nth hi).len]; exact hj))
theorem mul_assoc' {k a b c} (ha : SgsOk k a) (hb : SgsOk k b) (hc : SgsOk k c) : sMul k (sMul k a b) c = sMul k a (sMul k b c) := by
  refine sgs_ext (sMul_ok _ (sMul_ok _ ha)) (sMul_ok _ ha) fun i j hi hj => le_ext fun v => ?_
  show at2 _ i j ≤ v ↔ at2 _ i j ≤ v
  rw [mul_le (sMul_ok b ha).len hi hj, mul_le ha.len hi hj]
  constructor
  · rintro (h | ⟨m, hm, h1, h2⟩)
    · exact .inl h
    · rcases (mul_le ha.len hi hm).mp h1 with h | ⟨p, hp, h3, h4⟩
      · exact .inl h
      · exact .inr ⟨p, hp, h3, (mul_le hb.len hp hj).mpr (.inr ⟨m, hm, h4, h2⟩)⟩
  · rintro (h | ⟨p, hp, h3, h4⟩)
    · exact .inl h
    · rcases (mul_le hb.len hp hj).mp h4 with h | ⟨m, hm, h5, h2⟩
      · exact .inl h
      · exact .inr ⟨m, hm, (mul_le ha.len hi hm).mpr (.inr ⟨p, hp, h3, h5⟩), h2⟩
theorem at_one {k i j} (hi : i < k) (hj : j < k) : at2 (sOne k) i j = if i = j then 0 else 3 := by
  unfold at2 sOne
  rw [nth_map_range _ hi]
  exact nth_map_range _ hj
theorem mul_one' {k a} (ha : SgsOk k a) : sMul k a (sOne k) = a := by
  refine sgs_ext (sMul_ok _ ha) ha fun i j hi hj => le_ext fun v => ?_
  show at2 _ i j ≤ v ↔ at2 _ i j ≤ v
  rw [mul_le ha.len hi hj]
  constructor
  · rintro (h | ⟨m, hm, h1, h2⟩)
    · exact Nat.le_trans (at_le3 ha hi hj) h
    · rw [at_one hm hj] at h2
      by_cases e : m = j
      · subst e; exact h1
      · rw [if_neg e] at h2; exact Nat.le_trans (at_le3 ha hi hj) h2
  · exact fun h => .inr ⟨j, hj, h, by rw [at_one hj hj, if_pos rfl]; omega⟩
/-! signs of prices -/
def ole (x : Option Nat) (v : Nat) : Prop := ∃ y, x = some y ∧ y ≤ v
def tat (t : List Row) (i j : Nat) : Option Nat := nth (nth t i) j
theorem minL_nat (x : Nat) (xs : List Nat) : minL (x : Int) (xs.map fun (k : Nat) => (k : Int)) = ((xs.foldl min x : Nat) : Int) := by
  induction xs generalizing x with
  | nil => rfl
  | cons y ys ih =>
    simp only [List.map_cons, minL, List.foldl_cons]
    rw [← ih]
    congr 1
    split <;> omega
theorem allInt_nat (xs : List Nat) : allInt (xs.map nD) = some (xs.map fun (k : Nat) => (k : Int)) := by
  induction xs with
  | nil => rfl
  | cons x xs ih => simp [allInt, ih]
theorem bi_min1 (o : Bool) (x : Nat) (xs : List Nat) : bi .min1 [.lst o ((x :: xs).map nD)] = some (.int ((xs.foldl min x : Nat) : Int)) := by
  unfold bi
  dsimp only
  rw [allInt_nat, List.map_cons]
  dsimp only
  rw [minL_nat]
theorem bi_min1' (o : Bool) (xs : List Nat) (h0 : xs ≠ []) (h : ∀ x ∈ xs, x ≤ 3) : bi .min1 [.lst o (xs.map nD)] = some (.int ((xs.foldl min 3 : Nat) : Int)) := by
  cases xs with
  | nil => exact absurd rfl h0
  | cons x xs => rw [bi_min1, List.foldl_cons, Nat.min_eq_right (h x List.mem_cons_self)]
theorem best_way_c [Has fns 109 fn109] {k : Nat} (l : List Nat) (t : List (List Nat)) (j : Nat) (k1 : 1 ≤ k) (k5 : k ≤ 5) (hj : j < k) (hl : SgRow k l) (ht : SgsOk k t) : call 10000000000000000 fns (n + 1) 109 [nsD l, sgsD t, .int (j : Int)] = .ret (.int (wAt k l t j : Int)) [nsD l, sgsD t, .int (j : Int)] := by
  refine call_eq rfl ?_
  have e1 : (l.map nD).zip (t.map nsD) = (l.zip t).map fun p => (nD p.1, nsD p.2) := by rw [List.zip_map]; rfl
  simp [fn109, ir109, lentIx, e1, Function.comp_def]
  rw [lc_map (l.zip t) (fun p => D.tup [nD p.1, nsD p.2]) (fun p => nD (max p.1 (nth p.2 j))) rfl (by simp) (fun p hp => by
    have : j < p.2.length := by rw [(ht.row _ (List.of_mem_zip hp).2).len]; exact hj
    simp [lcT, c109_1, this]
    split <;> omega)]
  have e2 : (l.zip t).map (fun p => nD (max p.1 (nth p.2 j))) = ((l.zip t).map fun p => max p.1 (nth p.2 j)).map nD := by rw [List.map_map]; rfl
  have e3 : ((l.zip t).map fun p => max p.1 (nth p.2 j)).foldl min 3 = wAt k l t j := by
    rw [zip_range hl.len ht.len, List.map_map, List.foldl_map]; rfl
  have e4 := bi_min1' false ((l.zip t).map fun p => max p.1 (nth p.2 j)) (by
    intro h
    have := congrArg List.length h
    simp [hl.len, ht.len] at this
    omega) (fun x m => by
    obtain ⟨p, hp, rfl⟩ := List.mem_map.mp m
    have h1 := hl.le _ (List.of_mem_zip hp).1
    have h2 := (ht.row _ (List.of_mem_zip hp).2)
    have h3 := h2.le _ (nth_mem (i := j) (by rw [h2.len]; exact hj))
    omega)
  have hz : ((l.zip t).map fun p => max p.1 (nth p.2 j)).length ≤ sizeL := by
    rw [sizeL_val]; simp [hl.len, ht.len]; omega
  rw [e3] at e4
  rw [e2]
  generalize ((l.zip t).map fun p => max p.1 (nth p.2 j)) = ys at e4 hz
  simp [e4, frzs_map', hz]
theorem row_led_c [Has fns 109 fn109] [Has fns 110 fn110] {k : Nat} (l : List Nat) (t : List (List Nat)) (k1 : 1 ≤ k) (k5 : k ≤ 5) (hl : SgRow k l) (ht : SgsOk k t) : call 10000000000000000 fns (n + 2) 110 [nsD l, sgsD t] = .ret (nsD (sRow k l t)) [nsD l, sgsD t] := by
  refine call_eq rfl ?_
  have h6 : l.length < 4611686018427387904 := by have := hl.len; omega
  have hz : l.length ≤ sizeL := by rw [sizeL_val]; have := hl.len; omega
  simp [fn110, ir110, lentIx, h6]
  rw [lc_map (List.range l.length) nD (fun j => nD (wAt k l t j)) (rng_map _) (by simp) (fun j hj => by
    have e : ∀ n, call 10000000000000000 fns (n + 1) 109 [nsD l, sgsD t, .int (j : Int)] = _ := fun n => best_way_c (n := n) l t j k1 k5 (by rw [← hl.len]; simpa using hj) hl ht
    simp [lcT, c110_1, e])]
  simp [hz]
  simp [sRow, nsD, hl.len]
theorem sign_product_c [Has fns 109 fn109] [Has fns 110 fn110] [Has fns 111 fn111] {k : Nat} (a b : List (List Nat)) (k1 : 1 ≤ k) (k5 : k ≤ 5) (ha : SgsOk k a) (hb : SgsOk k b) : call 10000000000000000 fns (n + 3) 111 [sgsD a, sgsD b] = .ret (sgsD (sMul k a b)) [sgsD a, sgsD b] := by
  refine call_eq rfl ?_
  have hz : a.length ≤ sizeL := by rw [sizeL_val]; have := ha.len; omega
  simp [fn111, ir111, lentIx, hz]
  rw [lc_map a nsD (fun l => nsD (sRow k l b)) rfl (by simp) (fun l hl => by
    have e : ∀ n, call 10000000000000000 fns (n + 2) 110 [nsD l, sgsD b] = _ := fun n => row_led_c (n := n) l b k1 k5 (ha.row l hl) hb
    simp [lcT, c111_1, e])]
  simp [hz]
  simp [sMul, sgsD]
/-- the row when m rooms are gone through -/
def accW (k : Nat) (l : List Nat) (b : List (List Nat)) (m : Nat) : List Nat := (List.range k).map fun j => upto (fun a i => min a (max (nth l i) (nth (nth b i) j))) 3 m
end LT.K
namespace LT.K
open LT
variable {fns : Nat → Option Fn} {n : Nat}
end LT.K
namespace LT.K
open LT
variable {fns : Nat → Option Fn} {n : Nat}
def sPow (k : Nat) (a : List (List Nat)) : Nat → List (List Nat)
  | 0 => sOne k
  | m + 1 => sMul k (sPow k a m) a
theorem sPow_ok {k a} (ha : SgsOk k a) : ∀ m, SgsOk k (sPow k a m)
  | 0 => sOne_ok k
  | m + 1 => sMul_ok _ (sPow_ok ha m)
theorem sPow_add {k a} (ha : SgsOk k a) (m : Nat) : ∀ p, sPow k a (m + p) = sMul k (sPow k a m) (sPow k a p)
  | 0 => (mul_one' (sPow_ok ha m)).symm
  | p + 1 => by
    rw [← Nat.add_assoc]
    show sMul k (sPow k a (m + p)) a = sMul k _ (sMul k (sPow k a p) a)
    rw [sPow_add ha m p, mul_assoc' (sPow_ok ha m) (sPow_ok ha p) ha]
def pwI (k : Nat) (a : List (List Nat)) (m j : Nat) (e : Env) : Prop := ∃ (m' : Nat) (f s : List (List Nat)), m' < 2 ^ j ∧ SgsOk k f ∧ SgsOk k s ∧ sMul k f (sPow k s m') = sPow k a m ∧ e = [some (sgsD s), some (.int (m' : Int)), some (sgsD f)]
/-! lists of things of one kind -/
@[simp] theorem ixOf_m1 (n : Nat) (h : 0 < n) : ixOf n (-1) = some (n - 1) := by
  unfold ixOf
  rw [if_neg (by omega), if_pos (by omega)]
  congr 1
  omega
theorem idx_lstG {α : Type} [Inhabited α] (t : T) (o : Bool) (g : α → D) (l : List α) (i : Nat) (h : i < l.length) (hg : ∀ x, (g x).own = false) : idxD t (.int (i : Int)) (.lst o (l.map g)) = some (.val (g (nth l i))) := by
  rw [nth_get h]
  simp [h, idxD, kidT, hg]
theorem idx_lstL {α : Type} [Inhabited α] (t : T) (o : Bool) (g : α → D) (l : List α) (h : 0 < l.length) (hg : ∀ x, (g x).own = false) : idxD t (.int (-1)) (.lst o (l.map g)) = some (.val (g (nth l (l.length - 1)))) := by
  have h2 : l.length - 1 < l.length := by omega
  rw [nth_get h2]
  simp [h, h2, idxD, kidT, hg]
theorem inn_lst {α : Type} [DecidableEq α] (o : Bool) (g : α → D) (l : List α) (x : α) (hd : ∀ x n, (g x).dat (n + 3) = true) (he : ∀ x y, (g x).eqv (g y) = decide (x = y)) : cmpop .inn (g x) (.lst o (l.map g)) = some (decide (x ∈ l)) := by
  have h2 : dats 60 (l.map g) = true := dats_map 60 g (fun x => hd x 57) l
  simp only [cmpop]
  unfold inop
  dsimp only
  rw [hd x 57, h2]
  simp only [Bool.and_self, if_true]
  congr 1
  rw [Bool.eq_iff_iff]
  simp [he]
theorem dat_sgs3 (x : List (List Nat)) (n : Nat) : (sgsD x).dat (n + 3) = true := dat_sgs (n + 1) x
@[simp] theorem inn_sgs (o) (l : List (List (List Nat))) (x) : cmpop .inn (sgsD x) (.lst o (l.map sgsD)) = some (decide (x ∈ l)) := by
  rw [inn_lst o sgsD l x dat_sgs3 eqv_sgs]
  congr 1
  rw [Bool.eq_iff_iff]
  simp
@[simp 20000] theorem idx_sgsN (t o) (l : List (List (List Nat))) (i : Nat) (h : i < l.length) : idxD t (.int (i : Int)) (.lst o (l.map sgsD)) = some (.val (sgsD (nth l i))) := idx_lstG t o sgsD l i h own_sgs
@[simp 20000] theorem idx_sgsL (t o) (l : List (List (List Nat))) (h : 0 < l.length) : idxD t (.int (-1)) (.lst o (l.map sgsD)) = some (.val (sgsD (nth l (l.length - 1)))) := idx_lstL t o sgsD l h own_sgs
/-! tables are not many -/
theorem pig : ∀ (B : Nat) (l : List Nat), l.Nodup → (∀ x ∈ l, x < B) → l.length ≤ B
  | 0, [], _, _ => Nat.le_refl _
  | 0, x :: l, _, h => absurd (h x List.mem_cons_self) (by omega)
  | B + 1, l, hn, h => by
    by_cases hm : B ∈ l
    · have h1 := pig B (l.erase B) (hn.erase B) (fun x m => by
        have h2 := (List.Nodup.mem_erase_iff hn).mp m
        have := h x h2.2
        have := h2.1
        omega)
      rw [List.length_erase_of_mem hm] at h1
      omega
    · have h1 := pig B l hn (fun x m => by
        have := h x m
        have : x ≠ B := fun e => hm (e ▸ m)
        omega)
      omega
theorem not_nodup {α : Type} [DecidableEq α] {l : List α} (h : ¬ l.Nodup) : ∃ i j : Nat, i < j ∧ j < l.length ∧ l[i]? = l[j]? := by
  induction l with
  | nil => exact absurd List.nodup_nil h
  | cons x l ih =>
    rw [List.nodup_cons] at h
    by_cases hm : x ∈ l
    · obtain ⟨j, hj, e⟩ := List.getElem_of_mem hm
      exact ⟨0, j + 1, by omega, by simpa using hj, by simp [List.getElem?_eq_getElem hj, e]⟩
    · obtain ⟨i, j, h1, h2, h3⟩ := ih fun hn => h ⟨hm, hn⟩
      exact ⟨i + 1, j + 1, by omega, by simpa using h2, by simpa using h3⟩
/-- a walk of so many steps -/
theorem walk_split {k a} (ha : SgsOk k a) {v m p i j : Nat} (hv : v < 3) (hi : i < k) (hj : j < k) : at2 (sPow k a (m + p)) i j ≤ v ↔ ∃ x, x < k ∧ at2 (sPow k a m) i x ≤ v ∧ at2 (sPow k a p) x j ≤ v := by
  rw [sPow_add ha, mul_le (sPow_ok ha m).len hi hj]
  constructor
  · rintro (h | h)
    · omega
    · exact h
  · exact .inr
theorem walk_cat {k a} (ha : SgsOk k a) {v m p i x j : Nat} (hv : v < 3) (hi : i < k) (hj : j < k) (hx : x < k) (h1 : at2 (sPow k a m) i x ≤ v) (h2 : at2 (sPow k a p) x j ≤ v) : at2 (sPow k a (m + p)) i j ≤ v := (walk_split ha hv hi hj).mpr ⟨x, hx, h1, h2⟩
theorem walk_zero {k a v i} (hi : i < k) : at2 (sPow k a 0) i i ≤ v := by
  show at2 (sOne k) i i ≤ v
  rw [at_one hi hi, if_pos rfl]; omega
theorem walk_pump {k a} (ha : SgsOk k a) {v c x : Nat} (hv : v < 3) (hx : x < k) (h : at2 (sPow k a c) x x ≤ v) : ∀ q, at2 (sPow k a (q * c)) x x ≤ v
  | 0 => by rw [Nat.zero_mul]; exact walk_zero hx
  | q + 1 => by rw [Nat.succ_mul]; exact walk_cat ha hv hx hx hx (walk_pump ha hv hx h q) h
/-- the rooms of a walk -/
theorem walk_rooms {k a} (ha : SgsOk k a) {v : Nat} (hv : v < 3) : ∀ (m : Nat) {i j : Nat}, i < k → j < k → at2 (sPow k a m) i j ≤ v → ∃ f : Nat → Nat, f 0 = i ∧ f m = j ∧ (∀ s, f s < k) ∧ ∀ s t, s ≤ t → t ≤ m → at2 (sPow k a (t - s)) (f s) (f t) ≤ v
  | 0, i, j, hi, hj, h => by
    have e : i = j := by
      have h2 : at2 (sOne k) i j ≤ v := h
      rw [at_one hi hj] at h2
      by_cases e : i = j
      · exact e
      · rw [if_neg e] at h2; omega
    subst e
    refine ⟨fun _ => i, rfl, rfl, fun _ => hi, fun s t h1 h2 => ?_⟩
    rw [show t - s = 0 by omega]
    exact walk_zero hi
  | m + 1, i, j, hi, hj, h => by
    obtain ⟨x, hx, h1, h2⟩ := (walk_split ha hv hi hj).mp h
    obtain ⟨f, f0, f1, f2, f3⟩ := walk_rooms ha hv m hi hx h1
    refine ⟨fun s => if s ≤ m then f s else j, ?_, ?_, fun s => ?_, fun s t g1 g2 => ?_⟩
    · dsimp only; rw [if_pos (by omega)]; exact f0
    · dsimp only; rw [if_neg (by omega)]
    · dsimp only; split
      · exact f2 s
      · exact hj
    · dsimp only
      by_cases ht : t ≤ m
      · rw [if_pos (by omega), if_pos ht]; exact f3 s t g1 ht
      · have et : t = m + 1 := by omega
        subst et
        by_cases hs : s ≤ m
        · rw [if_pos hs, if_neg (by omega)]
          have g3 := f3 s m hs (Nat.le_refl _)
          rw [f1] at g3
          rw [show m + 1 - s = (m - s) + 1 by omega]
          exact walk_cat ha hv (f2 s) hj hx g3 h2
        · rw [if_neg hs, if_neg (by omega), show m + 1 - s = 0 by omega]
          exact walk_zero hj
/-- sixty steps more lead at least as far -/
theorem pow_sixty {k a} (ha : SgsOk k a) (k5 : k ≤ 5) {m i j : Nat} (hm : k ≤ m) (hi : i < k) (hj : j < k) : at2 (sPow k a (m + 60)) i j ≤ at2 (sPow k a m) i j := by
  by_cases hv : at2 (sPow k a m) i j < 3
  · obtain ⟨f, f0, f1, f2, f3⟩ := walk_rooms ha hv m hi hj (Nat.le_refl _)
    generalize at2 (sPow k a m) i j = v at *
    have hn : ¬ ((List.range (k + 1)).map f).Nodup := fun hn => by
      have := pig k _ hn (fun x hx => by
        obtain ⟨y, _, rfl⟩ := List.mem_map.mp hx
        exact f2 y)
      simp at this
      omega
    obtain ⟨s, t, h1, h2, h3⟩ := not_nodup hn
    simp at h2
    have e : f s = f t := by
      rw [List.getElem?_map, List.getElem?_map, List.getElem?_range (by omega), List.getElem?_range (by omega)] at h3
      simpa using h3
    have c1 := f3 0 s (by omega) (by omega)
    have c2 := f3 s t (by omega) (by omega)
    have c3 := f3 t m (by omega) (Nat.le_refl _)
    rw [f0, Nat.sub_zero] at c1
    rw [f1, ← e] at c3
    rw [← e] at c2
    have c4 : ∃ q, q * (t - s) = 60 := by
      have : t - s = 1 ∨ t - s = 2 ∨ t - s = 3 ∨ t - s = 4 ∨ t - s = 5 := by omega
      rcases this with h | h | h | h | h <;> rw [h]
      · exact ⟨60, rfl⟩
      · exact ⟨30, rfl⟩
      · exact ⟨20, rfl⟩
      · exact ⟨15, rfl⟩
      · exact ⟨12, rfl⟩
    obtain ⟨q, hq⟩ := c4
    have c5 := walk_pump ha hv (f2 s) c2 q
    rw [hq] at c5
    have c6 := walk_cat ha hv hi (f2 s) (f2 s) c1 (walk_cat ha hv (f2 s) (f2 s) (f2 s) c2 c5)
    have c7 := walk_cat ha hv hi hj (f2 s) c6 c3
    rw [show s + (t - s + 60) + (m - t) = m + 60 by omega] at c7
    exact c7
  · have := at_le3 (sPow_ok ha (m + 60)) hi hj
    omega
def sm (f : Nat → Nat) : Nat → Nat
  | 0 => 0
  | k + 1 => sm f k + f k
theorem sm_le {f g : Nat → Nat} : ∀ {k : Nat}, (∀ i, i < k → f i ≤ g i) → sm f k ≤ sm g k
  | 0, _ => Nat.le_refl _
  | k + 1, h => Nat.add_le_add (sm_le fun i hi => h i (by omega)) (h k (by omega))
theorem sm_eq {f g : Nat → Nat} : ∀ {k : Nat}, (∀ i, i < k → f i ≤ g i) → sm g k ≤ sm f k → ∀ i, i < k → f i = g i
  | 0, _, _, i, hi => by omega
  | k + 1, h, he, i, hi => by
    have h1 := sm_le (k := k) fun i hi => h i (by omega)
    have h2 := h k (by omega)
    simp only [sm] at he
    by_cases e : i = k
    · subst e; omega
    · exact sm_eq (k := k) (fun i hi => h i (by omega)) (by omega) i (by omega)
theorem sm_const (c : Nat) : ∀ k, sm (fun _ => c) k = c * k
  | 0 => by simp [sm]
  | k + 1 => by rw [sm, sm_const c k, Nat.mul_succ]
def tot (k : Nat) (t : List (List Nat)) : Nat := sm (fun i => sm (fun j => at2 t i j) k) k
theorem tot_le {k t} (h : SgsOk k t) : tot k t ≤ 3 * k * k := by
  have h1 : tot k t ≤ sm (fun _ => 3 * k) k := sm_le fun i hi => by
    rw [← sm_const]
    exact sm_le fun j hj => at_le3 h hi hj
  rwa [sm_const] at h1
theorem tot_eq {k a b} (ha : SgsOk k a) (hb : SgsOk k b) (h : ∀ i j, i < k → j < k → at2 a i j ≤ at2 b i j) (h2 : tot k b ≤ tot k a) : a = b := by
  refine sgs_ext ha hb fun i j hi hj => ?_
  have h3 := sm_eq (fun i hi => sm_le fun j hj => h i j hi hj) h2 i hi
  exact sm_eq (fun j hj => h i j hi hj) (Nat.le_of_eq h3.symm) j hj
theorem pow_again {k a} (ha : SgsOk k a) (k5 : k ≤ 5) : ∃ q, q ≤ 75 ∧ sPow k a (5 + 60 * (q + 1)) = sPow k a (5 + 60 * q) := by
  refine Classical.byContradiction fun hn => ?_
  have go : ∀ q, q ≤ 76 → tot k (sPow k a (5 + 60 * q)) + q ≤ 75 := by
    intro q
    induction q with
    | zero =>
      intro _
      have h1 := tot_le (sPow_ok ha (5 + 60 * 0))
      have h2 : 3 * k * k ≤ 3 * 5 * 5 := Nat.mul_le_mul (Nat.mul_le_mul (Nat.le_refl _) k5) k5
      omega
    | succ q ih =>
      intro hq
      have h1 := ih (by omega)
      have h2 : ¬ tot k (sPow k a (5 + 60 * q)) ≤ tot k (sPow k a (5 + 60 * (q + 1))) := fun h => hn ⟨q, by omega, tot_eq (sPow_ok ha _) (sPow_ok ha _) (fun i j hi hj => by
        rw [show 5 + 60 * (q + 1) = 5 + 60 * q + 60 by omega]
        exact pow_sixty ha k5 (by omega) hi hj) h⟩
      omega
  have := go 76 (Nat.le_refl _)
  omega
end LT.K
namespace LT.K
open LT
variable {fns : Nat → Option Fn} {n : Nat}
/-- the first i powers -/
def pows (k : Nat) (a : List (List Nat)) (i : Nat) : List (List (List Nat)) := (List.range i).map (sPow k a)
@[simp] theorem pows_len (k a i) : (pows k a i).length = i := by simp [pows]
def rdI (k : Nat) (a : List (List Nat)) (j : Nat) (e : Env) : Prop := ∃ (i : Nat) (s : Option D), i + j = 4566 ∧ 1 ≤ i ∧ (pows k a i).Nodup ∧ e = [some (sgsD a), some (.lst true ((pows k a i).map sgsD)), s]
theorem per_ {k L p : Nat} {a : List (List Nat)} (ha : SgsOk k a) (hp : p < L) (e : sPow k a L = sPow k a p) (x : Nat) : ∀ q, sPow k a (p + x + q * (L - p)) = sPow k a (p + x)
  | 0 => by simp
  | q + 1 => by
    rw [← per_ ha hp e x q]
    rw [show p + x + (q + 1) * (L - p) = L + (x + q * (L - p)) by rw [Nat.succ_mul]; omega, show p + x + q * (L - p) = p + (x + q * (L - p)) by omega, sPow_add ha, e, ← sPow_add ha]
end LT.K
namespace LT.K
open LT
variable {fns : Nat → Option Fn} {n : Nat}
/-- some power is steady -/
theorem steady_ex {k a} (ha : SgsOk k a) (k5 : k ≤ 5) : ∃ m, m ≤ 40000000 ∧ sMul k (sPow k a (m + 1)) (sPow k a (m + 1)) = sPow k a (m + 1) := by
  obtain ⟨q, hq, e⟩ := pow_again ha k5
  have hp : 5 + 60 * q < 5 + 60 * (q + 1) := by omega
  have e2 := per_ ha hp e
  rw [show 5 + 60 * (q + 1) - (5 + 60 * q) = 60 by omega] at e2
  obtain ⟨M, hM⟩ : ∃ M, M + 1 = 5 + 60 * q + 55 := ⟨59 + 60 * q, by omega⟩
  refine ⟨M, by omega, ?_⟩
  have e3 := e2 55 (q + 1)
  have h1 : 5 + 60 * q + 55 + (q + 1) * 60 = M + 1 + (M + 1) := by omega
  rw [h1, ← hM] at e3
  rw [← sPow_add ha]
  exact e3
def Stdy (k : Nat) (a : List (List Nat)) : Prop := sMul k a a = a
instance (k a) : Decidable (Stdy k a) := inferInstanceAs (Decidable (_ = _))
/-- .. and a least one is -/
theorem least_ex {P : Nat → Prop} [DecidablePred P] : ∀ (m : Nat), P m → ∃ x, x ≤ m ∧ P x ∧ ∀ y, y < x → ¬ P y := fun m => by
  induction m using Nat.strongRecOn with
  | _ m ih =>
    intro h
    by_cases h1 : ∃ y, y < m ∧ P y
    · obtain ⟨y, hy, py⟩ := h1
      obtain ⟨x, hx, r⟩ := ih y hy py
      exact ⟨x, by omega, r⟩
    · exact ⟨m, Nat.le_refl _, h, fun y hy py => h1 ⟨y, hy, py⟩⟩
theorem stN_ex (k : Nat) (a : List (List Nat)) : ∃ s, (SgsOk k a → k ≤ 5 → s ≤ 40000000 ∧ Stdy k (sPow k a (s + 1))) ∧ ∀ t, t < s → ¬ Stdy k (sPow k a (t + 1)) := by
  by_cases h : SgsOk k a ∧ k ≤ 5
  · obtain ⟨m, hm, e⟩ := steady_ex h.1 h.2
    obtain ⟨x, h1, h2, h3⟩ := least_ex (P := fun m => Stdy k (sPow k a (m + 1))) m e
    exact ⟨x, fun _ _ => ⟨by omega, h2⟩, h3⟩
  · exact ⟨0, fun h1 h2 => absurd ⟨h1, h2⟩ h, fun t ht => absurd ht (by omega)⟩
/-- how many times less one till it is steady -/
noncomputable def stN (k : Nat) (a : List (List Nat)) : Nat := (stN_ex k a).choose
noncomputable def stP (k : Nat) (a : List (List Nat)) : List (List Nat) := sPow k a (stN k a + 1)
noncomputable def stI (k : Nat) (a : List (List Nat)) (j : Nat) (e : Env) : Prop := j ≤ stN k a ∧ e = [some (sgsD a), some (.int ((stN k a + 1 - j : Nat) : Int)), some (sgsD (sPow k a (stN k a + 1 - j)))]
@[simp] theorem is_steady_c [Has fns 109 fn109] [Has fns 110 fn110] [Has fns 111 fn111] [Has fns 123 fn123] {k : Nat} (a : List (List Nat)) (k1 : 1 ≤ k) (k5 : k ≤ 5) (ha : SgsOk k a) : call 10000000000000000 fns (n + 4) 123 [sgsD a] = .ret (.bl (decide (Stdy k a))) [sgsD a] := by
  refine call_eq rfl ?_
  have f1 : ∀ a b, SgsOk k a → SgsOk k b → call 10000000000000000 fns (n + 3) 111 [sgsD a, sgsD b] = _ := fun a b ha hb => sign_product_c (n := n) a b k1 k5 ha hb
  simp [fn123, ir123, lentIx, f1, ha]
  rfl
/-! sharpened -/
def rnd : Nat → Nat
  | 0 => 0
  | 3 => 3
  | _ => 2
def ahd (k : Nat) (a : List (List Nat)) (i : Nat) : List Nat := (List.range k).map fun m => max (at2 a i m) (rnd (at2 a m m))
def shp (k : Nat) (a : List (List Nat)) : List (List Nat) := (List.range k).map fun i => sRow k (ahd k a i) a
def accS (k : Nat) (a : List (List Nat)) (i j m : Nat) : Nat := upto (fun x m => min x (max (max (at2 a i m) (rnd (at2 a m m))) (at2 a m j))) 3 m
end LT.K
namespace LT.K
open LT
/-- how what is sharpened goes with what it comes of -/
def gw (s t : Nat) : Prop := s ≤ t ∧ (t = 0 ↔ s = 0) ∧ (t = 3 ↔ s = 3)
end LT.K
/-! PMach: machines and words of the bag -/
namespace LT.K
open LT
variable {fns : Nat → Option Fn} {n : Nat}
@[simp] theorem add_str (a b : Cs) (h : a.length + b.length ≤ sizeL) : binop .add (.str a) (.str b) = some (.str (a ++ b)) := by simp [binop, h]
theorem mo_two {r : Nat} (h : r ≤ 300) : Mo ((2 : Int) ^ r) := by
  refine ⟨Int.pow_pos (by decide), ?_⟩
  have h1 : (2 : Nat) ^ r ≤ 2 ^ 300 := Nat.pow_le_pow_right (by decide) h
  have h2 : (2 : Nat) ^ 300 ≤ 10 ^ 100 := by decide
  have h3 : (2 : Nat) ^ r ≤ 10 ^ 100 := Nat.le_trans h1 h2
  exact_mod_cast h3
theorem rooms8 [Has fns 7 fn7] [Has fns 8 fn8] (b : Bag) (k : Nat) (h5 : k ≤ 20) : ∃ rs b', call 10000000000000000 fns (n + 2) 8 [bagD b, .int (k : Int)] = .ret (nsD rs) [bagD b', .int (k : Int)] ∧ RoomsOk k rs := by
  refine ex2 fun Q hQ => call_cw rfl ?_
  have h6 : k < 4611686018427387904 := by omega
  have h5' : (k : Int) ≤ 1000000 := by omega
  have h9 := mo_two (r := k) (by omega)
  have hz : ∀ p, ((List.range k).filter p).length ≤ sizeL := fun p => by
    have := List.length_filter_le p (List.range k)
    simp at this
    rw [sizeL_val]; omega
  have hf : ∀ p, frzs (((List.range k).filter p).map nD) = ((List.range k).filter p).map nD := fun p => frzs_map fun _ _ => rfl
  simp [fn8, ir8, lentIx, h5', h9, h6]
  rw [lc_filt (List.range k) nD (fun r => decide ((tk b (2 ^ k) : Int) / 2 ^ r % 2 = 1)) (rng_map k) (by simp) (fun r hr => by
    have hr : r < k := by simpa using hr
    have h1 : (r : Int) ≤ 1000000 := by omega
    have h2 : (0 : Int) < 2 ^ r := Int.pow_pos (by decide)
    have h3 : smallDiv ((2 : Int) ^ r) := by
      have := mo_two (r := r) (by omega)
      exact sd_of this.1 this.2
    simp [lcT, t8_2, c8_1, h1, h2, h3])]
  simp [hz, hf]
  exact hQ _ _ (rooms_filter k _)
theorem machine_gen [Has fns 7 fn7] [Has fns 8 fn8] (most : Nat) (hm : most ≤ 75) (f : Fn) (hf : f = ⟨1, 6, Ss.cons (S.asg 1 (E.bin Op.add (E.con (D.int 1)) (E.call 7 (Es.cons (E.var 0) (Es.cons (E.con (D.int 3)) Es.nil))))) (Ss.cons (S.asg 2 (E.bin Op.add (E.con (D.int 1)) (E.call 7 (Es.cons (E.var 0) (Es.cons (E.con (D.int 5)) Es.nil))))) (Ss.cons (S.asg 3 (E.call 7 (Es.cons (E.var 0) (Es.cons (E.con (D.int 13)) Es.nil)))) (Ss.cons (S.ifS (E.cmp Cm.eq (E.call 7 (Es.cons (E.var 0) (Es.cons (E.con (D.int 8)) Es.nil))) (E.con (D.int 7))) (Ss.cons (S.asg 3 (E.call 7 (Es.cons (E.var 0) (Es.cons (E.con (D.int ((most + 1 : Nat) : Int))) Es.nil)))) Ss.nil) Ss.nil) (Ss.cons (S.asg 4 (E.lstE Es.nil)) (Ss.cons (S.forS (Tg.v 5) (It.rng 1 (Es.cons (E.var 3) Es.nil)) b9_1) (Ss.cons (S.ret (E.tupE (Es.cons (E.var 1) (Es.cons (E.var 2) (Es.cons (E.call 8 (Es.cons (E.var 0) (Es.cons (E.var 2) Es.nil))) (Es.cons (E.call 8 (Es.cons (E.var 0) (Es.cons (E.var 2) Es.nil))) (Es.cons (E.bi Bi.tuple (Es.cons (E.var 4) Es.nil)) Es.nil))))))) Ss.nil))))))⟩) (j : Nat) [Has fns j f] (b : Bag) : ∃ m b', call 10000000000000000 fns (n + 3) j [bagD b] = .ret (machD m) [bagD b'] ∧ MachOk m := by
  subst hf
  refine ex2 fun Q hQ => call_cw rfl ?_
  obtain ⟨l, hl, l0, l1⟩ : ∃ r : Nat, (1 : Int) + (tk b 3 : Int) = r ∧ 1 ≤ r ∧ r ≤ 3 := ⟨1 + tk b 3, by simp, by omega, by have : tk b 3 < 3 := tk_lit (by simp); omega⟩
  obtain ⟨r, hr, r0, r1⟩ : ∃ r : Nat, (1 : Int) + (tk (tb b 3) 5 : Int) = r ∧ 1 ≤ r ∧ r ≤ 5 := ⟨1 + tk (tb b 3) 5, by simp, by omega, by have : tk (tb b 3) 5 < 5 := tk_lit (by simp); omega⟩
  have hmm : Mo ((most + 1 : Nat) : Int) := mo_of (by omega) (by omega)
  have hmm2 : (((most + 1 : Nat) : Int)) = (most : Int) + 1 := by simp
  rw [hmm2] at hmm
  have h3 : Mo (r : Int) := mo_of (by omega) (by omega)
  have h4 : Mo (l : Int) := mo_of (by omega) (by omega)
  have q0 : tk (tb (tb b 3) 5) 13 < 13 := tk_lit (by simp)
  have q1 : ∀ b, (tk b ((most : Int) + 1) : Int) < (most : Int) + 1 := fun b => tk_lt hmm
  have q2 : smallR ((most : Int) + 1) = true := by simp [smallR]; omega
  obtain ⟨e0, K, hK, hK2⟩ : ∃ (b2 : Bag) (K : Nat), K ≤ 75 ∧ (if (tk (tb (tb (tb b 3) 5) 13) 8 : Int) = 7 then (K = tk (tb (tb (tb (tb b 3) 5) 13) 8) ((most : Int) + 1) ∧ b2 = tb (tb (tb (tb (tb b 3) 5) 13) 8) ((most : Int) + 1)) else (K = tk (tb (tb b 3) 5) 13 ∧ b2 = tb (tb (tb (tb b 3) 5) 13) 8)) := by
    split
    · exact ⟨_, _, by have := q1 (tb (tb (tb (tb b 3) 5) 13) 8); omega, rfl, rfl⟩
    · exact ⟨_, _, by omega, rfl, rfl⟩
  have key : FW ((forL (forT (call 10000000000000000 fns (n + 2)) 10000000000000000 (Tg.v 5) b9_1 [0]) (heldP [] [some (bagD e0), some (.int l), some (.int r), some (.int K), some (.lst true []), none]) (rngL 0 1 K) [some (bagD e0), some (.int l), some (.int r), some (.int K), some (.lst true []), none]).bind (evSs (call 10000000000000000 fns (n + 2)) 10000000000000000 (Ss.cons (S.ret (E.tupE (Es.cons (E.var 1) (Es.cons (E.var 2) (Es.cons (E.call 8 (Es.cons (E.var 0) (Es.cons (E.var 2) Es.nil))) (Es.cons (E.call 8 (Es.cons (E.var 0) (Es.cons (E.var 2) Es.nil))) (Es.cons (E.bi Bi.tuple (Es.cons (E.var 4) Es.nil)) Es.nil))))))) Ss.nil) [0])) fun r => CW (F.fin [bagD b] r) Q := by
    refine for_rng (fun i e => ∃ (ds : List Door) (b' : Bag) (s5 : Option D), ds.length = i ∧ i ≤ 75 ∧ (∀ d ∈ ds, DoorOk l r d) ∧ e = [some (bagD b'), some (.int l), some (.int r), some (.int K), some (.lst true (ds.map doorD)), s5]) ⟨[], _, _, rfl, by omega, by simp, rfl⟩ ?_ ?_
    · rintro i e' hi ⟨ds, b', s5, g1, g2, g3, rfl⟩
      have hz : ds.length < sizeL := by rw [sizeL_val]; omega
      have h8 : ∀ b, (tk b (l : Int) : Int) < 3 := fun b => by have := tk_lt (b := b) h4; omega
      simp [forT, b9_1, h3, h4, h8, hz]
      refine ⟨ds ++ [⟨tk b' r, pick [97, 98, 99] (tk (tb b' r) l : Int), tk (tb (tb b' r) l) r, tk (tb (tb (tb b' r) l) r) 4⟩], by simp [g1], by omega, fun d m => ?_, ⟨_, rfl⟩, by simp [doorD]⟩
      rcases List.mem_append.mp m with m | m
      · exact g3 d m
      · obtain rfl := List.mem_singleton.mp m
        have hp := pick_mem (l := [97, 98, 99]) (d := (tk (tb b' r) l : Int)) (by omega) (h8 _)
        have hq := tk_lt (b := tb b' r) h4
        have hr : tk (tb (tb (tb b' r) l) r) 4 < 4 := tk_lit (by simp)
        refine ⟨tk_ltN h3, ?_, ?_, tk_ltN h3, by dsimp only; omega⟩
        · simp at hp; dsimp only; omega
        · generalize tk (tb b' r) l = x at hq
          have : x = 0 ∨ x = 1 ∨ x = 2 := by omega
          rcases this with rfl | rfl | rfl <;> simp [pick] <;> omega
    · rintro e' ⟨ds, b', s5, g1, g2, g3, rfl⟩
      obtain ⟨rs1, b2, e1, ok1⟩ := rooms8 (n := n) (fns := fns) b' r (by omega)
      obtain ⟨rs2, b3, e2, ok2⟩ := rooms8 (n := n) (fns := fns) b2 r (by omega)
      have hz : ds.length ≤ sizeL := by rw [sizeL_val]; omega
      simp [e1, e2, hz]
      exact hQ ⟨l, r, rs1, rs2, ds⟩ b3 ⟨l0, l1, r0, r1, ok1, ok2, g3, by dsimp only; omega⟩
  by_cases h7 : (tk (tb (tb (tb b 3) 5) 13) 8 : Int) = 7
  · rw [if_pos h7] at hK2
    obtain ⟨rfl, rfl⟩ := hK2
    have q3 : smallR (tk (tb (tb (tb (tb b 3) 5) 13) 8) ((most : Int) + 1) : Int) = true := tk_sm _ _ hmm q2
    simp [lentIx, hl, hr, hmm, h7, q3]
    exact key
  · rw [if_neg h7] at hK2
    obtain ⟨rfl, rfl⟩ := hK2
    simp [lentIx, hl, hr, h7]
    exact key
end LT.K
namespace LT.K
open LT
variable {fns : Nat → Option Fn} {n : Nat}
theorem machine70 [Has fns 7 fn7] [Has fns 8 fn8] [Has fns 70 fn70] (b : Bag) : ∃ m b', call 10000000000000000 fns (n + 3) 70 [bagD b] = .ret (machD m) [bagD b'] ∧ MachOk m := machine_gen 30 (by decide) fn70 rfl 70 b
/-- a word of so many letters -/
structure WordOk (lets : Nat) (w : List Nat) : Prop where
  lo : ∀ c ∈ w, 97 ≤ c
  hi : ∀ c ∈ w, c < 97 + lets
theorem WordOk.snoc {l : Nat} {w : List Nat} {c : Nat} (g : WordOk l w) (h1 : 97 ≤ c) (h2 : c < 97 + l) : WordOk l (w ++ [c]) := ⟨fun x m => by
  rcases List.mem_append.mp m with m | m
  · exact g.lo x m
  · obtain rfl := List.mem_singleton.mp m
    exact h1, fun x m => by
  rcases List.mem_append.mp m with m | m
  · exact g.hi x m
  · obtain rfl := List.mem_singleton.mp m
    exact h2⟩
/-- a bound of the bag -/
theorem bound65 [Has fns 7 fn7] [Has fns 65 fn65] (b : Bag) : ∃ k b', call 10000000000000000 fns (n + 2) 65 [bagD b] = .ret (.int ((k : Nat) : Int)) [bagD b'] ∧ k ≤ 10 ^ 30 := by
  refine ex2 fun Q hQ => call_cw rfl ?_
  have h1 : Mo (1000000000000000000000000000000 : Int) := by simp
  have z0 : tk b 3 < 3 := tk_lit (by simp)
  have z1 : tk (tb b 3) 13 < 13 := tk_lit (by simp)
  have z2 : tk (tb (tb b 3) 13) 1000000000 < 1000000000 := tk_lit (by simp)
  have z3 : tk (tb (tb (tb b 3) 13) 1000000000) 1000000000000000000000000000000 < 1000000000000000000000000000000 := tk_lit (by simp)
  have z4 : tk (tb (tb (tb (tb b 3) 13) 1000000000) 1000000000000000000000000000000) 4 < 4 := tk_lit (by simp)
  have z5 : tk (tb (tb (tb (tb b 3) 13) 1000000000) 1000000000000000000000000000000) 4 = 0 ∨ tk (tb (tb (tb (tb b 3) 13) 1000000000) 1000000000000000000000000000000) 4 = 1 ∨ tk (tb (tb (tb (tb b 3) 13) 1000000000) 1000000000000000000000000000000) 4 = 2 ∨ tk (tb (tb (tb (tb b 3) 13) 1000000000) 1000000000000000000000000000000) 4 = 3 := by omega
  simp [fn65, ir65, lentIx, h1]
  rcases z5 with e | e | e | e <;> rw [e] <;> simp [pick]
  · exact hQ _ _ (by omega)
  · exact hQ _ _ (by omega)
  · exact hQ _ _ (by omega)
  · exact hQ _ _ (by omega)
end LT.K
namespace LT.K
open LT
variable {fns : Nat → Option Fn} {n : Nat}
@[simp] theorem dat_str (n : Nat) (s : Cs) (h : s.all (· < 1114112) = true) : (D.str s).dat n = true := by rw [D.dat]; exact h
@[simp] theorem eq_str (a b : Cs) (ha : a.all (· < 1114112) = true) (hb : b.all (· < 1114112) = true) : cmpop .eq (.str a) (.str b) = some (a == b) := by
  rw [cEq (dat_str _ _ ha) (dat_str _ _ hb)]; rfl
@[simp] theorem ne_str (a b : Cs) (ha : a.all (· < 1114112) = true) (hb : b.all (· < 1114112) = true) : cmpop .ne (.str a) (.str b) = some (!(a == b)) := by
  rw [cNe (dat_str _ _ ha) (dat_str _ _ hb)]; rfl
@[simp] theorem inn_ns (x : Nat) (l : List Nat) : cmpop .inn (.int (x : Int)) (nsD l) = some (decide (x ∈ l)) := by
  have h2 : dats 60 (l.map nD) = true := dats_map 60 nD (fun x => by simp [D.dat]) l
  simp only [cmpop]
  rw [ns_eta]
  unfold inop
  dsimp only
  rw [h2, show (D.int (x : Int)).dat 60 = true by simp [D.dat]]
  simp only [Bool.and_self, if_true]
  congr 1
  rw [Bool.eq_iff_iff]
  simp
/-- a price cut -/
def ocut (k : Nat) : Option Nat → Option Nat
  | none => none
  | some a => some (min a (k + 1))
theorem ocut_some (k a) : ocut k (some a) = some (min a (k + 1)) := id rfl
@[simp] theorem cut_c [Has fns 64 fn64] (x : Option Nat) (k : Nat) : call 10000000000000000 fns (n + 1) 64 [oD x, .int (k : Int)] = .ret (oD (ocut k x)) [oD x, .int (k : Int)] := by
  refine call_eq rfl ?_
  rcases x with _ | a
  · simp [fn64, ir64, lentIx]; rfl
  · by_cases h : a ≤ k
    · have e : ocut k (some a) = some a := by rw [ocut_some]; congr 1; omega
      simp [fn64, ir64, lentIx, h, e]
    · have e : ocut k (some a) = some (k + 1) := by rw [ocut_some]; congr 1; omega
      simp [fn64, ir64, lentIx, h, e]
@[simp] theorem cut_c1 [Has fns 64 fn64] (x : Nat) (k : Nat) : call 10000000000000000 fns (n + 1) 64 [.int (x : Int), .int (k : Int)] = .ret (oD (ocut k (some x))) [.int (x : Int), .int (k : Int)] := cut_c (some x) k
/-- the first row -/
def fstR (m : Mach) : Row := (List.range m.rooms).map fun r => if r ∈ m.begins then some 0 else none
@[simp] theorem fstR_len (m) : (fstR m).length = m.rooms := by simp [fstR]
theorem first_row_c [Has fns 67 fn67] (m : Mach) (hm : MachOk m) : call 10000000000000000 fns (n + 1) 67 [machD m] = .ret (rowD (fstR m)) [machD m] := by
  refine call_eq rfl ?_
  have h6 : m.rooms < 4611686018427387904 := by have := hm.r1; omega
  have hz : m.rooms ≤ sizeL := by rw [sizeL_val]; have := hm.r1; omega
  simp [fn67, ir67, lentIx, h6]
  rw [lc_map (List.range m.rooms) nD (fun r => oD (if r ∈ m.begins then some 0 else none)) (rng_map _) (by simp) (fun r hr => by
    by_cases h : r ∈ m.begins <;> simp [lcT, c67_1, h])]
  simp [hz]
  simp [fstR, rowD]
theorem first71 [Has fns 71 fn71] (m : Mach) (hm : MachOk m) : call 10000000000000000 fns (n + 1) 71 [machD m] = .ret (rowD (fstR m)) [machD m] := by
  refine call_eq rfl ?_
  have h6 : m.rooms < 4611686018427387904 := by have := hm.r1; omega
  have hz : m.rooms ≤ sizeL := by rw [sizeL_val]; have := hm.r1; omega
  simp [fn71, ir71, lentIx, h6]
  rw [lc_map (List.range m.rooms) nD (fun r => oD (if r ∈ m.begins then some 0 else none)) (rng_map _) (by simp) (fun r hr => by
    by_cases h : r ∈ m.begins <;> simp [lcT, c71_1, h])]
  simp [hz]
  simp [fstR, rowD]
/-- a row led on by a letter -/
def ledS (k : Nat) (row : Row) (c : Nat) (f : Row) (d : Door) : Row := if d.l = c then f.set d.g (omin (nth f d.g) (ocut k (oadd (nth row d.s) (some d.t)))) else f
def ledR (k : Nat) (m : Mach) (row : Row) (c : Nat) : Row := m.doors.foldl (ledS k row c) (List.replicate m.rooms none)
theorem ledS_len (k row c f d) : (ledS k row c f d).length = f.length := by unfold ledS; split <;> simp
theorem foldl_len {α : Type} {g : Row → α → Row} (h : ∀ f d, (g f d).length = f.length) : ∀ (ds : List α) (f : Row), (ds.foldl g f).length = f.length
  | [], f => rfl
  | d :: ds, f => by rw [List.foldl_cons, foldl_len h ds, h]
@[simp] theorem ledR_len (k m row c) : (ledR k m row c).length = m.rooms := by unfold ledR; rw [foldl_len (ledS_len k row c)]; simp
theorem set_self {α : Type} [Inhabited α] {l : List α} {i : Nat} (h : i < l.length) : l.set i (nth l i) = l := by
  rw [nth_get h]; exact List.set_getElem_self h
theorem ledS_none {k row c f d} (h : nth row d.s = none) (hg : d.g < f.length) : ledS k row c f d = f := by
  unfold ledS
  split
  · rw [h, oadd_none]
    show f.set d.g (omin (nth f d.g) none) = f
    rw [omin_none', set_self hg]
  · rfl
@[simp 20000] theorem idx_oN (t : T) (o : Bool) (l : Row) (i : Nat) (h : i < l.length) : idxD t (.int (i : Int)) (.lst o (l.map oD)) = some (.val (oD (nth l i))) := idx_lstG t o oD l i h own_o
theorem led_c [Has fns 42 fn42] [Has fns 64 fn64] [Has fns 68 fn68] (m : Mach) (hm : MachOk m) (k : Nat) (row : Row) (hr : row.length = m.rooms) (c : Nat) (hc : c < 200) : call 10000000000000000 fns (n + 2) 68 [machD m, .int (k : Int), rowD row, .str [c]] = .ret (rowD (ledR k m row c)) [machD m, .int (k : Int), rowD row, .str [c]] := by
  refine call_eq rfl ?_
  have hz0 : row.length ≤ sizeL := by rw [sizeL_val]; have := hm.r1; omega
  simp [fn68, ir68, lentIx]
  rw [lc_map row oD (fun _ => D.non) rfl (by simp) (fun x hx => by simp [lcT, c68_1])]
  simp [hz0]
  refine for_fold doorD (ledS k row c) (fun (f : Row) e => ∃ s6 s7 s8 s9, f.length = m.rooms ∧ e = [some (machD m), some (.int (k : Int)), some (rowD row), some (.str [c]), some (.lst true (f.map oD)), none, s6, s7, s8, s9]) (DoorOk m.lets m.rooms) m.doors (s := List.replicate m.rooms none) ?_ hm.d ?_ ?_
  · exact ⟨none, none, none, none, by simp, by simp [List.map_const', hr]⟩
  · rintro f d e hd ⟨s6, s7, s8, s9, g1, rfl⟩
    have h1 : d.l < 1114112 := by have := hd.l1; have := hm.l1; omega
    have h2 : c < 1114112 := by omega
    have h3 : d.s < row.length := by rw [hr]; exact hd.s
    have h4 : d.g < f.length := by rw [g1]; exact hd.g
    by_cases hl : d.l = c
    · rcases e1 : nth row d.s with _ | p
      · rw [ledS_none e1 h4]
        simp [forT, b68_2, h1, h2, hl, h3, e1, g1]
      · have e2 : ledS k row c f d = f.set d.g (omin (nth f d.g) (ocut k (some (p + d.t)))) := by unfold ledS; rw [if_pos hl, e1]; rfl
        rw [e2]
        have e3 : (p : Int) + (d.t : Int) = ((p + d.t : Nat) : Int) := by simp
        simp [forT, b68_2, h1, h2, hl, h3, hd.g, e1, g1, e3, -Int.natCast_add]
    · have e2 : ledS k row c f d = f := by unfold ledS; rw [if_neg hl]
      rw [e2]
      simp [forT, b68_2, h1, h2, hl, g1]
  · rintro e ⟨s6, s7, s8, s9, g1, rfl⟩
    have hz : (ledR k m row c).length ≤ sizeL := by rw [sizeL_val]; simp; have := hm.r1; omega
    have e1 : List.foldl (ledS k row c) (List.replicate m.rooms none) m.doors = ledR k m row c := rfl
    rw [e1]
    simp [hz]
    rfl
theorem led72 [Has fns 72 fn72] (m : Mach) (hm : MachOk m) (k : Nat) (row : Row) (hr : row.length = m.rooms) (c : Nat) (hc : c < 200) : call 10000000000000000 fns (n + 1) 72 [machD m, .int (k : Int), rowD row, .str [c]] = .ret (rowD (ledR k m row c)) [machD m, .int (k : Int), rowD row, .str [c]] := by
  refine call_eq rfl ?_
  have hz0 : row.length ≤ sizeL := by rw [sizeL_val]; have := hm.r1; omega
  simp [fn72, ir72, lentIx]
  rw [lc_map row oD (fun _ => D.non) rfl (by simp) (fun x hx => by simp [lcT, c72_1])]
  simp [hz0]
  refine for_fold doorD (ledS k row c) (fun (f : Row) e => ∃ s6 s7 s8 s9 s10, f.length = m.rooms ∧ e = [some (machD m), some (.int (k : Int)), some (rowD row), some (.str [c]), some (.lst true (f.map oD)), none, s6, s7, s8, s9, s10]) (DoorOk m.lets m.rooms) m.doors (s := List.replicate m.rooms none) ?_ hm.d ?_ ?_
  · exact ⟨none, none, none, none, none, by simp, by simp [List.map_const', hr]⟩
  · rintro f d e hd ⟨s6, s7, s8, s9, s10, g1, rfl⟩
    have h1 : d.l < 1114112 := by have := hd.l1; have := hm.l1; omega
    have h2 : c < 1114112 := by omega
    have h3 : d.s < row.length := by rw [hr]; exact hd.s
    have h4 : d.g < f.length := by rw [g1]; exact hd.g
    by_cases hl : d.l = c
    · rcases e1 : nth row d.s with _ | p
      · rw [ledS_none e1 h4]
        simp [forT, b72_2, h1, h2, hl, h3, e1, g1]
      · have e2 : ledS k row c f d = f.set d.g (omin (nth f d.g) (some (min (p + d.t) (k + 1)))) := by unfold ledS; rw [if_pos hl, e1]; rfl
        rw [e2]
        have e3 : (if (k : Int) + 1 < (p : Int) + (d.t : Int) then (k : Int) + 1 else (p : Int) + (d.t : Int)) = ((min (p + d.t) (k + 1) : Nat) : Int) := by split <;> omega
        rcases e4 : nth f d.g with _ | q
        · simp [forT, b72_2, h1, h2, hl, h3, hd.g, e1, g1, e3, e4]
        · by_cases h5 : min (p + d.t) (k + 1) < q
          · have e5 : omin (some q) (some (min (p + d.t) (k + 1))) = some (min (p + d.t) (k + 1)) := by rw [omin_some]; congr 1; omega
            have h5' : ((min (p + d.t) (k + 1) : Nat) : Int) < q := by omega
            rw [e5]
            generalize min (p + d.t) (k + 1) = w at e3 h5 h5'
            simp [forT, b72_2, h1, h2, hl, h3, hd.g, e1, g1, e3, e4, h5]
          · have e5 : omin (some q) (some (min (p + d.t) (k + 1))) = some q := by rw [omin_some]; congr 1; omega
            rw [e5, ← e4, set_self h4]
            generalize min (p + d.t) (k + 1) = w at e3 h5
            simp [forT, b72_2, h1, h2, hl, h3, hd.g, e1, g1, e3, e4, h5]
    · have e2 : ledS k row c f d = f := by unfold ledS; rw [if_neg hl]
      rw [e2]
      simp [forT, b72_2, h1, h2, hl, g1]
  · rintro e ⟨s6, s7, s8, s9, s10, g1, rfl⟩
    have hz : (ledR k m row c).length ≤ sizeL := by rw [sizeL_val]; simp; have := hm.r1; omega
    have e1 : List.foldl (ledS k row c) (List.replicate m.rooms none) m.doors = ledR k m row c := rfl
    rw [e1]
    simp [hz]
    rfl
/-- the least at some rooms -/
def lstAt (row : Row) (rs : List Nat) : Option Nat := rs.foldl (fun a r => omin a (nth row r)) none
theorem least_at_c [Has fns 42 fn42] [Has fns 59 fn59] (row : Row) (rs : List Nat) (h : ∀ r ∈ rs, r < row.length) : call 10000000000000000 fns (n + 2) 59 [rowD row, nsD rs] = .ret (oD (lstAt row rs)) [rowD row, nsD rs] := by
  refine call_eq rfl ?_
  simp [fn59, ir59, lentIx]
  refine for_fold nD (fun a r => omin a (nth row r)) (fun (x : Option Nat) e => ∃ s3, e = [some (rowD row), some (nsD rs), some (oD x), s3]) (fun r => r < row.length) rs (s := none) ⟨_, rfl⟩ h ?_ ?_
  · rintro x r e hr ⟨s3, rfl⟩
    simp [forT, b59_1, hr]
  · rintro e ⟨s3, rfl⟩
    simp
    rfl
def endR (m : Mach) (row : Row) : Option Nat := lstAt row m.ends
theorem end_of_c [Has fns 42 fn42] [Has fns 59 fn59] [Has fns 69 fn69] (m : Mach) (hm : MachOk m) (row : Row) (hr : row.length = m.rooms) : call 10000000000000000 fns (n + 3) 69 [machD m, rowD row] = .ret (oD (endR m row)) [machD m, rowD row] := by
  refine call_eq rfl ?_
  have e : call 10000000000000000 fns (n + 2) 59 [rowD row, nsD m.ends] = _ := least_at_c (n := n) row m.ends fun r h => by rw [hr]; exact hm.e.lt r h
  simp [fn69, ir69, lentIx, e]
  rfl
theorem bi_min1d (o : Bool) (xs : List Nat) : bi .min1d [.lst o (xs.map nD), .non] = some (oD (xs.foldl (fun a x => omin a (some x)) none)) := by
  unfold bi
  dsimp only
  rw [allInt_nat]
  cases xs with
  | nil => rfl
  | cons x xs =>
    rw [List.map_cons]
    dsimp only
    rw [minL_nat]
    have : ∀ (xs : List Nat) (x : Nat), xs.foldl (fun a x => omin a (some x)) (some x) = some (xs.foldl min x) := by
      intro xs
      induction xs with
      | nil => intro x; rfl
      | cons y ys ih => intro x; rw [List.foldl_cons, List.foldl_cons, omin_some, ih]
    rw [List.foldl_cons, omin_none, this]
    rfl
theorem fold_fmap (row : Row) : ∀ (rs : List Nat) (a : Option Nat), (rs.filterMap (nth row)).foldl (fun a x => omin a (some x)) a = rs.foldl (fun a r => omin a (nth row r)) a
  | [], _ => rfl
  | r :: rs, a => by
    rw [List.filterMap_cons, List.foldl_cons]
    cases e : nth row r with
    | none => dsimp only; rw [fold_fmap row rs, omin_none']
    | some x => dsimp only; rw [List.foldl_cons, fold_fmap row rs]
theorem end73 [Has fns 73 fn73] (m : Mach) (hm : MachOk m) (row : Row) (hr : row.length = m.rooms) (hl : m.ends.length ≤ 5) : call 10000000000000000 fns (n + 1) 73 [machD m, rowD row] = .ret (oD (endR m row)) [machD m, rowD row] := by
  refine call_eq rfl ?_
  simp [fn73, ir73, lentIx]
  rw [lc_fmap m.ends nD (fun r => (nth row r).map nD) rfl (by simp) (fun r h => by
    have h1 : r < row.length := by rw [hr]; exact hm.e.lt r h
    rcases e : nth row r with _ | x
    · simp [lcT, t73_2, h1, e]
    · simp [lcT, t73_2, c73_1, h1, e])]
  have e1 : m.ends.filterMap (fun r => (nth row r).map nD) = (m.ends.filterMap (nth row)).map nD := by
    rw [List.map_filterMap]
  have hz : (m.ends.filterMap (nth row)).length ≤ sizeL := by
    have := List.length_filterMap_le (nth row) m.ends
    rw [sizeL_val]; omega
  have e2 := bi_min1d false (m.ends.filterMap (nth row))
  rw [fold_fmap] at e2
  rw [e1]
  generalize m.ends.filterMap (nth row) = ys at e2 hz
  simp [hz, e2]
  rfl
theorem isrow74 [Has fns 74 fn74] (row : Row) : call 10000000000000000 fns (n + 1) 74 [rowD row, rowD row] = .ret (.bl true) [rowD row, rowD row] := by
  refine call_eq rfl ?_
  simp [fn74, ir74, lentIx]
  refine for_map row oD (fun _ e => ∃ s2, e = [some (rowD row), some (rowD row), s2]) rfl ⟨_, rfl⟩ ?_ ?_
  · rintro j x e' hj ⟨s2, rfl⟩
    cases x <;> simp [forT, b74_1]
  · rintro e' ⟨s2, rfl⟩
    simp
theorem rooms_len {k : Nat} {rs : List Nat} (h : RoomsOk k rs) : rs.length ≤ k := pig k rs (h.up.imp fun h => Nat.ne_of_lt h) h.lt
theorem cut_abc (m : Mach) (hm : MachOk m) : cutD none (some (m.lets : Int)) (.str [97, 98, 99]) = some (.str ([97, 98, 99].take m.lets)) := by
  have h : m.lets = 1 ∨ m.lets = 2 ∨ m.lets = 3 := by have := hm.l0; have := hm.l1; omega
  rcases h with e | e | e <;> rw [e] <;> rfl
theorem mem_abc {m : Mach} (hm : MachOk m) {c : Nat} (h : c ∈ [97, 98, 99].take m.lets) : 97 ≤ c ∧ c < 97 + m.lets := by
  have h1 : m.lets = 1 ∨ m.lets = 2 ∨ m.lets = 3 := by have := hm.l0; have := hm.l1; omega
  rcases h1 with e | e | e <;> rw [e] at h ⊢ <;> simp at h <;> omega
end LT.K
namespace LT.K
open LT
variable {fns : Nat → Option Fn} {n : Nat}
/-- .. and without a cut -/
def unS (row : Row) (c : Nat) (f : Row) (d : Door) : Row := if d.l = c then f.set d.g (omin (nth f d.g) (oadd (nth row d.s) (some d.t))) else f
def unR (m : Mach) (row : Row) (c : Nat) : Row := m.doors.foldl (unS row c) (List.replicate m.rooms none)
theorem unS_len (row c f d) : (unS row c f d).length = f.length := by unfold unS; split <;> simp
@[simp] theorem unR_len (m row c) : (unR m row c).length = m.rooms := by unfold unR; rw [foldl_len (unS_len row c)]; simp
def rowW (k : Nat) (m : Mach) (w : List Nat) : Row := w.foldl (ledR k m) (fstR m)
def lstW (m : Mach) (w : List Nat) : Row := w.foldl (unR m) (fstR m)
def lsI (m : Mach) (w : List Nat) (i : Nat) (r : Row) (e : Env) : Prop := r.length = m.rooms ∧ ∃ o s3 s4 s5 s7 s8 s9 s10, e = [some (machD m), some (.str w), some (.lst o (r.map oD)), s3, s4, s5, none, s7, s8, s9, s10]
@[simp] theorem cut79 [Has fns 79 fn79] (x : Option Nat) (k : Nat) : call 10000000000000000 fns (n + 1) 79 [oD x, .int (k : Int)] = .ret (oD (ocut k x)) [oD x, .int (k : Int)] := by
  refine call_eq rfl ?_
  rcases x with _ | a
  · simp [fn79, ir79, lentIx]; rfl
  · have e : (if (k : Int) + 1 < (a : Int) then (k : Int) + 1 else (a : Int)) = ((min a (k + 1) : Nat) : Int) := by split <;> omega
    rw [ocut_some]
    simp [fn79, ir79, lentIx, e]
theorem cutU_str (w : List Nat) (h : w.length ≤ sizeL) : cutD none (some (-1)) (.str w) = some (.str (w.take (w.length - 1))) := by
  simp [cutD, cutIx, h]
  omega
end LT.K
/-! PBf: the rows met, one behind the other -/
namespace LT.K
open LT
variable {fns : Nat → Option Fn} {n : Nat}
abbrev MR := List Nat × Row
abbrev BSt := List MR × Nat
def mrD (p : MR) : D := .tup [.str p.1, rowD p.2]
@[simp] theorem own_mr (p) : (mrD p).own = false := id rfl
def ltrs (m : Mach) : List Nat := [97, 98, 99].take m.lets
/-- a letter: nothing, one more, the last one (1), too many (2) -/
def bLet (m : Mach) (k : Nat) (w : List Nat) (r : Row) (s : BSt) (c : Nat) : BSt :=
  if s.2 = 0 then (if ledR k m r c ∈ s.1.map (·.2) then s else if s.1.length = 300 then (s.1, 2) else (s.1 ++ [(w ++ [c], ledR k m r c)], if endR m (ledR k m r c) = some (k + 1) then 1 else 0)) else s
def bRow (m : Mach) (k : Nat) (s : BSt) (i : Nat) : BSt := (ltrs m).foldl (bLet m k (nth s.1 i).1 (nth s.1 i).2) s
def bN (m : Mach) (k : Nat) : Nat → BSt
  | 0 => ([([], fstR m)], 0)
  | i + 1 => if (bN m k i).2 = 0 ∧ i < (bN m k i).1.length then bRow m k (bN m k i) i else bN m k i
def bfs (m : Mach) (k : Nat) : BSt := bN m k 300
theorem bLet_stay {m k w r s c} (h : ¬ s.2 = 0) : bLet m k w r s c = s := by unfold bLet; rw [if_neg h]
theorem bLets_stay {m k w r} : ∀ (l : List Nat) {s : BSt}, ¬ s.2 = 0 → l.foldl (bLet m k w r) s = s
  | [], _, _ => rfl
  | c :: l, s, h => by rw [List.foldl_cons, bLet_stay h, bLets_stay l h]
theorem bN_stay {m k i} (h : ¬ (bN m k i).2 = 0) : ∀ j, i ≤ j → bN m k j = bN m k i := by
  intro j hj
  induction hj with
  | refl => rfl
  | step _ ih => rw [bN, ih, if_neg fun z => h z.1]
theorem bN_end {m k i} (h : (bN m k i).1.length ≤ i) : ∀ j, i ≤ j → bN m k j = bN m k i := by
  intro j hj
  induction hj with
  | refl => rfl
  | @step j hj ih => rw [bN, ih, if_neg fun z => by have := z.2; have : i ≤ j := hj; omega]
/-- what is kept: not empty, at most 300, the rows' lengths, the rows those of the words -/
structure BOk (m : Mach) (k : Nat) (s : BSt) : Prop where
  ne : 1 ≤ s.1.length
  le : s.1.length ≤ 300
  row : ∀ p ∈ s.1, p.2.length = m.rooms
  wd : ∀ p ∈ s.1, p.2 = rowW k m p.1
  lt : ∀ p ∈ s.1, ∀ c ∈ p.1, c ∈ ltrs m
  len : ∀ p ∈ s.1, p.1.length ≤ s.1.length
theorem ltr_lt {m : Mach} (hm : MachOk m) {c : Nat} (h : c ∈ ltrs m) : c < 200 := by have := mem_abc hm h; have := hm.l1; omega
theorem BOk.one {m k} : BOk m k ([([], fstR m)], 0) := ⟨by simp, by simp, fun p h => by
  obtain rfl := List.mem_singleton.mp h; simp, fun p h => by
  obtain rfl := List.mem_singleton.mp h; rfl, fun p h => by
  obtain rfl := List.mem_singleton.mp h; simp, fun p h => by
  obtain rfl := List.mem_singleton.mp h; simp⟩
theorem BOk.snoc {m k} {s : BSt} (g : BOk m k s) {p : MR} (hp : p ∈ s.1) {c z : Nat} (hc : c ∈ ltrs m) (h : ¬ s.1.length = 300) : BOk m k (s.1 ++ [(p.1 ++ [c], ledR k m p.2 c)], z) := by
  have gl := g.le
  refine ⟨by simp, by simp; omega, fun q hq => ?_, fun q hq => ?_, fun q hq => ?_, fun q hq => ?_⟩ <;> rcases List.mem_append.mp hq with hq | hq
  · exact g.row q hq
  · obtain rfl := List.mem_singleton.mp hq; simp
  · exact g.wd q hq
  · obtain rfl := List.mem_singleton.mp hq
    have := g.wd p hp
    simp only
    rw [this]
    simp [rowW, List.foldl_append]
  · exact g.lt q hq
  · obtain rfl := List.mem_singleton.mp hq
    intro x hx
    rcases List.mem_append.mp hx with hx | hx
    · exact g.lt p hp x hx
    · obtain rfl := List.mem_singleton.mp hx; exact hc
  · have := g.len q hq; simp; omega
  · obtain rfl := List.mem_singleton.mp hq
    have := g.len p hp
    simp; omega
/-- .. within a row's letters -/
theorem bLet_ok {m k} {s : BSt} (g : BOk m k s) {p : MR} (hp : p ∈ s.1) {c : Nat} (hc : c ∈ ltrs m) : BOk m k (bLet m k p.1 p.2 s c) ∧ p ∈ (bLet m k p.1 p.2 s c).1 := by
  unfold bLet
  split
  · split
    · exact ⟨g, hp⟩
    · split
      · exact ⟨⟨g.ne, g.le, g.row, g.wd, g.lt, g.len⟩, hp⟩
      · rename_i h
        exact ⟨g.snoc hp hc h, List.mem_append_left _ hp⟩
  · exact ⟨g, hp⟩
theorem bLets_ok {m k} {p : MR} : ∀ (l : List Nat) {s : BSt}, BOk m k s → p ∈ s.1 → (∀ c ∈ l, c ∈ ltrs m) → BOk m k (l.foldl (bLet m k p.1 p.2) s) ∧ p ∈ (l.foldl (bLet m k p.1 p.2) s).1
  | [], _, g, hp, _ => ⟨g, hp⟩
  | c :: l, s, g, hp, hc => by
    obtain ⟨g1, h1⟩ := bLet_ok g hp (hc c List.mem_cons_self)
    rw [List.foldl_cons]
    exact bLets_ok l g1 h1 fun x h => hc x (List.mem_cons_of_mem _ h)
theorem bN_ok {m k} : ∀ i, BOk m k (bN m k i)
  | 0 => BOk.one
  | i + 1 => by
    rw [bN]
    split
    · rename_i h
      exact (bLets_ok _ (bN_ok i) (nth_mem h.2) fun _ h => h).1
    · exact bN_ok i
theorem bfs_last {k i q : Nat} {m' : Mach} (hi : i < 300) (h0 : (bN m' k i).2 = 0) (hl : i < (bN m' k i).1.length) {s : BSt} (e : ((ltrs m').take q).foldl (bLet m' k (nth (bN m' k i).1 i).1 (nth (bN m' k i).1 i).2) (bN m' k i) = s) (hs : ¬ s.2 = 0) : bfs m' k = s := by
  have h1 : bN m' k (i + 1) = s := by
    rw [bN, if_pos ⟨h0, hl⟩, bRow, ← List.take_append_drop q (ltrs m'), List.foldl_append, e, bLets_stay _ hs]
  unfold bfs
  rw [← h1]
  exact bN_stay (by rw [h1]; exact hs) 300 (by omega)
theorem bfs_run {m : Mach} {k i : Nat} (hi : i ≤ 300) (hl : (bN m k i).1.length ≤ i) : bfs m k = bN m k i := bN_end hl 300 hi
/-! the dict of rows seen -/
def rwK (l : List MR) : List D := l.map fun p => rowD p.2
@[simp] theorem nk_o (x : Option Nat) (j) : (oD x).nk j = true := by cases x <;> (cases j <;> rfl)
theorem nks_row (r : Row) (j) : nks j (r.map oD) = true := by
  induction r with
  | nil => cases j <;> rfl
  | cons x r ih => simp only [List.map_cons, nks, nk_o, ih]; rfl
theorem okKey_row (r : Row) (l : List MR) : okKey (rowD r) (rwK l) = true := by
  have h1 : (rowD r).nk 8 = true := nks_row r 7
  have h2 : ((rwK l).isEmpty || headT (rwK l)) = true := by cases l <;> rfl
  have h3 : (rowD r).isTup = true := rfl
  unfold okKey
  rw [h1, h2, h3]; simp
theorem any_rwK (r : Row) (l : List MR) : ((rwK l).any fun y => y.eqv (rowD r)) = decide (r ∈ l.map (·.2)) := by
  induction l with
  | nil => rfl
  | cons p l ih =>
    simp only [rwK, List.map_cons, List.any_cons, eqv_row] at ih ⊢
    rw [ih]
    by_cases h : p.2 = r
    · subst h; simp
    · have : ¬ r = p.2 := fun e => h e.symm
      simp [h, this]
theorem dputs_row (r : Row) (l : List MR) (vs : List D) (x : D) (h : r ∉ l.map (·.2)) : dputs (rwK l) vs (rowD r) x = (rwK l ++ [rowD r], vs ++ [x]) := by
  unfold dputs
  rw [any_rwK, decide_eq_false h, if_neg (by simp)]
@[simp] theorem rwK_len (l) : (rwK l).length = l.length := by simp [rwK]
def tru (l : List MR) : List D := l.map fun _ => .bl true
@[simp] theorem tru_own (l) : (∀ x, x ∈ tru l → x.own = false) = True := eq_true fun x h => by
  unfold tru at h
  obtain ⟨_, _, rfl⟩ := List.mem_map.mp h
  rfl
@[simp] theorem tru_frz (l) : frzs (tru l) = tru l := frzs_map fun _ _ => rfl
@[simp] theorem known_c [Has fns 81 fn81] (m : Mach) (hm : MachOk m) : call 10000000000000000 fns (n + 1) 81 [machD m] = .ret (.str (ltrs m)) [machD m] := by
  have hc := cut_abc m hm
  have e : ltrs m = [97, 98, 99].take m.lets := rfl
  rw [← e] at hc
  generalize ltrs m = L at *
  refine call_eq rfl ?_
  simp [fn81, ir81, lentIx, hc]
def bfI (m : Mach) (k : Nat) (w : List Nat) (r : Row) (s0 : BSt) (q : Nat) (l : List MR) : Prop := ((ltrs m).take q).foldl (bLet m k w r) s0 = (l, 0) ∧ BOk m k (l, 0) ∧ (w, r) ∈ l ∧ s0.1.length ≤ l.length
theorem eq_oK (x : Option Nat) (k : Nat) : cmpop .eq (oD x) (.int ((k : Int) + 1)) = some (decide (x = some (k + 1))) := eq_o x (some (k + 1))
def metR (m : Mach) (k : Nat) : CR := if (bfs m k).2 = 2 then .exc (.exn 2 []) [machD m, .int (k : Int)] else .ret (.lst true ((bfs m k).1.map mrD)) [machD m, .int (k : Int)]
theorem rows_met_c [Has fns 42 fn42] [Has fns 59 fn59] [Has fns 64 fn64] [Has fns 67 fn67] [Has fns 68 fn68] [Has fns 69 fn69] [Has fns 81 fn81] [Has fns 82 fn82] (m : Mach) (hm : MachOk m) (k : Nat) : call 10000000000000000 fns (n + 4) 82 [machD m, .int (k : Int)] = metR m k := by
  generalize hR : metR m k = R
  have f1 : call 10000000000000000 fns (n + 3) 67 [machD m] = _ := first_row_c (n := n + 2) m hm
  have f2 : ∀ (r : Row) (c : Nat), r.length = m.rooms → c ∈ ltrs m → call 10000000000000000 fns (n + 3) 68 [machD m, .int (k : Int), rowD r, .str [c]] = _ := fun r c hr hc => led_c (n := n + 1) m hm k r hr c (ltr_lt hm hc)
  have f3 : ∀ (r : Row), r.length = m.rooms → call 10000000000000000 fns (n + 3) 69 [machD m, rowD r] = _ := fun r hr => end_of_c (n := n) m hm r hr
  refine call_eq rfl ?_
  have k0 : okKey (rowD (fstR m)) [] = true := okKey_row _ []
  simp [fn82, ir82, lentIx, f1, k0]
  have e1 : [D.tup [D.str [], rowD (fstR m)]] = (bN m k 0).1.map mrD := rfl
  have e2 : D.dic true [rowD (fstR m)] [D.bl true] = D.dic true (rwK (bN m k 0).1) (tru (bN m k 0).1) := rfl
  rw [e1, e2]
  refine wh_inv (fun j e => ∃ (i : Nat) (s6 s7 s8 s9 : Option D), j = 301 - i ∧ i ≤ (bN m k i).1.length ∧ (bN m k i).2 = 0 ∧ e = [some (machD m), some (.int (k : Int)), some (rowD (fstR m)), some (.lst true ((bN m k i).1.map mrD)), some (.dic true (rwK (bN m k i).1) (tru (bN m k i).1)), some (.int (i : Int)), s6, s7, s8, s9]) 10000000000000000 301 _ (by decide) ⟨0, _, _, _, _, rfl, by simp, rfl, rfl⟩ ?_
  rintro j e ⟨i, s6, s7, s8, s9, rfl, g1, g2, rfl⟩
  have ok := bN_ok (m := m) (k := k) i
  have hle := ok.le
  by_cases hi : i < (bN m k i).1.length
  · have hp := nth_mem hi
    have ix : ∀ t, idxD t (.int (i : Int)) (.lst true ((bN m k i).1.map mrD)) = some (.val (.tup [.str (nth (bN m k i).1 i).1, rowD (nth (bN m k i).1 i).2])) := fun t => idx_lstG t true mrD _ i hi fun _ => rfl
    have last := fun (q : Nat) (s : BSt) e hs => bfs_last (q := q) (s := s) (show i < 300 by omega) g2 hi e hs
    have nxt : bN m k (i + 1) = bRow m k (bN m k i) i := by rw [bN, if_pos ⟨g2, hi⟩]
    unfold bRow at nxt
    have hi' : (i : Int) < ((bN m k i).1.length : Int) := by omega
    generalize hs0 : bN m k i = s0 at *
    generalize nth s0.1 i = p at *
    obtain ⟨w, r⟩ := p
    have kn : call 10000000000000000 fns (n + 3) 81 [machD m] = _ := known_c (n := n + 2) m hm
    have hf0 : frzs (s0.1.map mrD) = s0.1.map mrD := frzs_map fun _ _ => rfl
    simp [whT, t82_1, hi', b82_2, ix, kn]
    obtain ⟨l0, z0⟩ := s0
    simp only at g1 g2 ok hi hle hi' hp ix last nxt hf0
    subst g2
    refine for_map (ltrs m) (fun c => D.str [c]) (fun q e => ∃ (l : List MR) (s8 s9 : Option D), bfI m k w r (l0, 0) q l ∧ e = [some (machD m), some (.int (k : Int)), some (rowD (fstR m)), some (.lst true (l.map mrD)), some (.dic true (rwK l) (tru l)), some (.int (i : Int)), some (.str w), some (rowD r), s8, s9]) rfl ⟨l0, s8, s9, ⟨rfl, ok, hp, by simp⟩, rfl⟩ ?_ ?_
    · rintro q c e hc ⟨l, s8, s9, ⟨q1, q3, q4, q5⟩, rfl⟩
      have hcm : c ∈ ltrs m := List.mem_of_getElem? hc
      have htk : ((ltrs m).take (q + 1)).foldl (bLet m k w r) (l0, 0) = bLet m k w r (l, 0) c := by
        rw [List.take_succ, hc, List.foldl_append, q1]; rfl
      have hr := q3.row _ q4
      have hwl := q3.len _ q4
      have hsl := q3.le
      simp only at hr hwl hsl q5
      have f2' := f2 r c hr hcm
      have f3' := f3 (ledR k m r c) (by simp)
      have eqk := eq_oK (endR m (ledR k m r c)) k
      have ok1 := okKey_row (ledR k m r c) l
      have any1 := any_rwK (ledR k m r c) l
      by_cases hin : ledR k m r c ∈ l.map (·.2)
      · have hb : bLet m k w r (l, 0) c = (l, 0) := by unfold bLet; rw [if_pos rfl, if_pos hin]
        rw [hb] at htk
        rw [decide_eq_true hin] at any1
        simp [forT, b82_3, f2', ok1, any1]
        exact ⟨l, ⟨htk, q3, q4, q5⟩, rfl, rfl, rfl⟩
      · rw [decide_eq_false hin] at any1
        by_cases hl : l.length = 300
        · have hb : bLet m k w r (l, 0) c = (l, 2) := by unfold bLet; rw [if_pos rfl, if_neg hin, if_pos hl]
          rw [hb] at htk
          have hz : R = .exc (.exn 2 []) [machD m, .int (k : Int)] := by rw [← hR, metR, last (q + 1) _ htk (by simp), if_pos rfl]
          subst hz
          simp [forT, b82_3, f2', ok1, any1, hl]
        · have hl' : ¬ ((l.length : Int) = 300) := by omega
          have hz1 : w.length + 1 ≤ sizeL := by rw [sizeL_val]; omega
          have hz2 : l.length < sizeL := by rw [sizeL_val]; omega
          have dp := dputs_row (ledR k m r c) l (tru l) (.bl true) hin
          have hmr : ∀ x : Row, D.tup [.str (w ++ [c]), rowD x] = mrD (w ++ [c], x) := fun _ => rfl
          by_cases he : endR m (ledR k m r c) = some (k + 1)
          · have hb : bLet m k w r (l, 0) c = (l ++ [(w ++ [c], ledR k m r c)], 1) := by unfold bLet; rw [if_pos rfl, if_neg hin, if_neg hl, if_pos he]
            rw [hb] at htk
            have hz : R = .ret (.lst true ((l ++ [(w ++ [c], ledR k m r c)]).map mrD)) [machD m, .int (k : Int)] := by rw [← hR, metR, last (q + 1) _ htk (by simp), if_neg (by simp)]
            subst hz
            simp [forT, b82_3, f2', ok1, any1, hl', hz1, hz2, dp, f3', eqk, he, hmr]
          · have hb : bLet m k w r (l, 0) c = (l ++ [(w ++ [c], ledR k m r c)], 0) := by unfold bLet; rw [if_pos rfl, if_neg hin, if_neg hl, if_neg he]
            rw [hb] at htk
            have q6 := q3.snoc (z := 0) q4 hcm hl
            simp [forT, b82_3, f2', ok1, any1, hl', hz1, hz2, dp, f3', eqk, he, hmr]
            exact ⟨_, ⟨htk, q6, List.mem_append_left _ q4, by simp; omega⟩, by simp, by simp [rwK], by simp [tru]⟩
    · rintro e ⟨l, s8, s9, ⟨q1, q3, q4, q5⟩, rfl⟩
      rw [List.take_length] at q1
      have hl := q3.le
      simp only at q5 hl
      rw [q1] at nxt
      simp
      exact ⟨_, by omega, i + 1, rfl, by rw [nxt]; simp only; omega, by rw [nxt], by rw [nxt], by rw [nxt]; exact ⟨rfl, rfl⟩, by simp⟩
  · have hn : i = (bN m k i).1.length := by omega
    have hb := bfs_run (show i ≤ 300 by omega) (show (bN m k i).1.length ≤ i by omega)
    have hz : R = .ret (.lst true ((bN m k i).1.map mrD)) [machD m, .int (k : Int)] := by rw [← hR, metR, hb, if_neg (by omega)]
    have hi' : ¬ (i : Int) < ((bN m k i).1.length : Int) := by omega
    generalize bN m k i = s0 at *
    subst hz
    simp [whT, t82_1, hi']
def wdK (l : List MR) : List D := l.map fun p => .str p.1
@[simp] theorem wdK_len (l) : (wdK l).length = l.length := by simp [wdK]
def fndR (m : Mach) (k : Nat) : D := if (bfs m k).2 = 2 then .non else .lst true (wdK (bfs m k).1)
@[simp] theorem frz_rwK (l) : frzs (rwK l) = rwK l := frzs_map fun _ _ => rfl
@[simp] theorem frz_wdK (l) : frzs (wdK l) = wdK l := frzs_map fun _ _ => rfl
@[simp] theorem own_rwK (l) : (∀ x, x ∈ rwK l → x.own = false) = True := eq_true fun x h => by
  unfold rwK at h
  obtain ⟨_, _, rfl⟩ := List.mem_map.mp h
  rfl
@[simp] theorem own_wdK (l) : (∀ x, x ∈ wdK l → x.own = false) = True := eq_true fun x h => by
  unfold wdK at h
  obtain ⟨_, _, rfl⟩ := List.mem_map.mp h
  rfl
end LT.K
/-! PBo: the words met, in their order -/
namespace LT.K
open LT
/-! words by length, then as texts -/
def slt (a b : List Nat) : Prop := a.length < b.length ∨ (a.length = b.length ∧ a < b)
theorem lt_app {a b : List Nat} (x y : List Nat) : a.length = b.length → a < b → a ++ x < b ++ y := by
  induction a generalizing b with
  | nil => intro h h2; cases b with
    | nil => exact absurd h2 (List.lt_irrefl _)
    | cons _ _ => simp at h
  | cons c a ih =>
    intro h h2
    cases b with
    | nil => simp at h
    | cons d b =>
      rw [List.cons_lt_cons_iff] at h2
      rw [List.cons_append, List.cons_append, List.cons_lt_cons_iff]
      rcases h2 with h2 | ⟨h2, h3⟩
      · exact .inl h2
      · exact .inr ⟨h2, ih (by simpa using h) h3⟩
theorem lt_app2 (a : List Nat) {x y : List Nat} (h : x < y) : a ++ x < a ++ y := by
  induction a with
  | nil => exact h
  | cons c a ih => rw [List.cons_append, List.cons_append, List.cons_lt_cons_iff]; exact .inr ⟨rfl, ih⟩
theorem lt_tr {a b c : List Nat} : a < b → b < c → a < c := fun h1 h2 => List.lt_trans h1 h2
theorem slt_irr (a : List Nat) : ¬ slt a a := fun h => h.elim (fun h => by omega) fun h => List.lt_irrefl _ h.2
theorem slt_tr {a b c : List Nat} (h1 : slt a b) (h2 : slt b c) : slt a c := by
  rcases h1 with h1 | ⟨h1, h3⟩ <;> rcases h2 with h2 | ⟨h2, h4⟩
  · exact .inl (by omega)
  · exact .inl (by omega)
  · exact .inl (by omega)
  · exact .inr ⟨by omega, lt_tr h3 h4⟩
theorem slt_snoc (a : List Nat) (c : Nat) : slt a (a ++ [c]) := .inl (by simp)
theorem slt_snoc2 {a b : List Nat} (h : slt a b) (c d : Nat) : slt (a ++ [c]) (b ++ [d]) := by
  rcases h with h | ⟨h, h2⟩
  · exact .inl (by simpa using h)
  · exact .inr ⟨by simpa using h, lt_app _ _ h h2⟩
theorem slt_snoc3 (a : List Nat) {c d : Nat} (h : c < d) : slt (a ++ [c]) (a ++ [d]) := .inr ⟨by simp, lt_app2 a (by rw [List.cons_lt_cons_iff]; exact .inl h)⟩
theorem slt_nil {a : List Nat} (h : a ≠ []) : slt [] a := .inl (by cases a with
  | nil => exact absurd rfl h
  | cons _ _ => simp)
/-- at most -/
def sle (a b : List Nat) : Prop := a = b ∨ slt a b
theorem sle_slt {a b c : List Nat} (h1 : sle a b) (h2 : slt b c) : slt a c := h1.elim (fun e => by rw [e]; exact h2) fun h => slt_tr h h2
/-! the letters rise -/
theorem ltrs_up {m : Mach} {t u c d : Nat} (h1 : (ltrs m)[t]? = some c) (h2 : (ltrs m)[u]? = some d) : t < u ↔ c < d := by
  unfold ltrs at h1 h2
  have e1 : ∀ (i x : Nat), ([97, 98, 99] : List Nat)[i]? = some x → x = 97 + i := by
    intro i x h
    match i with
    | 0 => simp at h; omega
    | 1 => simp at h; omega
    | 2 => simp at h; omega
    | i + 3 => simp at h
  have q1 := e1 t c (by rw [List.getElem?_take] at h1; split at h1; exact h1; cases h1)
  have q2 := e1 u d (by rw [List.getElem?_take] at h2; split at h2; exact h2; cases h2)
  omega
/-- (j, t) comes ahead of (i, q) -/
def ahdB (j t i q : Nat) : Prop := j < i ∨ (j = i ∧ t < q)
/-- what holds while row i's letters are gone through, q of them done -/
structure BOrd (m : Mach) (k : Nat) (l : List MR) (i q : Nat) : Prop where
  inc : l.Pairwise fun a b => slt a.1 b.1
  row : (l.map (·.2)).Nodup
  clo : ∀ j t c, j < l.length → (ltrs m)[t]? = some c → ahdB j t i q → ∃ p ∈ l, p.2 = ledR k m (nth l j).2 c ∧ sle p.1 ((nth l j).1 ++ [c])
  org : ∀ t, 0 < t → t < l.length → ∃ j u c, j < t ∧ (ltrs m)[u]? = some c ∧ ahdB j u i q ∧ (nth l t).1 = (nth l j).1 ++ [c]
  fst : 0 < l.length ∧ nth l 0 = ([], fstR m)
theorem nth_app {α : Type} [Inhabited α] (l r : List α) {i : Nat} (h : i < l.length) : nth (l ++ r) i = nth l i := by
  rw [nth_get (by simp; omega), nth_get h, List.getElem_append_left h]
theorem nth_end {α : Type} [Inhabited α] (l : List α) (x : α) : nth (l ++ [x]) l.length = x := by
  rw [nth_get (by simp)]; simp
theorem inc_nth {l : List MR} (h : l.Pairwise fun a b => slt a.1 b.1) {i j : Nat} (hj : j < l.length) (hi : i < j) : slt (nth l i).1 (nth l j).1 := by
  rw [nth_get (by omega), nth_get hj]
  exact List.pairwise_iff_getElem.mp h i j (by omega) hj hi
theorem BOrd.all {m k l i q} (g : BOrd m k l i q) {c : Nat} (hi : i < l.length) (hc : (ltrs m)[q]? = some c) {p : MR} (hp : p ∈ l) : slt p.1 ((nth l i).1 ++ [c]) := by
  obtain ⟨t, ht, rfl⟩ := List.getElem_of_mem hp
  rw [← nth_get ht]
  cases t with
  | zero => rw [g.fst.2]; exact slt_nil (by simp)
  | succ t =>
    obtain ⟨j, u, d, h1, h2, h3, h4⟩ := g.org (t + 1) (by omega) ht
    rw [h4]
    rcases h3 with h3 | ⟨rfl, h3⟩
    · exact slt_snoc2 (inc_nth g.inc hi h3) _ _
    · exact slt_snoc3 _ ((ltrs_up h2 hc).mp h3)
theorem BOrd.old {m k l i q} (g : BOrd m k l i q) {c : Nat} (hi : i < l.length) (hc : (ltrs m)[q]? = some c) (h : ledR k m (nth l i).2 c ∈ l.map (·.2)) : BOrd m k l i (q + 1) := by
  refine ⟨g.inc, g.row, fun j t d hj ht ha => ?_, fun t h0 ht => ?_, g.fst⟩
  · by_cases hq : ahdB j t i q
    · exact g.clo j t d hj ht hq
    · have : j = i ∧ t = q := by rcases ha with ha | ⟨ha, hb⟩ <;> (unfold ahdB at hq; omega)
      obtain ⟨rfl, rfl⟩ := this
      rw [hc] at ht
      cases ht
      obtain ⟨p, hp, e⟩ := List.mem_map.mp h
      exact ⟨p, hp, e, .inr (g.all hi hc hp)⟩
  · obtain ⟨j, u, d, h1, h2, h3, h4⟩ := g.org t h0 ht
    exact ⟨j, u, d, h1, h2, by rcases h3 with h3 | h3; exact .inl h3; exact .inr ⟨h3.1, by omega⟩, h4⟩
theorem BOrd.new {m k l i q} (g : BOrd m k l i q) {c : Nat} (hi : i < l.length) (hc : (ltrs m)[q]? = some c) (h : ledR k m (nth l i).2 c ∉ l.map (·.2)) : BOrd m k (l ++ [((nth l i).1 ++ [c], ledR k m (nth l i).2 c)]) i (q + 1) := by
  refine ⟨?_, ?_, fun j t d hj ht ha => ?_, fun t h0 ht => ?_, ?_⟩
  · rw [List.pairwise_append]
    exact ⟨g.inc, List.pairwise_singleton _ _, fun a ha b hb => by
      obtain rfl := List.mem_singleton.mp hb
      exact g.all hi hc ha⟩
  · rw [List.map_append, List.nodup_append]
    exact ⟨g.row, by simp, fun a ha b hb e => by
      simp at hb
      rw [e, hb] at ha
      exact h ha⟩
  · by_cases hj2 : j < l.length
    · rw [nth_app l _ hj2]
      by_cases hq : ahdB j t i q
      · obtain ⟨p, hp, e⟩ := g.clo j t d hj2 ht hq
        exact ⟨p, List.mem_append_left _ hp, e⟩
      · have : j = i ∧ t = q := by rcases ha with ha | ⟨ha, hb⟩ <;> (unfold ahdB at hq; omega)
        obtain ⟨rfl, rfl⟩ := this
        rw [hc] at ht
        cases ht
        exact ⟨_, List.mem_append_right _ (List.mem_singleton.mpr rfl), rfl, .inl rfl⟩
    · exfalso
      rcases ha with ha | ⟨ha, hb⟩ <;> omega
  · by_cases ht2 : t < l.length
    · obtain ⟨j, u, d, h1, h2, h3, h4⟩ := g.org t h0 ht2
      refine ⟨j, u, d, h1, h2, by rcases h3 with h3 | h3; exact .inl h3; exact .inr ⟨h3.1, by omega⟩, ?_⟩
      rw [nth_app l _ ht2, nth_app l _ (by omega)]
      exact h4
    · have : t = l.length := by simp at ht; omega
      subst this
      refine ⟨i, q, c, hi, hc, .inr ⟨rfl, by omega⟩, ?_⟩
      rw [nth_end, nth_app l _ hi]
  · exact ⟨by simp, by rw [nth_app l _ g.fst.1]; exact g.fst.2⟩
theorem BOrd.one {m k} : BOrd m k [([], fstR m)] 0 0 := by
  refine ⟨List.pairwise_singleton _ _, by simp, fun j t c hj ht ha => ?_, fun t h0 ht => ?_, by simp, rfl⟩
  · rcases ha with ha | ⟨_, ha⟩ <;> omega
  · simp at ht; omega
/-! the whole run -/
def noEnd (m : Mach) (k : Nat) (l : List MR) : Prop := ∀ p ∈ l, endR m p.2 ≠ some (k + 1)
/-- ended by a row above: what was there ahead of it -/
structure BLast (m : Mach) (k : Nat) (l : List MR) (l0 : List MR) (i q c : Nat) : Prop where
  eq : l = l0 ++ [((nth l0 i).1 ++ [c], ledR k m (nth l0 i).2 c)]
  lt : i < l0.length
  let_ : (ltrs m)[q]? = some c
  ord : BOrd m k l0 i q
  new : ledR k m (nth l0 i).2 c ∉ l0.map (·.2)
  no : noEnd m k l0
  up : endR m (ledR k m (nth l0 i).2 c) = some (k + 1)
/-- the run at row i, q letters done -/
def BRun (m : Mach) (k : Nat) (i q : Nat) (p : MR) (s : BSt) : Prop :=
  (s.2 = 0 ∧ BOrd m k s.1 i q ∧ noEnd m k s.1 ∧ i < s.1.length ∧ nth s.1 i = p) ∨ (s.2 = 1 ∧ ∃ l0 i q c, BLast m k s.1 l0 i q c) ∨ s.2 = 2
theorem bLet_run {m : Mach} {k i q c : Nat} {p : MR} {s : BSt} (hc : (ltrs m)[q]? = some c) (h : BRun m k i q p s) : BRun m k i (q + 1) p (bLet m k p.1 p.2 s c) := by
  rcases h with ⟨h0, g, ne, hi, hp⟩ | ⟨h1, h⟩ | h2
  · unfold bLet
    rw [if_pos h0]
    subst hp
    split
    · rename_i h
      exact .inl ⟨h0, g.old hi hc h, ne, hi, rfl⟩
    · rename_i h
      split
      · exact .inr (.inr rfl)
      · by_cases he : endR m (ledR k m (nth s.1 i).2 c) = some (k + 1)
        · rw [if_pos he]
          exact .inr (.inl ⟨rfl, s.1, i, q, c, rfl, hi, hc, g, h, ne, he⟩)
        · rw [if_neg he]
          refine .inl ⟨rfl, g.new hi hc h, fun x hx => ?_, by simp; omega, nth_app _ _ hi⟩
          rcases List.mem_append.mp hx with hx | hx
          · exact ne x hx
          · obtain rfl := List.mem_singleton.mp hx
            exact he
  · rw [bLet_stay (by omega)]
    exact .inr (.inl ⟨h1, h⟩)
  · rw [bLet_stay (by omega)]
    exact .inr (.inr h2)
theorem bLets_run {m : Mach} {k i : Nat} {p : MR} {s : BSt} (h : BRun m k i 0 p s) : ∀ q, q ≤ (ltrs m).length → BRun m k i q p (((ltrs m).take q).foldl (bLet m k p.1 p.2) s)
  | 0, _ => h
  | q + 1, hq => by
    have hc : (ltrs m)[q]? = some ((ltrs m)[q]'(by omega)) := List.getElem?_eq_getElem _
    rw [List.take_succ, hc, List.foldl_append]
    exact bLet_run hc (bLets_run h q (by omega))
theorem lstAt_mem (row : Row) : ∀ (rs : List Nat) (a : Option Nat) (v : Nat), rs.foldl (fun a r => omin a (nth row r)) a = some v → a = some v ∨ ∃ r ∈ rs, nth row r = some v
  | [], a, v, h => .inl h
  | r :: rs, a, v, h => by
    rw [List.foldl_cons] at h
    rcases lstAt_mem row rs _ v h with h | ⟨x, hx, e⟩
    · cases a with
      | none => exact .inr ⟨r, List.mem_cons_self, by simpa using h⟩
      | some y =>
        cases e : nth row r with
        | none => rw [e] at h; exact .inl (by simpa using h)
        | some z =>
          rw [e, omin_some] at h
          simp only [Option.some.injEq] at h
          by_cases q : y ≤ z
          · exact .inl (by rw [← h]; simp [Nat.min_eq_left q])
          · exact .inr ⟨r, List.mem_cons_self, by rw [e, ← h]; simp; omega⟩
    · exact .inr ⟨x, List.mem_cons_of_mem _ hx, e⟩
theorem end_fst (m : Mach) (hm : MachOk m) (k : Nat) : endR m (fstR m) ≠ some (k + 1) := by
  intro h
  unfold endR lstAt at h
  rcases lstAt_mem _ _ _ _ h with h | ⟨r, hr, e⟩
  · cases h
  · have hl := hm.e.lt r hr
    unfold fstR at e
    rw [nth_map_range _ hl] at e
    split at e <;> simp at e
theorem bN_run {m : Mach} (hm : MachOk m) {k : Nat} : ∀ i, ((bN m k i).2 = 0 ∧ BOrd m k (bN m k i).1 i 0 ∧ noEnd m k (bN m k i).1) ∨ ((bN m k i).2 = 1 ∧ ∃ l0 j q c, BLast m k (bN m k i).1 l0 j q c) ∨ (bN m k i).2 = 2
  | 0 => .inl ⟨rfl, BOrd.one, fun p hp => by
    obtain rfl := List.mem_singleton.mp hp
    exact end_fst m hm k⟩
  | i + 1 => by
    rcases bN_run hm i with ⟨h0, g, ne⟩ | ⟨h1, h⟩ | h2
    · by_cases hi : i < (bN m k i).1.length
      · have nxt : bN m k (i + 1) = bRow m k (bN m k i) i := by rw [bN, if_pos ⟨h0, hi⟩]
        have hr := bLets_run (p := nth (bN m k i).1 i) (.inl ⟨h0, g, ne, hi, rfl⟩) (ltrs m).length (Nat.le_refl _)
        rw [List.take_length] at hr
        rw [nxt]
        unfold bRow
        rcases hr with ⟨h0, g, ne, hi, hp⟩ | h | h
        · refine .inl ⟨h0, ⟨g.inc, g.row, fun j t c hj ht ha => ?_, fun t ht0 ht => ?_, g.fst⟩, ne⟩
          · refine g.clo j t c hj ht ?_
            have := (List.getElem?_eq_some_iff.mp ht).1
            rcases ha with ha | ⟨_, ha⟩
            · by_cases q : j < i
              · exact .inl q
              · exact .inr ⟨by omega, this⟩
            · omega
          · obtain ⟨j, u, d, h1, h2, h3, h4⟩ := g.org t ht0 ht
            exact ⟨j, u, d, h1, h2, .inl (by rcases h3 with h3 | h3 <;> omega), h4⟩
        · exact .inr (.inl h)
        · exact .inr (.inr h)
      · have nxt : bN m k (i + 1) = bN m k i := by rw [bN, if_neg fun z => hi z.2]
        rw [nxt]
        refine .inl ⟨h0, ⟨g.inc, g.row, fun j t c hj ht ha => g.clo j t c hj ht (.inl (by omega)), fun t ht0 ht => ?_, g.fst⟩, ne⟩
        obtain ⟨j, u, d, h1, h2, h3, h4⟩ := g.org t ht0 ht
        exact ⟨j, u, d, h1, h2, .inl (by rcases h3 with h3 | h3 <;> omega), h4⟩
    · have nxt : bN m k (i + 1) = bN m k i := by rw [bN, if_neg fun z => by have := z.1; omega]
      rw [nxt]
      exact .inr (.inl ⟨h1, h⟩)
    · have nxt : bN m k (i + 1) = bN m k i := by rw [bN, if_neg fun z => by have := z.1; omega]
      rw [nxt]
      exact .inr (.inr h2)
end LT.K
/-! P17: the first word above -/
namespace LT.K
open LT
variable {fns : Nat → Option Fn} {n : Nat}
def lastM (m : Mach) (k : Nat) : MR := nth (bfs m k).1 ((bfs m k).1.length - 1)
theorem bfs_ok (m : Mach) (k : Nat) : BOk m k (bfs m k) := bN_ok 300
theorem lastM_mem (m : Mach) (k : Nat) : lastM m k ∈ (bfs m k).1 := nth_mem (by have := (bfs_ok m k).ne; omega)
def abvD (m : Mach) (k : Nat) : D := if endR m (lastM m k).2 = some (k + 1) then .str (lastM m k).1 else .non
def abvR (m : Mach) (k : Nat) : CR := if (bfs m k).2 = 2 then .exc (.exn 2 []) [machD m, .int (k : Int)] else .ret (abvD m k) [machD m, .int (k : Int)]
def abvL (m : Mach) (k : Nat) : List D := if (bfs m k).2 = 2 then [] else [abvD m k]
end LT.K
/-! P19: too many rows -/
namespace LT.K
open LT
variable {fns : Nat → Option Fn} {n : Nat}
def isOver (m : Mach) (k : Nat) : Bool := decide ((bfs m k).2 = 2)
def more98 (m : Mach) : Mach := ⟨m.lets, m.rooms, (List.range m.rooms).filter (fun r => decide (r = 0) || decide (r ∈ m.begins)), m.ends, m.doors ++ [⟨0, 97, 0, 1⟩]⟩
end LT.K
namespace LT.K
open LT
variable {fns : Nat → Option Fn} {n : Nat}
@[simp] theorem dat_lstN (n : Nat) (o : Bool) (l : List Nat) : (D.lst o (l.map nD)).dat (n + 1) = true := by rw [D.dat]; exact dats_map n nD (fun x => by simp [D.dat]) l
@[simp] theorem ne_lstN (o o' : Bool) (a b : List Nat) : cmpop .ne (.lst o (a.map nD)) (.lst o' (b.map nD)) = some (!decide (a = b)) := by
  rw [cNe (dat_lstN 59 o a) (dat_lstN 59 o' b), D.eqv, eqvs_map nD eqv_n]
@[simp 20000] theorem idx_lstNL (t o) (l : List Nat) (h : 0 < l.length) : idxD t (.int (-1)) (.lst o (l.map nD)) = some (.val (.int ((nth l (l.length - 1) : Nat) : Int))) := idx_lstL t o nD l h fun _ => rfl
def tollOf (m : Mach) (ps : List Nat) : Nat := (ps.map fun p => (nth m.doors p).t).sum
end LT.K
namespace LT.K
open LT
variable {fns : Nat → Option Fn} {n : Nat}
/-- the table of a letter -/
def ltS (c : Nat) (t : List Row) (d : Door) : List Row := if d.l = c then t.set d.s ((nth t d.s).set d.g (omin (nth (nth t d.s) d.g) (some d.t))) else t
def ltT (m : Mach) (c : Nat) : List Row := m.doors.foldl (ltS c) (List.replicate m.rooms (List.replicate m.rooms none))
/-! a list within a list -/
@[simp] theorem kIdx1_refS (cl b i p e) (h : b.simple = true) : kIdx1 cl b (.ref i p) e = (evE cl b e).bind (kIdx2 (.ref i p)) := by simp [kIdx1, h]
@[simp] theorem at_cons (e : Env) (i s p) : Env.at e i (s :: p) = (e[i]?.getD none).bind (getP (s :: p)) := id rfl
@[simp] theorem getP_ix (k p xs) : getP (.ix k :: p) (.lst true xs) = xs[k]?.bind (getP p) := by rw [getP]
@[simp] theorem getP_nil (d) : getP [] d = some d := by rw [getP]
@[simp] theorem setP_ix (k p n xs) : setP (.ix k :: p) n (.lst true xs) = .lst true (xs.set k (setP p n (xs.getD k .non))) := by rw [setP]
@[simp] theorem setP_nil (n d) : setP [] n d = n := by rw [setP]
@[simp] theorem lesser_c1 [Has fns 42 fn42] (a : Option Nat) (b : Nat) : call 10000000000000000 fns (n + 1) 42 [oD a, .int (b : Int)] = .ret (oD (omin a (some b))) [oD a, .int (b : Int)] := lesser_c a (some b)
/-- rows that are lists -/
abbrev rlD (r : Row) : D := .lst true (r.map oD)
/-- the tolls of a letter's doors between two rooms -/
def tollsAt (m : Mach) (c i j : Nat) : List Nat := (m.doors.filter fun d => d.s = i ∧ d.l = c ∧ d.g = j).map fun d => d.t
end LT.K
namespace LT.K
open LT
variable {fns : Nat → Option Fn} {n : Nat}
@[simp 20000] theorem idx_lstI (t : T) (o : Bool) (l : List Int) (i : Nat) (h : i < l.length) : idxD t (.int (i : Int)) (.lst o (l.map D.int)) = some (.val (.int (nth l i))) := idx_lstG t o D.int l i h fun _ => rfl
@[simp] theorem own_int' (i : Int) : (D.int i).own = false := id rfl
@[simp] theorem x_cmp2 (cl c1 c2 a b c e) : evE (cl : Nat → List D → CR) (.cmp2 c1 c2 a b c) e = (evE cl a e).bind fun t e => if t.root then (evE cl b e).bind fun u e => match int1 t, int1 u with
    | some x, some y => (R.of (cmpop c1 (.int x) (.int y)) e).bind fun z e => if z = true then (evE cl c e).bind fun w e => match int1 w with
      | some x' => (R.of ((cmpop c2 (.int y) (.int x')).map .bl) e).bind fun z' e => .ok (.val z') e
      | none => .err else .ok (.val (.bl false)) e
    | _, _ => .err else .err := by rw [evE] <;> rfl
@[simp] theorem is_whole_int [Has fns 0 fn0] (x : Int) : call 10000000000000000 fns (n + 1) 0 [.int x] = .ret (.bl true) [.int x] := by
  refine call_eq rfl ?_
  simp [fn0, ir0, lentIx]
@[simp] theorem is_from_int [Has fns 0 fn0] [Has fns 1 fn1] (x a b : Int) : call 10000000000000000 fns (n + 2) 1 [.int x, .int a, .int b] = .ret (.bl (decide (a ≤ x ∧ x ≤ b))) [.int x, .int a, .int b] := by
  refine call_eq rfl ?_
  by_cases h1 : a ≤ x <;> by_cases h2 : x ≤ b <;> simp [fn1, ir1, lentIx, h1, h2, T.root, int1]
def comeG (ds : List Door) : List Nat → List Int → Nat → Option Nat
  | [], [], r => some r
  | c :: w, p :: ps, r => if 0 ≤ p ∧ p < (ds.length : Int) ∧ (nth ds p.toNat).s = r ∧ (nth ds p.toNat).l = c then comeG ds w ps (nth ds p.toNat).g else none
  | _, _, _ => none
def come (m : Mach) (w : List Nat) (s : Nat) (ps : List Int) : Option Nat := comeG m.doors w ps s
def wkI (m : Mach) (w : List Nat) (s g : Nat) (ps : List Int) (i : Nat) (e : Env) : Prop := ∃ (o : Bool) (r : Nat) (s7 s8 : Option D), come m w s ps = comeG m.doors (w.drop i) (ps.drop i) r ∧ e = [some (machD m), some (.str w), some (.int (s : Int)), some (.int (g : Int)), some (.lst o (ps.map D.int)), some (doorsD m.doors), some (.int (r : Int)), s7, s8]
/-! parts of lists -/
@[simp] theorem cutIx_nat (n k : Nat) : cutIx n (k : Int) = min k n := by unfold cutIx; rw [if_neg (by omega)]; simp
@[simp] theorem cutIx_nat1 (n k : Nat) : cutIx n ((k : Int) + 1) = min (k + 1) n := cutIx_nat n (k + 1)
@[simp] theorem cut_up (k : Nat) (o : Bool) (xs : List D) : cutD none (some (k : Int)) (.lst o xs) = some (.lst true (xs.take k)) := by
  simp [cutD, List.take_eq_take_iff]
@[simp] theorem cut_lo (k : Nat) (o : Bool) (xs : List D) : cutD (some (k : Int)) none (.lst o xs) = some (.lst true (xs.drop k)) := by
  simp [cutD]
  rw [List.take_of_length_le (by simp), List.drop_eq_drop_iff]
  omega
@[simp] theorem cut_lo1 (k : Nat) (o : Bool) (xs : List D) : cutD (some ((k : Int) + 1)) none (.lst o xs) = some (.lst true (xs.drop (k + 1))) := cut_lo (k + 1) o xs
@[simp 20000] theorem cut_upM {α : Type} (f : α → D) (k : Nat) (o : Bool) (xs : List α) : cutD none (some (k : Int)) (.lst o (xs.map f)) = some (.lst true ((xs.take k).map f)) := by rw [cut_up, List.map_take]
@[simp 20000] theorem cut_loM {α : Type} (f : α → D) (k : Nat) (o : Bool) (xs : List α) : cutD (some (k : Int)) none (.lst o (xs.map f)) = some (.lst true ((xs.drop k).map f)) := by rw [cut_lo, List.map_drop]
@[simp 20000] theorem cut_loM1 {α : Type} (f : α → D) (k : Nat) (o : Bool) (xs : List α) : cutD (some ((k : Int) + 1)) none (.lst o (xs.map f)) = some (.lst true ((xs.drop (k + 1)).map f)) := cut_loM f (k + 1) o xs
@[simp] theorem frzs_append (a b : List D) : frzs (a ++ b) = frzs a ++ frzs b := by
  induction a with
  | nil => rfl
  | cons x a ih => simp only [List.cons_append, frzs_cons, ih]
@[simp] theorem add_lst (o o' : Bool) (xs ys : List D) (h : xs.length + ys.length ≤ sizeL) : binop .add (.lst o xs) (.lst o' ys) = some (.lst true (xs ++ ys)) := by simp [binop, h]
end LT.K
namespace LT.K
open LT
variable {fns : Nat → Option Fn} {n : Nat}
end LT.K
namespace LT.K
open LT
variable {fns : Nat → Option Fn} {n : Nat}
def wT (m : Mach) (w : List Nat) : List Row := w.foldl (fun t c => tMul m.rooms t (ltT m c)) (tOne m.rooms)
def stR (k r : Nat) : Row := (List.range k).map fun j => if r = j then some 0 else none
def frW (m : Mach) (w : List Nat) (r : Nat) : Row := w.foldl (unR m) (stR m.rooms r)
end LT.K
/-! PSz: machines of a size, all short words, prices walked, what is a machine -/
namespace LT.K
open LT
variable {fns : Nat → Option Fn} {n : Nat}
/-- a machine of letters, rooms and tolls up to so much -/
structure SzOk (l r t : Nat) (m : Mach) : Prop where
  ok : MachOk m
  l : m.lets = l
  r : m.rooms = r
  t : ∀ d ∈ m.doors, d.t ≤ t
def prW (m : Mach) (w : List Nat) : Option Nat := endR m (lstW m w)
def pzI (m : Mach) (w : List Nat) (r : Row) (e : Env) : Prop := r.length = m.rooms ∧ ∃ o s4 s5 s6 s7 s8 s9, e = [some (machD m), some (.str w), some (.lst o (r.map oD)), none, s4, s5, s6, s7, s8, s9]
/-! what is a machine -/
@[simp] theorem from12 [Has fns 12 fn12] (x a b : Int) : call 10000000000000000 fns (n + 1) 12 [.int x, .int a, .int b] = .ret (.bl (decide (a ≤ x ∧ x ≤ b))) [.int x, .int a, .int b] := by
  refine call_eq rfl ?_
  by_cases h1 : a ≤ x <;> by_cases h2 : x ≤ b <;> simp [fn12, ir12, lentIx, h1, h2, T.root, int1]
@[simp] theorem ty_door (d) : tyD (doorD d) = some 4 := id rfl
@[simp] theorem ty_mach (d) : tyD (machD d) = some 4 := id rfl
@[simp] theorem ty_doors (d) : tyD (doorsD d) = some 4 := id rfl
@[simp] theorem len_door (l) : lenD (doorD l) = some 4 := by simp [doorD]
/-! turned -/
def dTrn (d : Door) : Door := ⟨d.g, d.l, d.s, d.t⟩
def trn (m : Mach) : Mach := ⟨m.lets, m.rooms, m.ends, m.begins, m.doors.map dTrn⟩
/-- a walk by a word that costs at most so much -/
def wk (ds : List Door) : List Nat → Nat → Nat → Nat → Prop
  | [], s, g, _ => s = g
  | c :: w, s, g, v => ∃ d ∈ ds, d.l = c ∧ d.s = s ∧ ∃ u, wk ds w d.g g u ∧ d.t + u ≤ v
/-- all words of the law -/
structure WsOk (l most many : Nat) (ws : List (List Nat)) : Prop where
  ok : ∀ w ∈ ws, WordOk l w ∧ w.length ≤ most
  len : ws.length ≤ many
@[simp] theorem mutL_ext (xs ys : List D) (o : Bool) (h : xs.length + ys.length ≤ sizeL) : mutL .extend xs [.lst o ys] = some (.non, xs ++ ys) := by
  simp [mutL, h]
def w1I (b : Bag) (l i : Nat) (e : Env) : Prop := ∃ (ws ah : List (List Nat)) (o : Bool) (s4 s5 s6 : Option D), WsOk l i (200 * (i + 1)) ws ∧ WsOk l i (4 ^ i) ah ∧ e = [some (bagD b), some (.int (l : Int)), some (.lst true (ws.map D.str)), some (.lst o (ah.map D.str)), s4, s5, s6, none, none]
end LT.K
/-! P18: none ahead of the first word above -/
namespace LT.K
open LT
variable {fns : Nat → Option Fn} {n : Nat}
def p91I (m : Mach) (w : List Nat) (r : Row) (e : Env) : Prop := r.length = m.rooms ∧ ∃ o s4 s5 s7 s8 s9 s10, e = [some (machD m), some (.str w), some (.lst o (r.map oD)), none, s4, s5, none, s7, s8, s9, s10]
/-- a price above -/
def ovr (k : Nat) : Option Nat → Bool
  | none => false
  | some v => decide (k < v)
def w93I (l i : Nat) (e : Env) : Prop := ∃ (ws so : List (List Nat)) (o : Bool) (s3 s4 s5 : Option D), WsOk l i (200 * (i + 1)) ws ∧ WsOk l i (4 ^ i) so ∧ e = [some (.int (l : Int)), some (.lst true (ws.map D.str)), some (.lst o (so.map D.str)), s3, s4, s5, none]
end LT.K
/-! P16: the rows met -/
namespace LT.K
open LT
variable {fns : Nat → Option Fn} {n : Nat}
/-! order of the words -/
open Classical in
noncomputable def sltB (a b : List Nat) : Bool := decide (slt a b)
theorem sltB_t {a b : List Nat} (h : slt a b) : sltB a b = true := by simp [sltB, h]
theorem sltB_f {a b : List Nat} (h : ¬ slt a b) : sltB a b = false := by simp [sltB, h]
def tpD (a : List Nat) : List D := [.int (a.length : Int), .str a]
theorem lex_ge (a b : List Nat) : lexD .ge (tpD a) (tpD b) = some (!sltB a b) := by
  unfold tpD
  by_cases h0 : a.length = b.length
  · have h3 : ((a.length : Int) == (b.length : Int)) = true := by simp [h0]
    by_cases h1 : a = b
    · subst h1
      rw [sltB_f (slt_irr a)]
      simp [lexD, itemOp, D.eqv]
    · by_cases h2 : a < b
      · rw [sltB_t (.inr ⟨h0, h2⟩)]
        simp [lexD, itemOp, D.eqv, h3, h1, h2]
      · rw [sltB_f (fun q => q.elim (fun q => by omega) fun q => h2 q.2)]
        simp [lexD, itemOp, D.eqv, h3, h1, h2]
  · have h3 : ((a.length : Int) == (b.length : Int)) = false := by simp; omega
    by_cases h2 : a.length < b.length
    · rw [sltB_t (.inl h2)]
      have h4 : ¬ (b.length : Int) ≤ (a.length : Int) := by omega
      simp [lexD, itemOp, D.eqv, h3, h4]
    · rw [sltB_f (fun q => q.elim (fun q => h2 q) fun q => h0 q.1)]
      have h4 : (b.length : Int) ≤ (a.length : Int) := by omega
      simp [lexD, itemOp, D.eqv, h3, h4]
theorem lex_gt (a b : List Nat) : lexD .gt (tpD a) (tpD b) = some (sltB b a) := by
  unfold tpD
  by_cases h0 : a.length = b.length
  · have h3 : ((a.length : Int) == (b.length : Int)) = true := by simp [h0]
    by_cases h1 : a = b
    · subst h1
      rw [sltB_f (slt_irr a)]
      simp [lexD, itemOp, D.eqv]
    · by_cases h2 : b < a
      · rw [sltB_t (.inr ⟨h0.symm, h2⟩)]
        simp [lexD, itemOp, D.eqv, h3, h1, h2]
      · rw [sltB_f (fun q => q.elim (fun q => by omega) fun q => h2 q.2)]
        simp [lexD, itemOp, D.eqv, h3, h1, h2]
  · have h3 : ((a.length : Int) == (b.length : Int)) = false := by simp; omega
    by_cases h2 : b.length < a.length
    · rw [sltB_t (.inl h2)]
      simp [lexD, itemOp, D.eqv, h3]; omega
    · rw [sltB_f (fun q => q.elim (fun q => h2 q) fun q => h0 q.1.symm)]
      simp [lexD, itemOp, D.eqv, h3]; omega
theorem tpD_snoc (w : List Nat) (c : Nat) : [D.int ((w.length : Int) + 1), D.str (w ++ [c])] = tpD (w ++ [c]) := by simp [tpD]
@[simp] theorem frz_tp (w : List Nat) : frzs (tpD w) = tpD w := by simp [tpD]
theorem tpD_eq (w : List Nat) : [D.int (w.length : Int), D.str w] = tpD w := rfl
/-! the list that is met -/
theorem met_ord {m : Mach} (hm : MachOk m) {k : Nat} (h2 : (bfs m k).2 ≠ 2) : ∃ i q, BOrd m k (bfs m k).1 i q := by
  rcases bN_run hm (k := k) 300 with ⟨h0, g, _⟩ | ⟨h1, l0, j, q, c, b⟩ | h
  · exact ⟨_, _, g⟩
  · have := b.ord.new b.lt b.let_ b.new
    rw [← b.eq] at this
    exact ⟨_, _, this⟩
  · exact absurd h h2
def rwV (l : List MR) : List D := l.map fun p => rowD p.2
theorem dget_wd : ∀ (l : List MR) (x : MR), x ∈ l → (l.Pairwise fun a b => a.1 ≠ b.1) → dget (wdK l) (rwK l) (.str x.1) = some (rowD x.2)
  | p :: l, x, hx, hp => by
    simp only [wdK, rwK, List.map_cons, dget]
    rcases List.mem_cons.mp hx with rfl | hx
    · simp [D.eqv]
    · have h1 := (List.pairwise_cons.mp hp).1 x hx
      rw [if_neg (by simp [D.eqv]; exact h1)]
      exact dget_wd l x hx (List.pairwise_cons.mp hp).2
theorem dget_rw : ∀ (l : List MR) (x : MR), x ∈ l → (l.map (·.2)).Nodup → dget (rwK l) (wdK l) (rowD x.2) = some (.str x.1)
  | p :: l, x, hx, hp => by
    simp only [wdK, rwK, List.map_cons, dget, eqv_row]
    rw [List.map_cons, List.nodup_cons] at hp
    rcases List.mem_cons.mp hx with rfl | hx
    · simp
    · have h1 : ¬ p.2 = x.2 := fun e => hp.1 (by rw [e]; exact List.mem_map_of_mem hx)
      rw [if_neg (by simp; exact h1)]
      exact dget_rw l x hx hp.2
theorem any_wdK (w : List Nat) (l : List MR) : ((wdK l).any fun y => y.eqv (.str w)) = decide (w ∈ l.map (·.1)) := by
  induction l with
  | nil => rfl
  | cons p l ih =>
    simp only [wdK, List.map_cons, List.any_cons] at ih ⊢
    rw [ih]
    by_cases h : p.1 = w
    · subst h; simp [D.eqv]
    · have h3 : (p.1 == w) = false := by simpa using h
      have h4 : (w == p.1) = false := by simp; exact fun e => h e.symm
      have : ¬ w = p.1 := fun e => h e.symm
      simp [D.eqv, h3, h4, this]
theorem dputs_wd (w : List Nat) (l : List MR) (vs : List D) (x : D) (h : w ∉ l.map (·.1)) : dputs (wdK l) vs (.str w) x = (wdK l ++ [.str w], vs ++ [x]) := by
  unfold dputs
  rw [any_wdK, decide_eq_false h, if_neg (by simp)]
theorem headT_wd (l) : headT (wdK l) = false := by cases l <;> rfl
theorem idx_last (t : T) (v : List Nat) (c : Nat) (h : v.length + 1 ≤ sizeL) : idxD t (.int (-1)) (.str (v ++ [c])) = some (.val (.str [c])) := by
  have h1 : ixOf (v ++ [c]).length (-1) = some v.length := by
    unfold ixOf
    simp
    omega
  simp only [idxD]
  rw [if_pos (by simpa using h), h1]
  simp
theorem cut_ltrs (m : Mach) (hm : MachOk m) (o : Bool) : cutD none (some (m.lets : Int)) (.lst o [.str [97], .str [98], .str [99]]) = some (.lst true ((ltrs m).map fun c => D.str [c])) := by
  have h : m.lets = 1 ∨ m.lets = 2 ∨ m.lets = 3 := by have := hm.l0; have := hm.l1; omega
  unfold ltrs
  rcases h with e | e | e <;> rw [e] <;> rfl
theorem nin_ltrs (m : Mach) (hm : MachOk m) (c : Nat) (hc : c ∈ ltrs m) : cmpop .nin (.str [c]) (.lst false ((ltrs m).map fun c => D.str [c])) = some false := by
  have h : m.lets = 1 ∨ m.lets = 2 ∨ m.lets = 3 := by have := hm.l0; have := hm.l1; omega
  unfold ltrs at hc ⊢
  rcases h with e | e | e <;> rw [e] at hc ⊢ <;> simp at hc
  · subst hc; rfl
  · rcases hc with rfl | rfl <;> rfl
  · rcases hc with rfl | rfl | rfl <;> rfl
theorem all_lt200 {w : List Nat} (h : ∀ c ∈ w, c < 200) : w.all (· < 1114112) = true := List.all_eq_true.mpr fun c hc => by have := h c hc; simp; omega
/-- a word's forerunner is met ahead of it -/
structure MStep (m : Mach) (k : Nat) (p : List MR) (x : MR) : Prop where
  row : x.2.length = m.rooms
  nw : x.1 ∉ p.map (·.1)
  nr : x.2 ∉ p.map (·.2)
  len : x.1.length ≤ 300
  lt : ∀ c ∈ x.1, c < 200
  dj : p.Pairwise fun a b => a.1 ≠ b.1
  ahead : (x.1 = [] ∧ x.2 = fstR m) ∨ ∃ y c, y ∈ p ∧ c ∈ ltrs m ∧ x.1 = y.1 ++ [c] ∧ x.2 = ledR k m y.2 c
theorem met_step {m : Mach} (hm : MachOk m) {k : Nat} (h2 : (bfs m k).2 ≠ 2) {p q : List MR} {x : MR} (e : (bfs m k).1 = p ++ x :: q) : MStep m k p x := by
  obtain ⟨i, t, g⟩ := met_ord hm h2
  have ok := bfs_ok m k
  have hx : x ∈ (bfs m k).1 := by rw [e]; simp
  have inc := g.inc
  rw [e] at inc
  have hnd := g.row
  rw [e, List.map_append, List.map_cons] at hnd
  refine ⟨ok.row x hx, fun h => ?_, fun h => ?_, by have := ok.len x hx; have := ok.le; omega, fun c hc => ltr_lt hm (ok.lt x hx c hc), ?_, ?_⟩
  · obtain ⟨y, hy, e2⟩ := List.mem_map.mp h
    have := (List.pairwise_append.mp inc).2.2 y hy x List.mem_cons_self
    rw [e2] at this
    exact slt_irr _ this
  · exact (List.nodup_append.mp hnd).2.2 _ h _ List.mem_cons_self rfl
  · exact (List.pairwise_append.mp inc).1.imp fun {a b} h z => by rw [z] at h; exact slt_irr _ h
  · have hn : nth (bfs m k).1 p.length = x := by rw [e, nth_get (by simp)]; simp
    have hl : p.length < (bfs m k).1.length := by rw [e]; simp
    by_cases h0 : p.length = 0
    · rw [h0, g.fst.2] at hn
      rw [← hn]
      exact .inl ⟨rfl, rfl⟩
    · obtain ⟨j, u, c, h1, h3, _, h5⟩ := g.org p.length (by omega) hl
      have hj : nth (bfs m k).1 j = nth p j := by rw [e]; exact nth_app p _ h1
      have hjm : nth p j ∈ p := nth_mem h1
      refine .inr ⟨nth p j, c, hjm, List.mem_of_getElem? h3, by rw [← hn, h5, hj], ?_⟩
      have w1 := ok.wd x hx
      have w2 := ok.wd (nth p j) (by rw [e]; exact List.mem_append_left _ hjm)
      rw [w1, w2, ← hn, h5, hj]
      simp [rowW, List.foldl_append]
theorem rows84 [Has fns 71 fn71] [Has fns 72 fn72] [Has fns 74 fn74] [Has fns 84 fn84] (m : Mach) (hm : MachOk m) (k : Nat) (h2 : (bfs m k).2 ≠ 2) : call 10000000000000000 fns (n + 2) 84 [machD m, .int (k : Int), .lst false ((bfs m k).1.map mrD)] = .ret (.bl true) [machD m, .int (k : Int), .lst false ((bfs m k).1.map mrD)] := by
  have f1 : call 10000000000000000 fns (n + 1) 71 [machD m] = _ := first71 (n := n) m hm
  have f2 : ∀ (r : Row) (c : Nat), r.length = m.rooms → c ∈ ltrs m → call 10000000000000000 fns (n + 1) 72 [machD m, .int (k : Int), rowD r, .str [c]] = _ := fun r c hr hc => led72 (n := n) m hm k r hr c (ltr_lt hm hc)
  have f3 : ∀ r, call 10000000000000000 fns (n + 1) 74 [rowD r, rowD r] = _ := fun r => isrow74 (n := n) r
  have ne := (bfs_ok m k).ne
  have le := (bfs_ok m k).le
  have st : ∀ (p q : List MR) (x : MR), (bfs m k).1 = p ++ x :: q → MStep m k p x := fun p q x => met_step hm h2
  have rl := (bfs_ok m k).row
  have cl := cut_ltrs m hm
  generalize (bfs m k).1 = L at *
  have h0 : ¬ (L.length : Int) = 0 := by omega
  have h3 : ¬ (300 : Int) < L.length := by omega
  refine call_eq rfl ?_
  simp [fn84, ir84, lentIx, h0, h3]
  refine ⟨fun e => by subst e; simp at ne, ?_⟩
  refine for_map L mrD (fun i e => ∃ (p q : List MR) (s5 s6 : Option D), L = p ++ q ∧ p.length = i ∧ e = [some (machD m), some (.int (k : Int)), some (.lst false (L.map mrD)), some (.dic true (rwK p) (tru p)), some (.dic true (wdK p) (rwK p)), s5, s6]) rfl ⟨[], L, none, none, rfl, rfl, rfl⟩ ?_ ?_
  · rintro i x e hi ⟨p, q, s5, s6, hL, rfl, rfl⟩
    obtain ⟨q, rfl⟩ : ∃ q', q = x :: q' := by
      rw [hL, List.getElem?_append_right (Nat.le_refl _), Nat.sub_self] at hi
      cases q with
      | nil => simp at hi
      | cons y q => simp at hi; subst hi; exact ⟨q, rfl⟩
    have S := st p q x hL
    have rlp : ∀ y ∈ p, y.2.length = m.rooms := fun y hy => rl y (hL ▸ List.mem_append_left _ hy)
    obtain ⟨w, r⟩ := x
    have ok1 := okKey_row r p
    have any1 := any_rwK r p
    rw [decide_eq_false S.nr] at any1
    have dp1 := dputs_row r p (tru p) (.bl true) S.nr
    have dp2 := dputs_wd w p (rwK p) (rowD r) S.nw
    have g3 : rwK p ++ [rowD r] = rwK (p ++ [(w, r)]) := by simp [rwK]
    have g4 : wdK p ++ [.str w] = wdK (p ++ [(w, r)]) := by simp [wdK]
    have g5 : tru p ++ [.bl true] = tru (p ++ [(w, r)]) := by simp [tru]
    have ht := headT_wd p
    have hpz : p.length < sizeL := by rw [sizeL_val]; rw [hL] at le; simp at le; omega
    have mr : mrD (w, r) = .tup [.str w, rowD r] := rfl
    have nxt : ∃ (p' q' : List MR), L = p' ++ q' ∧ p'.length = p.length + 1 ∧ p' = p ++ [(w, r)] := ⟨p ++ [(w, r)], q, hL.trans (by simp), by simp, rfl⟩
    rcases S.ahead with ⟨h1, h4⟩ | ⟨y, c, hy, hc, h1, h4⟩
    · simp only at h1 h4
      subst h1 h4
      have e0 : cmpop .ne (.str []) (.str []) = some false := by rw [ne_str _ _ rfl rfl]; simp
      simp [forT, b84_1, mr, f1, f3, ok1, any1, dp1, dp2, g3, g4, g5, ht, hpz, e0]
      exact ⟨_, ⟨q, hL.trans (by simp)⟩, by simp, ⟨rfl, rfl⟩, rfl, rfl⟩
    · simp only at h1 h4
      subst h1
      have hyl : y.1.length + 1 ≤ sizeL := by rw [sizeL_val]; have := S.len; simp at this; omega
      have cu := cutU_str (y.1 ++ [c]) (by simpa using hyl)
      have tk : (y.1 ++ [c]).take ((y.1 ++ [c]).length - 1) = y.1 := by simp
      rw [tk] at cu
      have il := fun t => idx_last t y.1 c hyl
      have dg := dget_wd p y hy S.dj
      have anyw := any_wdK y.1 p
      rw [decide_eq_true (List.mem_map_of_mem hy)] at anyw
      have f2' := f2 y.2 c (rlp y hy) hc
      rw [← h4] at f2'
      have nl := nin_ltrs m hm c hc
      have d1 : (y.1 ++ [c]).all (· < 1114112) = true := all_lt200 S.lt
      have e0 : cmpop .ne (.str (y.1 ++ [c])) (.str []) = some true := by rw [ne_str _ _ d1 rfl]; simp
      generalize hww : y.1 ++ [c] = ww at *
      simp [forT, b84_1, mr, f1, f3, ok1, any1, dp1, dp2, g3, g4, g5, ht, hpz, e0, cu, il, dg, anyw, f2', cl, nl]
      exact ⟨_, ⟨q, hL.trans (by simp)⟩, by simp, ⟨rfl, rfl⟩, rfl, rfl⟩
  · rintro e ⟨p, q, s5, s6, e1, e2, rfl⟩
    simp
/-- what the whole list is to keep -/
structure MWhole (m : Mach) (k : Nat) (L : List MR) (z : MR) : Prop where
  ends : ∀ x ∈ L, endR m x.2 = some (k + 1) → x = z
  inc : ∀ j, j + 1 < L.length → slt (nth L j).1 (nth L (j + 1)).1
  clo : ∀ x ∈ L, ∀ c ∈ ltrs m, (endR m z.2 ≠ some (k + 1) ∨ slt (x.1 ++ [c]) z.1) → ∃ p ∈ L, p.2 = ledR k m x.2 c ∧ ¬ slt (x.1 ++ [c]) p.1
  fst : (nth L 0).1 = []
theorem sle_nslt {a b} (h : sle a b) : ¬ slt b a := fun q => slt_irr _ (sle_slt h q)
theorem met_whole {m : Mach} (hm : MachOk m) {k : Nat} (h2 : (bfs m k).2 ≠ 2) : MWhole m k (bfs m k).1 (lastM m k) := by
  have ok := bfs_ok m k
  have ltix : ∀ c ∈ ltrs m, ∃ t, (ltrs m)[t]? = some c := fun c hc => List.getElem?_of_mem hc
  rcases bN_run hm (k := k) 300 with ⟨h0, g, ne⟩ | ⟨h1, l0, i, q, c0, b⟩ | h
  · have hz : endR m (lastM m k).2 ≠ some (k + 1) := ne _ (lastM_mem m k)
    refine ⟨fun x hx h => absurd h (ne x hx), fun j hj => inc_nth g.inc hj (by omega), fun x hx c hc _ => ?_, by unfold bfs; rw [g.fst.2]⟩
    obtain ⟨t, ht⟩ := ltix c hc
    obtain ⟨j, hj, rfl⟩ := List.getElem_of_mem hx
    rw [← nth_get hj]
    obtain ⟨p, hp, e1, e2⟩ := g.clo j t c hj ht (.inl (by have := ok.le; omega))
    exact ⟨p, hp, e1, sle_nslt e2⟩
  · have hl : lastM m k = ((nth l0 i).1 ++ [c0], ledR k m (nth l0 i).2 c0) := by
      unfold lastM bfs
      rw [b.eq]
      simp only [List.length_append, List.length_cons, List.length_nil, Nat.zero_add, Nat.add_sub_cancel]
      exact nth_end _ _
    have g2 := b.ord.new b.lt b.let_ b.new
    rw [← b.eq] at g2
    have hup : endR m (lastM m k).2 = some (k + 1) := by rw [hl]; exact b.up
    refine ⟨fun x hx h => ?_, fun j hj => inc_nth g2.inc hj (by omega), fun x hx c hc hs => ?_, by unfold bfs; rw [g2.fst.2]⟩
    · unfold bfs at hx
      rw [b.eq] at hx
      rcases List.mem_append.mp hx with hx | hx
      · exact absurd h (b.no x hx)
      · rw [List.mem_singleton.mp hx, hl]
    · have hs : slt (x.1 ++ [c]) ((nth l0 i).1 ++ [c0]) := by
        rcases hs with hs | hs
        · exact absurd hup hs
        · rw [hl] at hs; exact hs
      obtain ⟨t, ht⟩ := ltix c hc
      unfold bfs at hx ⊢
      rw [b.eq] at hx ⊢
      rcases List.mem_append.mp hx with hx | hx
      · obtain ⟨j, hj, rfl⟩ := List.getElem_of_mem hx
        rw [← nth_get hj] at hs ⊢
        have ha : ahdB j t i q := by
          rcases Nat.lt_trichotomy j i with q1 | q1 | q1
          · exact .inl q1
          · refine .inr ⟨q1, ?_⟩
            subst q1
            rw [ltrs_up ht b.let_]
            rcases Nat.lt_trichotomy c c0 with q2 | q2 | q2
            · exact q2
            · subst q2; exact absurd hs (slt_irr _)
            · exact absurd (slt_tr hs (slt_snoc3 _ q2)) (slt_irr _)
          · exact absurd (slt_tr hs (slt_snoc2 (inc_nth b.ord.inc hj q1) c0 c)) (slt_irr _)
        obtain ⟨p, hp, e1, e2⟩ := b.ord.clo j t c hj ht ha
        exact ⟨p, List.mem_append_left _ hp, e1, sle_nslt e2⟩
      · obtain rfl := List.mem_singleton.mp hx
        exact absurd (slt_tr (slt_snoc _ c) hs) (slt_irr _)
  · exact absurd h h2
theorem whole85 [Has fns 72 fn72] [Has fns 73 fn73] [Has fns 85 fn85] (m : Mach) (hm : MachOk m) (k : Nat) (h2 : (bfs m k).2 ≠ 2) : call 10000000000000000 fns (n + 2) 85 [machD m, .int (k : Int), .lst false ((bfs m k).1.map mrD)] = .ret (.bl true) [machD m, .int (k : Int), .lst false ((bfs m k).1.map mrD)] := by
  have h5 : m.ends.length ≤ 5 := by have := rooms_len hm.e; have := hm.r1; omega
  have f2 : ∀ (r : Row) (c : Nat), r.length = m.rooms → c ∈ ltrs m → call 10000000000000000 fns (n + 1) 72 [machD m, .int (k : Int), rowD r, .str [c]] = _ := fun r c hr hc => led72 (n := n) m hm k r hr c (ltr_lt hm hc)
  have f3 : ∀ (r : Row), r.length = m.rooms → call 10000000000000000 fns (n + 1) 73 [machD m, rowD r] = _ := fun r hr => end73 (n := n) m hm r hr h5
  have ok := bfs_ok m k
  have ne := ok.ne
  have le := ok.le
  have rl := ok.row
  have lt := ok.lt
  have ln := ok.len
  have st : ∀ (p q : List MR) (x : MR), (bfs m k).1 = p ++ x :: q → MStep m k p x := fun p q x => met_step hm h2
  have W := met_whole hm h2
  have zl : nth (bfs m k).1 ((bfs m k).1.length - 1) = lastM m k := rfl
  have zm := lastM_mem m k
  obtain ⟨i0, q0, g0⟩ := met_ord hm h2
  have hnd := g0.row
  generalize lastM m k = z at *
  generalize (bfs m k).1 = L at *
  have hzz := rl z zm
  have hzl : z.1.length ≤ sizeL := by rw [sizeL_val]; have := ln z zm; omega
  have ixl : ∀ t, idxD t (.int (-1)) (.lst false (L.map mrD)) = some (.val (.tup [.str z.1, rowD z.2])) := fun t => by
    have := idx_lstL t false mrD L (by omega) fun _ => rfl
    rw [zl] at this
    exact this
  have ix0 : ∀ t, idxD t (.int 0) (.lst false (L.map mrD)) = some (.val (mrD (nth L 0))) := fun t => idx_lstG t false mrD L 0 (by omega) fun _ => rfl
  have ixj : ∀ t (j : Nat), j < L.length → idxD t (.int (j : Int)) (.lst false (L.map mrD)) = some (.val (mrD (nth L j))) := fun t j hj => idx_lstG t false mrD L j hj fun _ => rfl
  have eqk := fun x => eq_oK x k
  have hc := cut_abc m hm
  have el : ltrs m = [97, 98, 99].take m.lets := rfl
  rw [← el] at hc
  refine call_eq rfl ?_
  simp [fn85, ir85, lentIx, ixl, hzl, f3, hzz, eqk]
  rw [show [D.int (z.1.length : Int), D.str z.1] = tpD z.1 from rfl]
  refine for_map L mrD (fun i e => ∃ (p q : List MR) (s6 s7 s8 s9 s10 s11 : Option D), L = p ++ q ∧ p.length = i ∧ e = [some (machD m), some (.int (k : Int)), some (.lst false (L.map mrD)), some (.tup (tpD z.1)), some (.bl (decide (endR m z.2 = some (k + 1)))), some (.dic true (rwK p) (wdK p)), s6, s7, s8, s9, s10, s11]) rfl ⟨[], L, none, none, none, none, none, none, rfl, rfl, rfl⟩ ?_ ?_
  · rintro i x e hi ⟨p, q, s6, s7, s8, s9, s10, s11, hL, rfl, rfl⟩
    obtain ⟨q, rfl⟩ : ∃ q', q = x :: q' := by
      rw [hL, List.getElem?_append_right (Nat.le_refl _), Nat.sub_self] at hi
      cases q with
      | nil => simp at hi
      | cons y q => simp at hi; subst hi; exact ⟨q, rfl⟩
    have S := st p q x hL
    have hx : x ∈ L := by rw [hL]; simp
    have hen := W.ends x hx
    obtain ⟨w, r⟩ := x
    have ok1 := okKey_row r p
    have dp1 := dputs_row r p (wdK p) (.str w) S.nr
    have g3 : rwK p ++ [rowD r] = rwK (p ++ [(w, r)]) := by simp [rwK]
    have g4 : wdK p ++ [.str w] = wdK (p ++ [(w, r)]) := by simp [wdK]
    have hpz : p.length < sizeL := by rw [sizeL_val]; rw [hL] at le; simp at le; omega
    have mr : mrD (w, r) = .tup [.str w, rowD r] := rfl
    have hr := S.row
    have hw := S.lt
    simp only at hr hen hw
    by_cases he : endR m r = some (k + 1)
    · have := hen he
      subst this
      have e0 : cmpop .ne (.str w) (.str w) = some false := by rw [ne_str _ _ (all_lt200 hw) (all_lt200 hw)]; simp
      simp [forT, b85_1, mr, f3, hr, ok1, dp1, g3, g4, hpz, eqk, he, ixl, e0]
      exact ⟨_, ⟨q, hL.trans (by simp)⟩, by simp, rfl, rfl⟩
    · simp [forT, b85_1, mr, f3, hr, ok1, dp1, g3, g4, hpz, eqk, he]
      exact ⟨_, ⟨q, hL.trans (by simp)⟩, by simp, rfl, rfl⟩
  · rintro e ⟨p, q, s6, s7, s8, s9, s10, s11, hL, hpl, rfl⟩
    obtain rfl : q = [] := by
      rw [hL] at hpl
      simp at hpl
      exact hpl
    rw [List.append_nil] at hL
    subst hL
    obtain ⟨N, hN⟩ : ∃ N, L.length = N + 1 := ⟨L.length - 1, by omega⟩
    have hN1 : (L.length : Int) - 1 = (N : Int) := by omega
    have hN2 : smallR (N : Int) = true := smallR_nat (by omega)
    simp [hN1, hN2]
    refine for_rng (fun i e => ∃ (s6 s7 s8 s9 s10 s11 : Option D), e = [some (machD m), some (.int (k : Int)), some (.lst false (L.map mrD)), some (.tup (tpD z.1)), some (.bl (decide (endR m z.2 = some (k + 1)))), some (.dic true (rwK L) (wdK L)), s6, s7, s8, s9, s10, s11]) ⟨_, _, _, _, _, _, rfl⟩ ?_ ?_
    · rintro i e hi ⟨s6, s7, s8, s9, s10, s11, rfl⟩
      have i1 := fun t => ixj t i (by omega)
      have i2 := fun t => ixj t (i + 1) (by omega)
      have hs := W.inc i (by omega)
      have ci : ((i + 1 : Nat) : Int) = (i : Int) + 1 := by simp
      rw [ci] at i2
      have l1 : (nth L i).1.length ≤ sizeL := by rw [sizeL_val]; have := ln _ (nth_mem (show i < L.length by omega)); omega
      have l2 : (nth L (i + 1)).1.length ≤ sizeL := by rw [sizeL_val]; have := ln _ (nth_mem (show i + 1 < L.length by omega)); omega
      have lg := lex_ge (nth L i).1 (nth L (i + 1)).1
      rw [sltB_t hs] at lg
      generalize nth L i = a at *
      generalize nth L (i + 1) = b at *
      have ma : mrD a = .tup [.str a.1, rowD a.2] := rfl
      have mb : mrD b = .tup [.str b.1, rowD b.2] := rfl
      simp [forT, b85_2, i1, i2, ma, mb, l1, l2, tpD_eq, lg]
    · rintro e ⟨s6, s7, s8, s9, s10, s11, rfl⟩
      simp
      refine for_map L mrD (fun i e => ∃ (s6 s7 s8 s9 s10 s11 : Option D), e = [some (machD m), some (.int (k : Int)), some (.lst false (L.map mrD)), some (.tup (tpD z.1)), some (.bl (decide (endR m z.2 = some (k + 1)))), some (.dic true (rwK L) (wdK L)), s6, s7, s8, s9, s10, s11]) rfl ⟨_, _, _, _, _, _, rfl⟩ ?_ ?_
      · rintro i x e hi ⟨s6, s7, s8, s9, s10, s11, rfl⟩
        have hx := List.mem_of_getElem? hi
        have hcl := W.clo x hx
        have hr := rl x hx
        have hln := ln x hx
        obtain ⟨w, r⟩ := x
        have mr : mrD (w, r) = .tup [.str w, rowD r] := rfl
        simp only at hcl hr hln
        simp [forT, b85_3, mr, hc]
        refine for_map (ltrs m) (fun c => D.str [c]) (fun _ e => ∃ (s8 s9 s10 s11 : Option D), e = [some (machD m), some (.int (k : Int)), some (.lst false (L.map mrD)), some (.tup (tpD z.1)), some (.bl (decide (endR m z.2 = some (k + 1)))), some (.dic true (rwK L) (wdK L)), some (.str w), some (rowD r), s8, s9, s10, s11]) rfl ⟨_, _, _, _, rfl⟩ ?_ ?_
        · rintro q c e hq ⟨s8, s9, s10, s11, rfl⟩
          have hcm : c ∈ ltrs m := List.mem_of_getElem? hq
          have hcl := hcl c hcm
          have hwz : w.length ≤ sizeL := by rw [sizeL_val]; omega
          have hwz1 : w.length + 1 ≤ sizeL := by rw [sizeL_val]; omega
          have lg := lex_ge (w ++ [c]) z.1
          have f2' := f2 r c hr hcm
          have ok1 := okKey_row (ledR k m r c) L
          have any1 := any_rwK (ledR k m r c) L
          by_cases hgo : endR m z.2 ≠ some (k + 1) ∨ slt (w ++ [c]) z.1
          · obtain ⟨y, hy, e1, e2⟩ := hcl hgo
            have hyl : y.1.length ≤ sizeL := by rw [sizeL_val]; have := ln y hy; omega
            have lgt := lex_gt y.1 (w ++ [c])
            rw [sltB_f e2] at lgt
            have dg := dget_rw L y hy hnd
            rw [e1] at dg
            rw [decide_eq_true (by rw [← e1]; exact List.mem_map_of_mem hy)] at any1
            rcases hgo with h6 | h6
            · simp [forT, b85_4, hwz, hwz1, tpD_snoc, tpD_eq, h6, f2', ok1, any1, dg, hyl, lgt]
            · rw [sltB_t h6] at lg
              by_cases h7 : endR m z.2 = some (k + 1)
              · simp [forT, b85_4, hwz, hwz1, tpD_snoc, tpD_eq, h7, lg, f2', ok1, any1, dg, hyl, lgt]
              · simp [forT, b85_4, hwz, hwz1, tpD_snoc, tpD_eq, h7, lg, f2', ok1, any1, dg, hyl, lgt]
          · have h6 : endR m z.2 = some (k + 1) := Classical.byContradiction fun q => hgo (.inl q)
            have h7 : ¬ slt (w ++ [c]) z.1 := fun q => hgo (.inr q)
            rw [sltB_f h7] at lg
            simp [forT, b85_4, hwz, hwz1, tpD_snoc, h6, lg]
        · rintro e ⟨s8, s9, s10, s11, rfl⟩
          simp
      · rintro e ⟨s6, s7, s8, s9, s10, s11, rfl⟩
        have hf := W.fst
        generalize nth L 0 = a at *
        have ma : mrD a = .tup [.str a.1, rowD a.2] := rfl
        have e0 : cmpop .eq (.str []) (.str []) = some true := by rw [eq_str _ _ rfl rfl]; simp
        simp [ix0, ma, hf, e0]
def metL (m : Mach) (k : Nat) : List D := if (bfs m k).2 = 2 then [] else [.lst true ((bfs m k).1.map mrD)]
theorem met83 [Has fns 42 fn42] [Has fns 59 fn59] [Has fns 64 fn64] [Has fns 67 fn67] [Has fns 68 fn68] [Has fns 69 fn69] [Has fns 81 fn81] [Has fns 82 fn82] [Has fns 83 fn83] (m : Mach) (hm : MachOk m) (k : Nat) : call 10000000000000000 fns (n + 5) 83 [machD m, .int (k : Int)] = .ret (.lst true (metL m k)) [machD m, .int (k : Int)] := by
  have f1 := rows_met_c (fns := fns) (n := n) m hm k
  unfold metR at f1
  unfold metL
  by_cases h2 : (bfs m k).2 = 2
  · rw [if_pos h2] at f1 ⊢
    refine call_eq rfl ?_
    simp [fn83, ir83, lentIx, f1]
  · rw [if_neg h2] at f1 ⊢
    refine call_eq rfl ?_
    simp [fn83, ir83, lentIx, f1]
theorem mrs_dat {l : List MR} (h : ∀ p ∈ l, ∀ c ∈ p.1, c < 200) : dats 58 (l.map mrD) = true := by
  induction l with
  | nil => rfl
  | cons p l ih =>
    simp only [List.map_cons, dats]
    rw [ih fun q m => h q (List.mem_cons_of_mem _ m)]
    have h1 : (D.str p.1).dat 57 = true := by
      simp only [D.dat]
      exact all_lt200 (h p List.mem_cons_self)
    have h2 : (rowD p.2).dat 57 = true := dat_row 56 _
    have : (mrD p).dat 58 = true := by simp only [mrD, D.dat, dats, h2, all_lt200 (h p List.mem_cons_self)]; rfl
    rw [this]; rfl
theorem mrs_eqv (l : List MR) : eqvs (l.map mrD) (l.map mrD) = true := by
  induction l with
  | nil => rfl
  | cons p l ih =>
    simp only [List.map_cons, eqvs]
    rw [ih]
    simp [mrD, D.eqv, eqvs]
theorem law86 [Has fns 42 fn42] [Has fns 59 fn59] [Has fns 64 fn64] [Has fns 67 fn67] [Has fns 68 fn68] [Has fns 69 fn69] [Has fns 81 fn81] [Has fns 82 fn82] [Has fns 6 fn6] [Has fns 7 fn7] [Has fns 8 fn8] [Has fns 65 fn65] [Has fns 70 fn70] [Has fns 71 fn71] [Has fns 72 fn72] [Has fns 73 fn73] [Has fns 74 fn74] [Has fns 83 fn83] [Has fns 84 fn84] [Has fns 85 fn85] [Has fns 86 fn86] (ns : List Int) (hl : ns.length ≤ 63) : ∃ o, call 10000000000000000 fns (n + 6) 86 [.scr ns] = .ret (.bl true) o := by
  obtain ⟨_, o, e, h⟩ : CW (call 10000000000000000 fns (n + 6) 86 [.scr ns]) fun d _ => d = .bl true := by
    refine call_cw rfl ?_
    simp [fn86, ir86, lentIx]
    refine for_rng (fun _ e => ∃ s1 s2 s3 s4 s5 s6, e = [some (.scr ns), s1, s2, s3, s4, s5, s6]) ⟨_, _, _, _, _, _, rfl⟩ ?_ ?_
    · rintro i e hi ⟨s1, s2, s3, s4, s5, s6, rfl⟩
      obtain ⟨b, e1⟩ := bag_c (n := n + 4) (fns := fns) ns (i : Int) (by omega) hl
      obtain ⟨m, b1, e2, hm⟩ := machine70 (fns := fns) (n := n + 2) b
      obtain ⟨k, b2, e3, hk⟩ := bound65 (fns := fns) (n := n + 3) b1
      have f1 := met83 (fns := fns) (n := n) m hm k
      unfold metL at f1
      by_cases h2 : (bfs m k).2 = 2
      · rw [if_pos h2] at f1
        simp [forT, b86_1, e1, e2, e3, f1]
      · rw [if_neg h2] at f1
        have f2 : call 10000000000000000 fns (n + 5) 84 _ = _ := rows84 (n := n + 3) m hm k h2
        have f3 : call 10000000000000000 fns (n + 5) 85 _ = _ := whole85 (n := n + 3) m hm k h2
        have hz : (bfs m k).1.length < sizeL := by rw [sizeL_val]; have := (bfs_ok m k).le; omega
        have hd := mrs_dat (l := (bfs m k).1) fun p h c hc => ltr_lt hm ((bfs_ok m k).lt p h c hc)
        have hq := mrs_eqv (bfs m k).1
        have hfz : frzs ((bfs m k).1.map mrD) = (bfs m k).1.map mrD := frzs_map fun _ _ => rfl
        have hfr : frzs ((bfs m k).1.map mrD).reverse = ((bfs m k).1.map mrD).reverse := by rw [← List.map_reverse]; exact frzs_map fun _ _ => rfl
        have hno : ∀ x ∈ (bfs m k).1.map mrD, x.own = false := fun x hx => by
          obtain ⟨y, _, rfl⟩ := List.mem_map.mp hx; rfl
        have hno' := eq_true hno
        have hml : ((bfs m k).1.map mrD).length < sizeL := by simpa using hz
        generalize (bfs m k).1.map mrD = M at *
        have n1 : cmpop .ne (.lst false [.lst false M]) (.lst false [.lst false M]) = some false := by
          have h1 : (D.lst false [.lst false M]).dat 60 = true := by simp only [D.dat, dats, hd]; rfl
          rw [cNe h1 h1]
          simp only [D.eqv, eqvs, hq]; rfl
        have mr : mutL .reverse M [] = some (.non, M.reverse) := rfl
        simp [forT, b86_1, e1, e2, e3, f1, f2, f3, mr, hfz, hfr, hno', hml, n1, getP, setP, Env.put]
    · rintro e ⟨s1, s2, s3, s4, s5, s6, rfl⟩
      simp
  exact ⟨o, by rw [e, h]⟩
end LT.K
set_option maxHeartbeats 0
namespace LT.K
open PySem PySem.Spec PyProof.Rows L2 LT
def top (i : Nat) : Stmt := PySem.Challenge.pw_leasttolls_k16_rows_met.main.body.getD i (.Pass ⟨0, 0, 0, 0⟩)
def free : List Str := ["ValueError", "abs", "bool", "int", "isinstance", "len", "list", "min", "range", "str", "tuple"]
def con : List (Str × D) := [("LETTERS", .str [97, 98, 99]), ("MOST_MET", .int (300))]
def exc : List (Str × Nat) := [("TollError", 0), ("TooMuch", 2)]
def df0 : Df := ⟨42, "lesser", "lesser", "lesser", defArgs (top 1), defBody (top 1), defScope (top 1), ["one", "other"], ["one", "other"], fn42⟩
def df1 : Df := ⟨59, "least_at", "least_at", "least_at", defArgs (top 2), defBody (top 2), defScope (top 2), ["row", "rooms", "found", "room"], ["row", "rooms"], fn59⟩
def df2 : Df := ⟨64, "cut", "cut", "cut", defArgs (top 4), defBody (top 4), defScope (top 4), ["price", "k"], ["price", "k"], fn64⟩
def df3 : Df := ⟨67, "first_row", "first_row", "first_row", defArgs (top 5), defBody (top 5), defScope (top 5), ["machine", "room"], ["machine"], fn67⟩
def df4 : Df := ⟨68, "led", "led", "led", defArgs (top 6), defBody (top 6), defScope (top 6), ["machine", "k", "row", "letter", "found", "room", "start", "sign", "goal", "cost"], ["machine", "k", "row", "letter"], fn68⟩
def df5 : Df := ⟨69, "end_of", "end_of", "end_of", defArgs (top 7), defBody (top 7), defScope (top 7), ["machine", "row"], ["machine", "row"], fn69⟩
def df6 : Df := ⟨81, "known", "known", "known", defArgs (top 13), defBody (top 13), defScope (top 13), ["machine"], ["machine"], fn81⟩
def df7 : Df := ⟨82, "rows_met", "rows_met", "rows_met", defArgs (top 16), defBody (top 16), defScope (top 16), ["machine", "k", "first", "met", "seen", "at", "word", "row", "letter", "further"], ["machine", "k"], fn82⟩
def df8 : Df := ⟨6, "_law_bag", "_law_bag", "_law_bag", defArgs (top 18), defBody (top 18), defScope (top 18), ["_law_script", "_law_at", "_law_cell", "_law_mix", "_law_k"], ["_law_script", "_law_at"], fn6⟩
def df9 : Df := ⟨7, "_law_take", "_law_take", "_law_take", defArgs (top 19), defBody (top 19), defScope (top 19), ["_law_bag_here", "_law_many", "_law_digit", "_law_number", "_law_room"], ["_law_bag_here", "_law_many"], fn7⟩
def df10 : Df := ⟨8, "_law_rooms", "_law_rooms", "_law_rooms", defArgs (top 20), defBody (top 20), defScope (top 20), ["_law_bag_here", "_law_many", "_law_bits", "_law_room"], ["_law_bag_here", "_law_many"], fn8⟩
def df11 : Df := ⟨70, "_law_machine", "_law_machine", "_law_machine", defArgs (top 21), defBody (top 21), defScope (top 21), ["_law_bag_here", "_law_letters", "_law_rooms_here", "_law_many", "_law_doors", "_law_k"], ["_law_bag_here"], fn70⟩
def df12 : Df := ⟨65, "_law_bound", "_law_bound", "_law_bound", defArgs (top 22), defBody (top 22), defScope (top 22), ["_law_bag_here"], ["_law_bag_here"], fn65⟩
def df13 : Df := ⟨71, "_law_first", "_law_first", "_law_first", defArgs (top 23), defBody (top 23), defScope (top 23), ["_law_machine_here", "_law_room"], ["_law_machine_here"], fn71⟩
def df14 : Df := ⟨72, "_law_led", "_law_led", "_law_led", defArgs (top 24), defBody (top 24), defScope (top 24), ["_law_machine_here", "_law_k", "_law_row", "_law_letter", "_law_found", "_law_entry", "_law_start", "_law_sign", "_law_goal", "_law_cost", "_law_come"], ["_law_machine_here", "_law_k", "_law_row", "_law_letter"], fn72⟩
def df15 : Df := ⟨73, "_law_end", "_law_end", "_law_end", defArgs (top 25), defBody (top 25), defScope (top 25), ["_law_machine_here", "_law_row", "_law_room"], ["_law_machine_here", "_law_row"], fn73⟩
def df16 : Df := ⟨74, "_law_is_row", "_law_is_row", "_law_is_row", defArgs (top 26), defBody (top 26), defScope (top 26), ["_law_found", "_law_due", "_law_entry"], ["_law_found", "_law_due"], fn74⟩
def df17 : Df := ⟨83, "_law_met", "_law_met", "_law_met", defArgs (top 27), defBody (top 27), defScope (top 27), ["_law_machine_here", "_law_k"], ["_law_machine_here", "_law_k"], fn83⟩
def df18 : Df := ⟨84, "_law_are_rows", "_law_are_rows", "_law_are_rows", defArgs (top 28), defBody (top 28), defScope (top 28), ["_law_machine_here", "_law_k", "_law_met_here", "_law_rows", "_law_words", "_law_entry", "_law_row"], ["_law_machine_here", "_law_k", "_law_met_here"], fn84⟩
def df19 : Df := ⟨85, "_law_is_whole_list", "_law_is_whole_list", "_law_is_whole_list", defArgs (top 29), defBody (top 29), defScope (top 29), ["_law_machine_here", "_law_k", "_law_met_here", "_law_last", "_law_stops", "_law_at", "_law_word", "_law_row", "_law_j", "_law_letter", "_law_more", "_law_further"], ["_law_machine_here", "_law_k", "_law_met_here"], fn85⟩
def df20 : Df := ⟨86, "law", "law", "law", defArgs (top 30), defBody (top 30), defScope (top 30), ["_law_script", "_law_at", "_law_bag_here", "_law_machine_here", "_law_k", "_law_found", "_law_kept"], ["_law_script"], fn86⟩
def M : Md := ⟨(([df0, df1, df2, df3, df4, df5, df6, df7, df8, df9, df10, df11] : List (Df)) ++ ([df12, df13, df14, df15, df16, df17, df18, df19, df20] : List (Df))), free, con, exc⟩
theorem ok0 : df0.Ok M := ⟨⟨100, by kernel_rfl⟩, rfl, rfl, rfl, ⟨rfl, rfl, rfl, by decide +kernel, rfl, by decide +kernel, by decide +kernel⟩⟩
instance : Has M.fns 42 fn42 := ⟨rfl⟩
theorem ok1 : df1.Ok M := ⟨⟨100, by kernel_rfl⟩, rfl, rfl, rfl, ⟨rfl, rfl, rfl, by decide +kernel, rfl, by decide +kernel, by decide +kernel⟩⟩
instance : Has M.fns 59 fn59 := ⟨rfl⟩
theorem ok2 : df2.Ok M := ⟨⟨100, by kernel_rfl⟩, rfl, rfl, rfl, ⟨rfl, rfl, rfl, by decide +kernel, rfl, by decide +kernel, by decide +kernel⟩⟩
instance : Has M.fns 64 fn64 := ⟨rfl⟩
theorem ok3 : df3.Ok M := ⟨⟨100, by kernel_rfl⟩, rfl, rfl, rfl, ⟨rfl, rfl, rfl, by decide +kernel, rfl, by decide +kernel, by decide +kernel⟩⟩
instance : Has M.fns 67 fn67 := ⟨rfl⟩
theorem ok4 : df4.Ok M := ⟨⟨100, by kernel_rfl⟩, rfl, rfl, rfl, ⟨rfl, rfl, rfl, by decide +kernel, rfl, by decide +kernel, by decide +kernel⟩⟩
instance : Has M.fns 68 fn68 := ⟨rfl⟩
theorem ok5 : df5.Ok M := ⟨⟨100, by kernel_rfl⟩, rfl, rfl, rfl, ⟨rfl, rfl, rfl, by decide +kernel, rfl, by decide +kernel, by decide +kernel⟩⟩
instance : Has M.fns 69 fn69 := ⟨rfl⟩
theorem ok6 : df6.Ok M := ⟨⟨100, by kernel_rfl⟩, rfl, rfl, rfl, ⟨rfl, rfl, rfl, by decide +kernel, rfl, by decide +kernel, by decide +kernel⟩⟩
instance : Has M.fns 81 fn81 := ⟨rfl⟩
theorem ok7 : df7.Ok M := ⟨⟨100, by kernel_rfl⟩, rfl, rfl, rfl, ⟨rfl, rfl, rfl, by decide +kernel, rfl, by decide +kernel, by decide +kernel⟩⟩
instance : Has M.fns 82 fn82 := ⟨rfl⟩
theorem ok8 : df8.Ok M := ⟨⟨100, by kernel_rfl⟩, rfl, rfl, rfl, ⟨rfl, rfl, rfl, by decide +kernel, rfl, by decide +kernel, by decide +kernel⟩⟩
instance : Has M.fns 6 fn6 := ⟨rfl⟩
theorem ok9 : df9.Ok M := ⟨⟨100, by kernel_rfl⟩, rfl, rfl, rfl, ⟨rfl, rfl, rfl, by decide +kernel, rfl, by decide +kernel, by decide +kernel⟩⟩
instance : Has M.fns 7 fn7 := ⟨rfl⟩
theorem ok10 : df10.Ok M := ⟨⟨100, by kernel_rfl⟩, rfl, rfl, rfl, ⟨rfl, rfl, rfl, by decide +kernel, rfl, by decide +kernel, by decide +kernel⟩⟩
instance : Has M.fns 8 fn8 := ⟨rfl⟩
theorem ok11 : df11.Ok M := ⟨⟨100, by kernel_rfl⟩, rfl, rfl, rfl, ⟨rfl, rfl, rfl, by decide +kernel, rfl, by decide +kernel, by decide +kernel⟩⟩
instance : Has M.fns 70 fn70 := ⟨rfl⟩
theorem ok12 : df12.Ok M := ⟨⟨100, by kernel_rfl⟩, rfl, rfl, rfl, ⟨rfl, rfl, rfl, by decide +kernel, rfl, by decide +kernel, by decide +kernel⟩⟩
instance : Has M.fns 65 fn65 := ⟨rfl⟩
theorem ok13 : df13.Ok M := ⟨⟨100, by kernel_rfl⟩, rfl, rfl, rfl, ⟨rfl, rfl, rfl, by decide +kernel, rfl, by decide +kernel, by decide +kernel⟩⟩
instance : Has M.fns 71 fn71 := ⟨rfl⟩
theorem ok14 : df14.Ok M := ⟨⟨100, by kernel_rfl⟩, rfl, rfl, rfl, ⟨rfl, rfl, rfl, by decide +kernel, rfl, by decide +kernel, by decide +kernel⟩⟩
instance : Has M.fns 72 fn72 := ⟨rfl⟩
theorem ok15 : df15.Ok M := ⟨⟨100, by kernel_rfl⟩, rfl, rfl, rfl, ⟨rfl, rfl, rfl, by decide +kernel, rfl, by decide +kernel, by decide +kernel⟩⟩
instance : Has M.fns 73 fn73 := ⟨rfl⟩
theorem ok16 : df16.Ok M := ⟨⟨100, by kernel_rfl⟩, rfl, rfl, rfl, ⟨rfl, rfl, rfl, by decide +kernel, rfl, by decide +kernel, by decide +kernel⟩⟩
instance : Has M.fns 74 fn74 := ⟨rfl⟩
theorem ok17 : df17.Ok M := ⟨⟨100, by kernel_rfl⟩, rfl, rfl, rfl, ⟨rfl, rfl, rfl, by decide +kernel, rfl, by decide +kernel, by decide +kernel⟩⟩
instance : Has M.fns 83 fn83 := ⟨rfl⟩
theorem ok18 : df18.Ok M := ⟨⟨100, by kernel_rfl⟩, rfl, rfl, rfl, ⟨rfl, rfl, rfl, by decide +kernel, rfl, by decide +kernel, by decide +kernel⟩⟩
instance : Has M.fns 84 fn84 := ⟨rfl⟩
theorem ok19 : df19.Ok M := ⟨⟨100, by kernel_rfl⟩, rfl, rfl, rfl, ⟨rfl, rfl, rfl, by decide +kernel, rfl, by decide +kernel, by decide +kernel⟩⟩
instance : Has M.fns 85 fn85 := ⟨rfl⟩
theorem ok20 : df20.Ok M := ⟨⟨100, by kernel_rfl⟩, rfl, rfl, rfl, ⟨rfl, rfl, rfl, by decide +kernel, rfl, by decide +kernel, by decide +kernel⟩⟩
instance : Has M.fns 86 fn86 := ⟨rfl⟩
theorem okM : ∀ d ∈ M.fs, d.Ok M := List.forall_mem_cons.2 ⟨ok0, List.forall_mem_cons.2 ⟨ok1, List.forall_mem_cons.2 ⟨ok2, List.forall_mem_cons.2 ⟨ok3, List.forall_mem_cons.2 ⟨ok4, List.forall_mem_cons.2 ⟨ok5, List.forall_mem_cons.2 ⟨ok6, List.forall_mem_cons.2 ⟨ok7, List.forall_mem_cons.2 ⟨ok8, List.forall_mem_cons.2 ⟨ok9, List.forall_mem_cons.2 ⟨ok10, List.forall_mem_cons.2 ⟨ok11, List.forall_mem_cons.2 ⟨ok12, List.forall_mem_cons.2 ⟨ok13, List.forall_mem_cons.2 ⟨ok14, List.forall_mem_cons.2 ⟨ok15, List.forall_mem_cons.2 ⟨ok16, List.forall_mem_cons.2 ⟨ok17, List.forall_mem_cons.2 ⟨ok18, List.forall_mem_cons.2 ⟨ok19, List.forall_mem_cons.2 ⟨ok20, fun _ h => nomatch h⟩⟩⟩⟩⟩⟩⟩⟩⟩⟩⟩⟩⟩⟩⟩⟩⟩⟩⟩⟩⟩
def hd0 : He.DefD := ⟨("lesser", none), "lesser", "lesser", defArgs (top 1), defBody (top 1), defScope (top 1), [], []⟩
def hd1 : He.DefD := ⟨("least_at", none), "least_at", "least_at", defArgs (top 2), defBody (top 2), defScope (top 2), [], []⟩
def hd2 : He.DefD := ⟨("cut", none), "cut", "cut", defArgs (top 4), defBody (top 4), defScope (top 4), [], []⟩
def hd3 : He.DefD := ⟨("first_row", none), "first_row", "first_row", defArgs (top 5), defBody (top 5), defScope (top 5), [], []⟩
def hd4 : He.DefD := ⟨("led", none), "led", "led", defArgs (top 6), defBody (top 6), defScope (top 6), [], []⟩
def hd5 : He.DefD := ⟨("end_of", none), "end_of", "end_of", defArgs (top 7), defBody (top 7), defScope (top 7), [], []⟩
def hd6 : He.DefD := ⟨("known", none), "known", "known", defArgs (top 13), defBody (top 13), defScope (top 13), [], []⟩
def hd7 : He.DefD := ⟨("rows_met", none), "rows_met", "rows_met", defArgs (top 16), defBody (top 16), defScope (top 16), [], []⟩
def hd8 : He.DefD := ⟨("_law_bag", none), "_law_bag", "_law_bag", defArgs (top 18), defBody (top 18), defScope (top 18), [], []⟩
def hd9 : He.DefD := ⟨("_law_take", none), "_law_take", "_law_take", defArgs (top 19), defBody (top 19), defScope (top 19), [], []⟩
def hd10 : He.DefD := ⟨("_law_rooms", none), "_law_rooms", "_law_rooms", defArgs (top 20), defBody (top 20), defScope (top 20), [], []⟩
def hd11 : He.DefD := ⟨("_law_machine", none), "_law_machine", "_law_machine", defArgs (top 21), defBody (top 21), defScope (top 21), [], []⟩
def hd12 : He.DefD := ⟨("_law_bound", none), "_law_bound", "_law_bound", defArgs (top 22), defBody (top 22), defScope (top 22), [], []⟩
def hd13 : He.DefD := ⟨("_law_first", none), "_law_first", "_law_first", defArgs (top 23), defBody (top 23), defScope (top 23), [], []⟩
def hd14 : He.DefD := ⟨("_law_led", none), "_law_led", "_law_led", defArgs (top 24), defBody (top 24), defScope (top 24), [], []⟩
def hd15 : He.DefD := ⟨("_law_end", none), "_law_end", "_law_end", defArgs (top 25), defBody (top 25), defScope (top 25), [], []⟩
def hd16 : He.DefD := ⟨("_law_is_row", none), "_law_is_row", "_law_is_row", defArgs (top 26), defBody (top 26), defScope (top 26), [], []⟩
def hd17 : He.DefD := ⟨("_law_met", none), "_law_met", "_law_met", defArgs (top 27), defBody (top 27), defScope (top 27), [], []⟩
def hd18 : He.DefD := ⟨("_law_are_rows", none), "_law_are_rows", "_law_are_rows", defArgs (top 28), defBody (top 28), defScope (top 28), [], []⟩
def hd19 : He.DefD := ⟨("_law_is_whole_list", none), "_law_is_whole_list", "_law_is_whole_list", defArgs (top 29), defBody (top 29), defScope (top 29), [], []⟩
def hd20 : He.DefD := ⟨("law", none), "law", "law", defArgs (top 30), defBody (top 30), defScope (top 30), [], []⟩
def hds : List He.DefD := (([hd0, hd1, hd2, hd3, hd4, hd5, hd6, hd7, hd8, hd9, hd10, hd11] : List (He.DefD)) ++ ([hd12, hd13, hd14, hd15, hd16, hd17, hd18, hd19, hd20] : List (He.DefD)))
def fas : List He.Fa := (([.glo "lesser", .glo "least_at", .glo "cut", .glo "first_row", .glo "led", .glo "end_of", .glo "known", .glo "rows_met", .glo "_law_bag", .glo "_law_take", .glo "_law_rooms", .glo "_law_machine"] : List (He.Fa)) ++ ([.glo "_law_bound", .glo "_law_first", .glo "_law_led", .glo "_law_end", .glo "_law_is_row", .glo "_law_met", .glo "_law_are_rows", .glo "_law_is_whole_list", .glo "law", .free "ValueError", .free "abs", .free "bool"] : List (He.Fa)) ++ ([.free "int", .free "isinstance", .free "len", .free "list", .free "min", .free "range", .free "str", .free "tuple", .str "LETTERS" "abc", .int "MOST_MET" (300), .glo "TollError", .glo "TooMuch"] : List (He.Fa)))
abbrev R : PySem.W.OpenRow := PySem.W.OpenLaw.row PySem.Challenge.rw_leasttolls_k16_rows_met
abbrev hk : PySem.W.Hook := He.hookX 4 fas hds [] [] (exB exc)
def ob (s : PySem.W.SharedT) : He.AlX := He.obsX 4 fas hds [] [] (exB exc) (HandSHeadRun.getT s)
theorem ob_eq (s : PySem.W.SharedT) : ob s = hk.obs s.abs := He.obsX_eq (HandSHeadRun.getT_eq s)
theorem run (w : World) : HandSHeadRun.RunEq R (PySem.W.view R.prog [30]) hk ob 10000000000001260 ((["lesser", "least_at", "cut", "first_row", "led", "end_of", "TollError", "TooMuch", "LETTERS", "known", "MOST_MET", "rows_met"] : List (Str)) ++ (["_law_bag", "_law_take", "_law_rooms", "_law_machine", "_law_bound", "_law_first", "_law_led", "_law_end", "_law_is_row", "_law_met", "_law_are_rows", "_law_is_whole_list"] : List (Str))) w := by
  intro os
  kernel_rfl
def gk (K : PySem.W.Frag) (w : World) : GK := gkX K exc w
theorem inM {K : PySem.W.Frag} {h : Heap} {mg : Str → Option Value} (X : K.In h) (G : h.Ns mainGlobals mg) (c : He.SaysD fas hds K) (cm : exB exc K = true) (GK0 : GK) {w : World} (hK0 : GK0 = gkX K exc w) : M.In GK0 mg := by
  have hK : GK0.K = K := by rw [hK0]; rfl
  subst hK
  refine ⟨?_, ?_, ?_, ?_, ?_⟩
  · refine List.forall_mem_cons.2 ⟨?d0, List.forall_mem_cons.2 ⟨?d1, List.forall_mem_cons.2 ⟨?d2, List.forall_mem_cons.2 ⟨?d3, List.forall_mem_cons.2 ⟨?d4, List.forall_mem_cons.2 ⟨?d5, List.forall_mem_cons.2 ⟨?d6, List.forall_mem_cons.2 ⟨?d7, List.forall_mem_cons.2 ⟨?d8, List.forall_mem_cons.2 ⟨?d9, List.forall_mem_cons.2 ⟨?d10, List.forall_mem_cons.2 ⟨?d11, List.forall_mem_cons.2 ⟨?d12, List.forall_mem_cons.2 ⟨?d13, List.forall_mem_cons.2 ⟨?d14, List.forall_mem_cons.2 ⟨?d15, List.forall_mem_cons.2 ⟨?d16, List.forall_mem_cons.2 ⟨?d17, List.forall_mem_cons.2 ⟨?d18, List.forall_mem_cons.2 ⟨?d19, List.forall_mem_cons.2 ⟨?d20, fun _ h => nomatch h⟩⟩⟩⟩⟩⟩⟩⟩⟩⟩⟩⟩⟩⟩⟩⟩⟩⟩⟩⟩⟩
    case d0 =>
      obtain ⟨fd, F⟩ := c.def_ 0 (d := hd0) rfl
      exact ⟨_, fd, He.glo_ok X G (c.fact 0 (f := .glo "lesser") rfl), F, F.bindsN fun _ _ _ _ _ _ us hl => match us, hl with | [_, _], _ => rfl⟩
    case d1 =>
      obtain ⟨fd, F⟩ := c.def_ 1 (d := hd1) rfl
      exact ⟨_, fd, He.glo_ok X G (c.fact 1 (f := .glo "least_at") rfl), F, F.bindsN fun _ _ _ _ _ _ us hl => match us, hl with | [_, _], _ => rfl⟩
    case d2 =>
      obtain ⟨fd, F⟩ := c.def_ 2 (d := hd2) rfl
      exact ⟨_, fd, He.glo_ok X G (c.fact 2 (f := .glo "cut") rfl), F, F.bindsN fun _ _ _ _ _ _ us hl => match us, hl with | [_, _], _ => rfl⟩
    case d3 =>
      obtain ⟨fd, F⟩ := c.def_ 3 (d := hd3) rfl
      exact ⟨_, fd, He.glo_ok X G (c.fact 3 (f := .glo "first_row") rfl), F, F.bindsN fun _ _ _ _ _ _ us hl => match us, hl with | [_], _ => rfl⟩
    case d4 =>
      obtain ⟨fd, F⟩ := c.def_ 4 (d := hd4) rfl
      exact ⟨_, fd, He.glo_ok X G (c.fact 4 (f := .glo "led") rfl), F, F.bindsN fun _ _ _ _ _ _ us hl => match us, hl with | [_, _, _, _], _ => rfl⟩
    case d5 =>
      obtain ⟨fd, F⟩ := c.def_ 5 (d := hd5) rfl
      exact ⟨_, fd, He.glo_ok X G (c.fact 5 (f := .glo "end_of") rfl), F, F.bindsN fun _ _ _ _ _ _ us hl => match us, hl with | [_, _], _ => rfl⟩
    case d6 =>
      obtain ⟨fd, F⟩ := c.def_ 6 (d := hd6) rfl
      exact ⟨_, fd, He.glo_ok X G (c.fact 6 (f := .glo "known") rfl), F, F.bindsN fun _ _ _ _ _ _ us hl => match us, hl with | [_], _ => rfl⟩
    case d7 =>
      obtain ⟨fd, F⟩ := c.def_ 7 (d := hd7) rfl
      exact ⟨_, fd, He.glo_ok X G (c.fact 7 (f := .glo "rows_met") rfl), F, F.bindsN fun _ _ _ _ _ _ us hl => match us, hl with | [_, _], _ => rfl⟩
    case d8 =>
      obtain ⟨fd, F⟩ := c.def_ 8 (d := hd8) rfl
      exact ⟨_, fd, He.glo_ok X G (c.fact 8 (f := .glo "_law_bag") rfl), F, F.bindsN fun _ _ _ _ _ _ us hl => match us, hl with | [_, _], _ => rfl⟩
    case d9 =>
      obtain ⟨fd, F⟩ := c.def_ 9 (d := hd9) rfl
      exact ⟨_, fd, He.glo_ok X G (c.fact 9 (f := .glo "_law_take") rfl), F, F.bindsN fun _ _ _ _ _ _ us hl => match us, hl with | [_, _], _ => rfl⟩
    case d10 =>
      obtain ⟨fd, F⟩ := c.def_ 10 (d := hd10) rfl
      exact ⟨_, fd, He.glo_ok X G (c.fact 10 (f := .glo "_law_rooms") rfl), F, F.bindsN fun _ _ _ _ _ _ us hl => match us, hl with | [_, _], _ => rfl⟩
    case d11 =>
      obtain ⟨fd, F⟩ := c.def_ 11 (d := hd11) rfl
      exact ⟨_, fd, He.glo_ok X G (c.fact 11 (f := .glo "_law_machine") rfl), F, F.bindsN fun _ _ _ _ _ _ us hl => match us, hl with | [_], _ => rfl⟩
    case d12 =>
      obtain ⟨fd, F⟩ := c.def_ 12 (d := hd12) rfl
      exact ⟨_, fd, He.glo_ok X G (c.fact 12 (f := .glo "_law_bound") rfl), F, F.bindsN fun _ _ _ _ _ _ us hl => match us, hl with | [_], _ => rfl⟩
    case d13 =>
      obtain ⟨fd, F⟩ := c.def_ 13 (d := hd13) rfl
      exact ⟨_, fd, He.glo_ok X G (c.fact 13 (f := .glo "_law_first") rfl), F, F.bindsN fun _ _ _ _ _ _ us hl => match us, hl with | [_], _ => rfl⟩
    case d14 =>
      obtain ⟨fd, F⟩ := c.def_ 14 (d := hd14) rfl
      exact ⟨_, fd, He.glo_ok X G (c.fact 14 (f := .glo "_law_led") rfl), F, F.bindsN fun _ _ _ _ _ _ us hl => match us, hl with | [_, _, _, _], _ => rfl⟩
    case d15 =>
      obtain ⟨fd, F⟩ := c.def_ 15 (d := hd15) rfl
      exact ⟨_, fd, He.glo_ok X G (c.fact 15 (f := .glo "_law_end") rfl), F, F.bindsN fun _ _ _ _ _ _ us hl => match us, hl with | [_, _], _ => rfl⟩
    case d16 =>
      obtain ⟨fd, F⟩ := c.def_ 16 (d := hd16) rfl
      exact ⟨_, fd, He.glo_ok X G (c.fact 16 (f := .glo "_law_is_row") rfl), F, F.bindsN fun _ _ _ _ _ _ us hl => match us, hl with | [_, _], _ => rfl⟩
    case d17 =>
      obtain ⟨fd, F⟩ := c.def_ 17 (d := hd17) rfl
      exact ⟨_, fd, He.glo_ok X G (c.fact 17 (f := .glo "_law_met") rfl), F, F.bindsN fun _ _ _ _ _ _ us hl => match us, hl with | [_, _], _ => rfl⟩
    case d18 =>
      obtain ⟨fd, F⟩ := c.def_ 18 (d := hd18) rfl
      exact ⟨_, fd, He.glo_ok X G (c.fact 18 (f := .glo "_law_are_rows") rfl), F, F.bindsN fun _ _ _ _ _ _ us hl => match us, hl with | [_, _, _], _ => rfl⟩
    case d19 =>
      obtain ⟨fd, F⟩ := c.def_ 19 (d := hd19) rfl
      exact ⟨_, fd, He.glo_ok X G (c.fact 19 (f := .glo "_law_is_whole_list") rfl), F, F.bindsN fun _ _ _ _ _ _ us hl => match us, hl with | [_, _, _], _ => rfl⟩
    case d20 =>
      obtain ⟨fd, F⟩ := c.def_ 20 (d := hd20) rfl
      exact ⟨_, fd, He.glo_ok X G (c.fact 20 (f := .glo "law") rfl), F, F.bindsN fun _ _ _ _ _ _ us hl => match us, hl with | [_], _ => rfl⟩
  · have hh : ∀ x ∈ free, mg x = none := by
      refine List.forall_mem_cons.2 ⟨?f0, List.forall_mem_cons.2 ⟨?f1, List.forall_mem_cons.2 ⟨?f2, List.forall_mem_cons.2 ⟨?f3, List.forall_mem_cons.2 ⟨?f4, List.forall_mem_cons.2 ⟨?f5, List.forall_mem_cons.2 ⟨?f6, List.forall_mem_cons.2 ⟨?f7, List.forall_mem_cons.2 ⟨?f8, List.forall_mem_cons.2 ⟨?f9, List.forall_mem_cons.2 ⟨?f10, fun _ h => nomatch h⟩⟩⟩⟩⟩⟩⟩⟩⟩⟩⟩
      case f0 => exact He.free_ok X G (c.fact 21 (f := .free "ValueError") rfl)
      case f1 => exact He.free_ok X G (c.fact 22 (f := .free "abs") rfl)
      case f2 => exact He.free_ok X G (c.fact 23 (f := .free "bool") rfl)
      case f3 => exact He.free_ok X G (c.fact 24 (f := .free "int") rfl)
      case f4 => exact He.free_ok X G (c.fact 25 (f := .free "isinstance") rfl)
      case f5 => exact He.free_ok X G (c.fact 26 (f := .free "len") rfl)
      case f6 => exact He.free_ok X G (c.fact 27 (f := .free "list") rfl)
      case f7 => exact He.free_ok X G (c.fact 28 (f := .free "min") rfl)
      case f8 => exact He.free_ok X G (c.fact 29 (f := .free "range") rfl)
      case f9 => exact He.free_ok X G (c.fact 30 (f := .free "str") rfl)
      case f10 => exact He.free_ok X G (c.fact 31 (f := .free "tuple") rfl)
    exact fun x hx => hh x (by simpa using (show free.contains x = true from hx))
  · have hh : ∀ p ∈ con, ∃ u v, mg p.1 = some u ∧ RelV v u ∧ p.2.own = false ∧ ∀ H A, Rep GK0 H A p.2 v no := by
      refine List.forall_mem_cons.2 ⟨?c0, List.forall_mem_cons.2 ⟨?c1, fun _ h => nomatch h⟩⟩
      case c0 =>
        obtain ⟨t, e⟩ := He.str_ok X G (c.fact 32 (f := .str "LETTERS" "abc") rfl)
        exact ⟨_, .str _, e, ⟨t, rfl⟩, rfl, fun H A => by simp only [Rep]; rfl⟩
      case c1 =>
        obtain ⟨t, e⟩ := He.int_ok X G (c.fact 33 (f := .int "MOST_MET" (300)) rfl)
        exact ⟨_, .int (300), e, ⟨t, rfl⟩, rfl, fun H A => by simp [Rep]⟩
    exact fun x d h => hh (x, d) (lookup_mem h)
  · have hh : ∀ p ∈ exc, He.Fa.ok GK0.K (.glo p.1) = true := by
      refine List.forall_mem_cons.2 ⟨?e0, List.forall_mem_cons.2 ⟨?e1, fun _ h => nomatch h⟩⟩
      case e0 => exact c.fact 34 (f := .glo "TollError") rfl
      case e1 => exact c.fact 35 (f := .glo "TooMuch") rfl
    have e := ExF.of (t := exc) (w := w) X G hh cm (by decide +kernel)
    rwa [← hK0] at e
  · rw [hK0]; rfl
end LT.K
namespace LT.K
theorem law_true (ns : List Int) (h : ns.length ≤ 63) : ∃ o, call 10000000000000000 M.fns 40 86 [.scr ns] = .ret (.bl true) o := law86 (fns := M.fns) (n := 34) ns h
end LT.K
open PySem PySem.W PySem.Calls PyProof.Rows
theorem PySem.Challenge.cw_leasttolls_k16_rows_met_holds : PySem.Challenge.rw_leasttolls_k16_rows_met.Holds := by
  w_on; o_law
  refine HandSHeadRun.head_any (r := OpenLaw.row PySem.Challenge.rw_leasttolls_k16_rows_met) (q := view (OpenLaw.row PySem.Challenge.rw_leasttolls_k16_rows_met).prog [30]) (H := LT.K.hk) (ob := LT.K.ob) (M := 10000000000001260) (loose := ((["lesser", "least_at", "cut", "first_row", "led", "end_of", "TollError", "TooMuch", "LETTERS", "known", "MOST_MET", "rows_met"] : List (Str)) ++ (["_law_bag", "_law_take", "_law_rooms", "_law_machine", "_law_bound", "_law_first", "_law_led", "_law_end", "_law_is_row", "_law_met", "_law_are_rows", "_law_is_whole_list"] : List (Str)))) (d := HandSHeadRun.topDef (OpenLaw.row PySem.Challenge.rw_leasttolls_k16_rows_met).prog 30) (kwd := []) LT.K.ob_eq
    (by kernel_rfl) (fun s => by kernel_rfl) LT.K.run (by kernel_rfl) (by kernel_rfl) (by kernel_rfl) (by rfl) (by first | assumption | decide +kernel) (by decide +kernel) ⟨rfl, rfl, rfl, rfl, rfl, by decide +kernel⟩ ?hw ?hc
  case hw => w_witness2
  case hc =>
    refine L2.walk_ofE (l := PySem.Challenge.rw_leasttolls_k16_rows_met) (n := 63) (k := 40) (x := "_law_script") (CX := LT.CXw (PySem.Challenge.rw_leasttolls_k16_rows_met).prog) rfl (by decide) (by kernel_rfl) ⟨rfl, by decide, by decide⟩ ?F LT.cxw_no
    intro w mg fa h Y G hmg0
    obtain ⟨K, KX, c⟩ := Y
    have cm := c.more
    have c : He.SaysD LT.K.fas LT.K.hds K := congrArg Prod.fst c.t
    have hmg : mg ("law" : PySem.Str) = some (.ref fa) := by
      have e : (HandSHeadRun.topDef (OpenLaw.row PySem.Challenge.rw_leasttolls_k16_rows_met).prog 30).name = ("law" : PySem.Str) := by kernel_rfl
      rw [← e]
      exact hmg0
    have e1 := hmg.symm.trans (He.glo_ok KX G (c.fact 20 (f := .glo "law") rfl))
    cases e1
    obtain ⟨fd, F⟩ := c.def_ 20 (d := LT.K.hd20) rfl
    have b := L2.FunD.bindsA (ps := ["_law_script"]) F fun _ _ _ _ _ _ us hl => match us, hl with | [_], _ => rfl
    refine ⟨K, fd, LT.spF (LT.K.gk K w) (LT.call 10000000000000000 LT.K.M.fns 40) 86 1, KX, fun s v => b s [v] rfl, fun H a ns hl hO hS => LT.law_sp hO hS (LT.K.law_true ns hl), fun base hb1 hb2 => LT.FnOk.cxw (LT.all_ok (G := LT.K.gk K w) LT.K.okM (LT.K.inM KX G c cm (LT.K.gk K w) rfl) 10000000000000000 40 LT.K.df20 _ _ (List.mem_of_getElem? (i := 20) rfl) F)⟩
