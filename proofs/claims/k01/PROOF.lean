import PyProof.Rows.All
import Wide.All
import OpenK.AllK
import Wide.FinOn
import HandS.ForMost
import HandS.ForExc
import HandS.Deep
import HandS.Wide
import HandS.IsInst
import HandS.TupAny
import HandS.DictComp
import HandS.Zip
import HandS.More
import HandS.Conv
import KE.DataEq
import HandS.TupMul
import PyProof.Rows.ReprR
import PyProof.Rows.RuleB_pow
import KE.KDictPairs
import HandS.RaiseMore
import HandS.WordsDict
import HandS.NoneIn
import HandS.Small
import HandS.Codes
import HandS.Strs
import PySem.Challenge.RW_madesure_k01_names_and_kinds_known
import PyProof.StrLawsRepr
import PyProof.StrLawsIn
set_option Elab.async false
set_option linter.all false
set_option maxRecDepth 100000
set_option maxHeartbeats 4000000
/-! the functional machine: a small syntax, its meaning over plain data -/
namespace Mp
open PySem

abbrev D := PyData
abbrev Env := List (Option D)

/-- how a slot stands: plain data that nobody changes; a list or dict of the def's own; one handed in to be changed -/
inductive Md where
  | fz | ow | io
  deriving DecidableEq

inductive Tg where
  | nm (i : Nat)
  | tup (ts : List Tg)

/-- built-in functions of plain data -/
inductive Pr where
  | len | list | tuple | dict | sum | min | max | all | any | abs | int | repr | lenSet | sorted | isi (t : String) | bool | str
  deriving DecidableEq

inductive E where
  | con (d : D)
  | var (i : Nat)
  | bin (o : Operator) (a b : E)
  | neg (a : E)
  | not (a : E)
  | and (a b : E)
  | or (a b : E)
  | cmp (o : CmpOp) (a b : E)
  | chn (o o' : CmpOp) (a b c : E)
  | ite (t a b : E)
  | call (f : Nat) (as : List E)
  | prim (p : Pr) (as : List E)
  | idx (a b : E)
  | slc (a lo hi : E)
  | rev (a : E)
  | abs
  | tup (es : List E)
  | lst (es : List E)
  | dic (ks vs : List E)
  | comp (vs : List Nat) (tg : Tg) (src : E) (ifs : List E) (elt : E)
  | comp2 (vs vs1 : List Nat) (tg : Tg) (src : E) (tg1 : Tg) (src1 : E) (elt : E)
  | dcomp (vs : List Nat) (tg : Tg) (src : E) (k v : E)
  | dcomp2 (vs vs1 : List Nat) (tg : Tg) (src : E) (tg1 : Tg) (src1 : E) (k v : E)
  | rng (as : List E)
  | enm (a : E)
  | zip (a b : E)
  | itm (a : E)
  | app (i : Nat) (e : E)
  | ext (i : Nat) (e : E)
  | pop (i : Nat)
  | upd (i : Nat) (e : E)
  | dget (o k x : E)

inductive S where
  | set (t : Tg) (e : E)
  | own (i : Nat) (e : E)
  | par (i j : Nat) (a b : E)
  | put (i : Nat) (k v : E)
  | aug (i : Nat) (o : Operator) (e : E)
  | exp (e : E)
  | ite (t : E) (a b : List S)
  | for_ (w : List Nat) (tg : Tg) (src : E) (body : List S)
  | whl (w : List Nat) (t : E) (body : List S)
  | ret (e : E)
  | pass
  | brk
  | cnt
  | nev

inductive Fl where
  | nx | bk | ct
  | rt (d : D)

/-! ### plain data -/
def dget (kvs : List (D × D)) (k : Str) : Option D :=
  match kvs with
  | [] => none
  | (.str x, v) :: r => if x = k then some v else dget r k
  | _ :: r => dget r k
def dput (kvs : List (D × D)) (k : Str) (v : D) : List (D × D) :=
  match kvs with
  | [] => [(.str k, v)]
  | (.str x, u) :: r => if x = k then (.str x, v) :: r else (.str x, u) :: dput r k v
  | p :: r => p :: dput r k v

def fits (n : Nat) : Bool := decide (n ≤ sizeLine)

def bin : Operator → D → D → Option D
  | .Add, .int i, .int j => some (.int (i + j))
  | .Add, .str x, .str y => if x.length + y.length ≤ sizeLine then some (.str (x ++ y)) else none
  | .Add, .tuple x, .tuple y => if x.length + y.length ≤ sizeLine then some (.tuple (x ++ y)) else none
  | .Add, .list x, .list y => if x.length + y.length ≤ sizeLine then some (.list (x ++ y)) else none
  | .Sub, .int i, .int j => some (.int (i - j))
  | .Mult, .int i, .int j => if i.natAbs.log2 + j.natAbs.log2 < 1000000 then some (.int (i * j)) else none
  | .FloorDiv, .int i, .int j => if 0 < j ∧ j.natAbs.log2 < 9000 then some (.int (i / j)) else none
  | .Mod, .int i, .int j => if 0 < j then some (.int (i % j)) else none
  | .Pow, .int i, .int j => if 0 ≤ j ∧ (Builtin.Int.intBits i : Int) * j ≤ 2 ^ 27 then some (.int (i ^ j.toNat)) else none
  | .Mult, .list x, .int k => if -1000 ≤ k ∧ k ≤ 100000 ∧ x.length * k.toNat ≤ 1000000 then some (.list (List.replicate k.toNat x).flatten) else none
  | .Mult, .tuple x, .int k => if 0 ≤ k ∧ k ≤ 1000 ∧ x.length ≤ 1000 then some (.tuple (List.replicate k.toNat x).flatten) else none
  | _, _, _ => none

def inStr (x y : Str) : Bool := !(Builtin.Str.occurrences y x 0 y.length 1).isEmpty

def flatD : D → Bool
  | .none => true
  | .bool _ => true
  | .int _ => true
  | .str _ => true
  | _ => false
/-- so deep may data be that are compared or told as text -/
def DL : Nat := 400
/-- lists of unlike lengths -/
def unlikeD : D → D → Bool
  | .list xs, .list ys => xs.length != ys.length
  | _, _ => false
def eqD : D → D → Option Bool
  | .int i, .int j => some (decide (i = j))
  | .str x, .str y => some (decide (x = y))
  | a, b => if PyData.plain a = true ∧ PyData.plain b = true ∧ min a.depth b.depth ≤ DL then some (PyData.eqv a b) else if unlikeD a b = true then some false else none
def inL (a : D) (ds : List D) : Option Bool :=
  if flatD a = true ∧ ds.all flatD = true then some (ds.any fun z => PyData.eqv z a)
  else if PyData.plain a = true ∧ PyData.plainAll ds = true ∧ min (PyData.depthAll ds) a.depth ≤ DL then some (ds.any fun z => PyData.eqv z a) else none
def inT (a : D) (ds : List D) : Option Bool :=
  if flatD a = true ∧ ds.all flatD = true then some (ds.any fun z => PyData.eqv z a)
  else if PyData.plain a = true ∧ PyData.plainAll ds = true ∧ min (PyData.depthAll ds) a.depth ≤ DL then some (ds.any fun z => PyData.eqv z a) else none
def isC : D → D → Option Bool
  | .none, .none => some true
  | _, .none => some false
  | .bool c, .bool b => some (c == b)
  | _, .bool _ => some false
  | _, _ => none
def cmp : CmpOp → D → D → Option D
  | .Eq, a, b => (eqD a b).map .bool
  | .NotEq, a, b => (eqD a b).map fun q => .bool (!q)
  | .Lt, .int i, .int j => some (.bool (decide (i < j)))
  | .LtE, .int i, .int j => some (.bool (decide (i ≤ j)))
  | .Gt, .int i, .int j => some (.bool (decide (j < i)))
  | .GtE, .int i, .int j => some (.bool (decide (j ≤ i)))
  | .Lt, .str x, .str y => some (.bool (decide (x.cps.toList < y.cps.toList)))
  | .LtE, .str x, .str y => some (.bool (!decide (y.cps.toList < x.cps.toList)))
  | .In, .str x, .str y => some (.bool (inStr x y))
  | .NotIn, .str x, .str y => some (.bool (!inStr x y))
  | .In, .str x, .dict kvs => some (.bool (dget kvs x).isSome)
  | .NotIn, .str x, .dict kvs => some (.bool (!(dget kvs x).isSome))
  | .In, a, .list ds => (inL a ds).map .bool
  | .NotIn, a, .list ds => (inL a ds).map fun q => .bool (!q)
  | .In, a, .tuple ds => (inT a ds).map .bool
  | .NotIn, a, .tuple ds => (inT a ds).map fun q => .bool (!q)
  | .Is, a, b => (isC a b).map .bool
  | .IsNot, a, b => (isC a b).map fun q => .bool (!q)
  | _, _, _ => none

def idx : D → D → Option D
  | .list ds, .int i => L2.atI ds i
  | .tuple ds, .int i => L2.atI ds i
  | .str x, .int i => if x.length ≤ sizeLine then (L2.atI x.cps.toList i).map fun c => .str ⟨#[c]⟩ else none
  | .dict kvs, .str k => dget kvs k
  | _, _ => none

def cut {α : Type} (xs : List α) (lo hi : Option Int) : List α := (xs.drop (HT.sIx xs.length 0 lo)).take (HT.sIx xs.length xs.length hi - HT.sIx xs.length 0 lo)
def slice (d : D) (lo hi : Option Int) : Option D :=
  match d with
  | .list ds => some (.list (cut ds lo hi))
  | .tuple ds => some (.tuple (cut ds lo hi))
  | .str x => if x.length ≤ sizeLine then some (.str ⟨(cut x.cps.toList lo hi).toArray⟩) else none
  | _ => none

def intsOf : List D → Option (List Int)
  | [] => some []
  | .int i :: r => (intsOf r).map (i :: ·)
  | _ :: _ => none
def boolsOf : List D → Option (List Bool)
  | [] => some []
  | .bool i :: r => (boolsOf r).map (i :: ·)
  | _ :: _ => none
def strsOf : List D → Option (List Str)
  | [] => some []
  | .str i :: r => (strsOf r).map (i :: ·)
  | _ :: _ => none
/-- pairsOf (text, v) -/
def pairsOf : List D → Option (List (Str × D))
  | [] => some []
  | .tuple [.str k, v] :: r => (pairsOf r).map ((k, v) :: ·)
  | _ :: _ => none
/-- each text once -/
def step1 (acc : List Str) (x : Str) : List Str := if acc.any (· == x) then acc else acc ++ [x]
def firsts (xs : List Str) : List Str := xs.foldl step1 []
def mkDict (ps : List (Str × D)) : List (D × D) := ps.foldl (fun kvs p => dput kvs p.1 p.2) []
def minI : List Int → Int
  | [] => 0
  | x :: xs => xs.foldl (fun a b => if b < a then b else a) x
def maxI : List Int → Int
  | [] => 0
  | x :: xs => xs.foldl (fun a b => if b > a then b else a) x
def seq? : D → Option (List D)
  | .list ds => some ds
  | .tuple ds => some ds
  | _ => none
def isi (t : String) (d : D) : Option Bool :=
  match t, d with
  | "str", .str _ => some true
  | "str", _ => some false
  | "tuple", .tuple _ => some true
  | "tuple", _ => some false
  | "list", .list _ => some true
  | "list", _ => some false
  | "dict", .dict _ => some true
  | "dict", _ => some false
  | "int", .int _ => some true
  | "int", .bool _ => some true
  | "int", _ => some false
  | "bool", .bool _ => some true
  | "bool", _ => some false
  | _, _ => none

mutual
/-- atoms, tuples, empty dicts -/
def dtOk : D → Bool
  | .none => true
  | .bool _ => true
  | .int _ => true
  | .str _ => true
  | .list _ => false
  | .tuple xs => dtOks xs
  | .dict kvs => kvs.isEmpty
def dtOks : List D → Bool
  | [] => true
  | x :: xs => dtOk x && dtOks xs
end
/-- data whose text is told here: without dicts, or of atoms, tuples and empty dicts -/
def reprOk (d : D) : Bool := !d.hasDict || dtOk d
def prim : Pr → List D → Option D
  | .len, [.list ds] => some (.int ds.length)
  | .len, [.tuple ds] => some (.int ds.length)
  | .len, [.str x] => if x.length ≤ sizeLine then some (.int x.length) else none
  | .len, [.dict kvs] => some (.int kvs.length)
  | .list, [.list ds] => some (.list ds)
  | .list, [.tuple ds] => some (.list ds)
  | .list, [.dict kvs] => some (.list (kvs.map (·.1)))
  | .tuple, [.list ds] => some (.tuple ds)
  | .tuple, [.tuple ds] => some (.tuple ds)
  | .dict, [.tuple ds] => (pairsOf ds).map fun ps => .dict (mkDict ps)
  | .sum, [.list ds] => (intsOf ds).map fun ns => .int ns.sum
  | .min, [.list ds] => (intsOf ds).bind fun ns => if ns = [] then none else some (.int (minI ns))
  | .max, [.list ds] => (intsOf ds).bind fun ns => if ns = [] then none else some (.int (maxI ns))
  | .min, [.int i, .int j] => some (.int (if j < i then j else i))
  | .max, [.int i, .int j] => some (.int (if j > i then j else i))
  | .all, [.list ds] => (boolsOf ds).map fun bs => .bool (bs.all id)
  | .any, [.list ds] => (boolsOf ds).map fun bs => .bool (bs.any id)
  | .abs, [.int i] => some (.int (if i < 0 then -i else i))
  | .int, [.int i] => some (.int i)
  | .int, [.bool b] => some (.int (if b then 1 else 0))
  | .repr, [d] => if reprOk d = true ∧ d.showable = true ∧ d.shown.length ≤ sizeLine ∧ d.depth ≤ DL then some (.str d.shown) else none
  | .str, [.int i] => if i.natAbs.log2 < 1920 then some (.str (toString i)) else none
  | .str, [.str x] => some (.str x)
  | .lenSet, [.list ds] => (strsOf ds).bind fun xs => if ds.length ≤ 4000 then some (.int (firsts xs).length) else none
  | .isi t, [d] => (isi t d).map .bool
  | _, _ => none

/-! ### slots -/
def get (r : Env) (i : Nat) : Option D := match r[i]? with | some o => o | none => none
def put (r : Env) (i : Nat) (d : D) : Env := r.set i (some d)
def wipe (r : Env) : List Nat → Env
  | [] => r
  | v :: vs => (wipe r vs).set v none
/-- the slots vs as they are in r, the others as in r' -/
def back (r r' : Env) : List Nat → Env
  | [] => r'
  | v :: vs => (back r r' vs).set v (get r v)

inductive Op where
  | val (d : D)
  | by_ (i : Nat)
def Op.res (r : Env) : Op → Option D
  | .val d => some d
  | .by_ i => get r i
def resAll (r : Env) : List Op → Option (List D)
  | [] => some []
  | o :: os => (o.res r).bind fun d => (resAll r os).bind fun ds => some (d :: ds)

inductive Ar where
  | val (d : D)
  | ref (i : Nat)
  | tmp (d : D)
def Ar.res (r : Env) : Ar → Option D
  | .val d => some d
  | .ref i => get r i
  | .tmp d => some d
def arAll (r : Env) : List Ar → Option (List D)
  | [] => some []
  | o :: os => (o.res r).bind fun d => (arAll r os).bind fun ds => some (d :: ds)
def refsOf : List Ar → List Nat
  | [] => []
  | .ref i :: r => i :: refsOf r
  | _ :: r => refsOf r
def outs (r : Env) : List Ar → List D → Env
  | .ref i :: as, d :: ds => (outs r as ds).set i (some d)
  | _ :: as, _ :: ds => outs r as ds
  | _, _ => r

/-- the context of evaluation: the slots' modes, the defs, their parameters' modes, the turns of a while -/
structure Ec where
  md : List Md
  C : Nat → List D → Option (D × List D)
  fm : Nat → List Md
  fr : Nat → Bool
  wf : Nat
def Ec.mode (c : Ec) (i : Nat) : Md := c.md.getD i .fz

def assign (c : Ec) : Tg → D → Env → Option Env
  | .nm i, d, r => if c.mode i = .fz ∧ i < r.length then some (put r i d) else none
  | .tup ts, d, r => (seq? d).bind fun ds => go c ts ds r
where
  go (c : Ec) : List Tg → List D → Env → Option Env
  | [], [], r => some r
  | t :: ts, d :: ds, r => (assign c t d r).bind fun r1 => go c ts ds r1
  | _, _, _ => none

/-- what is walked: the items; the slot that holds them, with what it held -/
structure Its where
  ds : List D
  at_ : Option (Nat × List D)

mutual
def deq : D → D → Bool
  | .none, .none => true
  | .bool a, .bool b => a == b
  | .int a, .int b => a == b
  | .str a, .str b => decide (a = b)
  | .list xs, .list ys => deqs xs ys
  | .tuple xs, .tuple ys => deqs xs ys
  | .dict xs, .dict ys => deqkv xs ys
  | _, _ => false
def deqs : List D → List D → Bool
  | [], [] => true
  | x :: xs, y :: ys => deq x y && deqs xs ys
  | _, _ => false
def deqkv : List (D × D) → List (D × D) → Bool
  | [], [] => true
  | (a, b) :: xs, (c, d) :: ys => deq a c && deq b d && deqkv xs ys
  | _, _ => false
end
mutual
theorem deq_eq : ∀ a b : D, deq a b = true → a = b
  | .none, b, h => by cases b <;> simp [deq] at h ⊢
  | .bool a, b, h => by cases b <;> simp [deq] at h ⊢; exact h
  | .int a, b, h => by cases b <;> simp [deq] at h ⊢; exact h
  | .str a, b, h => by cases b <;> simp [deq] at h ⊢; exact h
  | .list xs, b, h => by
    cases b <;> simp [deq] at h ⊢
    exact deqs_eq _ _ h
  | .tuple xs, b, h => by
    cases b <;> simp [deq] at h ⊢
    exact deqs_eq _ _ h
  | .dict xs, b, h => by
    cases b <;> simp [deq] at h ⊢
    exact deqkv_eq _ _ h
theorem deqs_eq : ∀ a b : List D, deqs a b = true → a = b
  | [], b, h => by cases b <;> simp [deqs] at h ⊢
  | x :: xs, b, h => by
    cases b with
    | nil => simp [deqs] at h
    | cons y ys =>
      simp only [deqs, Bool.and_eq_true] at h
      rw [deq_eq x y h.1, deqs_eq xs ys h.2]
theorem deqkv_eq : ∀ a b : List (D × D), deqkv a b = true → a = b
  | [], b, h => by cases b <;> simp [deqkv] at h ⊢
  | (x, x') :: xs, b, h => by
    cases b with
    | nil => simp [deqkv] at h
    | cons y ys =>
      obtain ⟨y, y'⟩ := y
      simp only [deqkv, Bool.and_eq_true] at h
      rw [deq_eq x y h.1.1, deq_eq x' y' h.1.2, deqkv_eq xs ys h.2]
end
mutual
theorem deq_refl : ∀ a : D, deq a a = true
  | .none => by simp [deq]
  | .bool a => by simp [deq]
  | .int a => by simp [deq]
  | .str a => by simp [deq]
  | .list xs => by simp only [deq]; exact deqs_refl xs
  | .tuple xs => by simp only [deq]; exact deqs_refl xs
  | .dict xs => by simp only [deq]; exact deqkv_refl xs
theorem deqs_refl : ∀ a : List D, deqs a a = true
  | [] => by simp [deqs]
  | x :: xs => by simp only [deqs, deq_refl x, deqs_refl xs, Bool.and_self]
theorem deqkv_refl : ∀ a : List (D × D), deqkv a a = true
  | [] => by simp [deqkv]
  | (x, y) :: xs => by simp only [deqkv, deq_refl x, deq_refl y, deqkv_refl xs, Bool.and_self]
end
def Its.ok (t : Its) (r : Env) : Bool :=
  match t.at_ with
  | none => true
  | some (i, ds) => match get r i with
    | some (.list es) => deqs es ds
    | _ => false

/-! ### evaluation -/
def itsOf (r : Env) : Op → Option Its
  | .val (.list ds) => some ⟨ds, none⟩
  | .val (.tuple ds) => some ⟨ds, none⟩
  | .val (.str x) => if x.length ≤ sizeLine then some ⟨x.cps.toList.map fun c => .str ⟨#[c]⟩, none⟩ else none
  | .val (.dict kvs) => some ⟨kvs.map (·.1), none⟩
  | .by_ i => match get r i with
    | some (.list ds) => some ⟨ds, some (i, ds)⟩
    | _ => none
  | _ => none
def intRange (lo : Int) (n : Nat) : List D := (List.range n).map fun (k : Nat) => .int (lo + (k : Int))
def small62 (i : Int) : Bool := decide (-(2 ^ 62) ≤ i ∧ i < 2 ^ 62)

/-- a comprehension's turns -/
def compL (ok : Env → Bool) (w : Env → Env) (tg : D → Env → Option Env) (cond : Env → Option (Bool × Env)) (elt : Env → Option (D × Env)) : List D → List D → Env → Option (List D × Env)
  | [], acc, r => if ok r then some (acc, r) else none
  | d :: ds, acc, r => if ok r then (tg d (w r)).bind fun r1 => (cond r1).bind fun q =>
      if q.1 then (elt q.2).bind fun p => if acc.length < sizeLine then compL ok w tg cond elt ds (acc ++ [p.1]) (w p.2) else none
      else compL ok w tg cond elt ds acc (w q.2)
    else none
/-- .. of a comprehension with two fors: what one turn of the outer does to the items so far -/
def comp2L {α : Type} (ok : Env → Bool) (w : Env → Env) (tg : D → Env → Option Env) (inner : α → Env → Option (α × Env)) : List D → α → Env → Option (α × Env)
  | [], acc, r => if ok r then some (acc, r) else none
  | d :: ds, acc, r => if ok r then (tg d (w r)).bind fun r1 => (inner acc r1).bind fun q => comp2L ok w tg inner ds q.1 (w q.2)
    else none
/-- .. of a dict -/
def dcompL (ok : Env → Bool) (w : Env → Env) (tg : D → Env → Option Env) (kf vf : Env → Option (D × Env)) : List D → List (D × D) → Env → Option (List (D × D) × Env)
  | [], acc, r => if ok r then some (acc, r) else none
  | d :: ds, acc, r => if ok r then (tg d (w r)).bind fun r1 => (kf r1).bind fun q => (vf q.2).bind fun p =>
      match q.1 with
      | .str k => if acc.length < sizeLine then dcompL ok w tg kf vf ds (dput acc k p.1) (w p.2) else none
      | _ => none
    else none

def callWith (c : Ec) (f : Nat) (as : List Ar) (r : Env) : Option (D × Env) :=
  if (refsOf as).Nodup then (arAll r as).bind fun ds => (c.C f ds).bind fun q => if q.2.length = as.length then some (q.1, outs (wipe r (refsOf as)) as q.2) else none else none
def zipD : List D → List D → List D
  | x :: xs, y :: ys => .tuple [x, y] :: zipD xs ys
  | _, _ => []
def enmD : Nat → List D → List D
  | _, [] => []
  | k, x :: xs => .tuple [.int k, x] :: enmD (k + 1) xs


/-- what an expression is: as a value, a test, a thing that is walked, a part of a slice; the name that it is; the written items of a list -/
structure View where
  e : Env → Option (D × Env)
  t : Env → Option (Bool × Env)
  i : Env → Option (Its × Env)
  v : Option Nat
  l : Option (Env → Option (List D × Env))
  p : Env → Option (Option Int × Env)
def View.o (c : Ec) (w : View) (r : Env) : Option (Op × Env) :=
  match w.v with
  | some i => (get r i).map fun d => (if c.mode i = .fz then .val d else .by_ i, r)
  | none => (w.e r).map fun p => (.val p.1, p.2)
def asT (e : Env → Option (D × Env)) (r : Env) : Option (Bool × Env) := (e r).bind fun p => match p.1 with
  | .bool b => some (b, p.2)
  | _ => none
def asP (e : Env → Option (D × Env)) (r : Env) : Option (Option Int × Env) := (e r).bind fun p => match p.1 with
  | .int i => some (some i, p.2)
  | _ => none
def asI (o : Env → Option (Op × Env)) (r : Env) : Option (Its × Env) := (o r).bind fun p => (itsOf p.2 p.1).map fun t => (t, p.2)
def plainV (e : Env → Option (D × Env)) : View :=
  { e := e, t := asT e, i := asI fun r => (e r).map fun p => (.val p.1, p.2), v := none, l := none, p := asP e }
def varE (c : Ec) (i : Nat) (r : Env) : Option (D × Env) := (get r i).bind fun d => match c.mode i with
    | .fz => some (d, r)
    | .ow => some (d, r.set i none)
    | .io => none
def varV (c : Ec) (i : Nat) : View :=
  { e := varE c i, t := asT (varE c i), i := asI fun r => (get r i).map fun d => (if c.mode i = .fz then .val d else .by_ i, r), v := some i, l := none, p := asP (varE c i) }
def esV : List View → Env → Option (List D × Env)
  | [], r => some ([], r)
  | e :: es, r => (e.e r).bind fun p => (esV es p.2).map fun q => (p.1 :: q.1, q.2)
def osV (c : Ec) : List View → Env → Option (List Op × Env)
  | [], r => some ([], r)
  | e :: es, r => (e.o c r).bind fun p => (osV c es p.2).map fun q => (p.1 :: q.1, q.2)
def kvV : List View → List View → Env → Option (List (Str × D) × Env)
  | [], [], r => some ([], r)
  | k :: ks, v :: vs, r => (k.e r).bind fun p => (v.e p.2).bind fun q => match p.1 with
    | .str x => (kvV ks vs q.2).map fun s => ((x, q.1) :: s.1, s.2)
    | _ => none
  | _, _, _ => none
def asV (c : Ec) : List Md → List View → Env → Option (List Ar × Env)
  | [], [], r => some ([], r)
  | .fz :: ms, e :: es, r => (e.e r).bind fun p => (asV c ms es p.2).map fun q => (.val p.1 :: q.1, q.2)
  | _ :: ms, e :: es, r => match e.v with
    | some i => if c.mode i = .fz ∨ (get r i).isSome = false then none else (asV c ms es r).map fun q => (.ref i :: q.1, q.2)
    | none => match e.l, ms, es with
      | some l, [], [] => (l r).bind fun p => if p.1.length ≤ sizeLine then some ([.tmp (.list p.1)], p.2) else none
      | _, _, _ => none
  | _, _, _ => none
def tsV : List View → Env → Option (Bool × Env)
  | [], r => some (true, r)
  | [e], r => e.t r
  | _, _ => none
def rngV : List View → Env → Option (Its × Env)
  | [a], r => (a.e r).bind fun p => match p.1 with
    | .int j => if small62 j then some (⟨intRange 0 j.toNat, none⟩, p.2) else none
    | _ => none
  | [a, b], r => (a.e r).bind fun p => (b.e p.2).bind fun q => match p.1, q.1 with
    | .int i, .int j => if small62 i && small62 j then some (⟨intRange i (j - i).toNat, none⟩, q.2) else none
    | _, _ => none
  | _, _ => none
def noneE (_ : Env) : Option (D × Env) := none
def listE (l : Env → Option (List D × Env)) (r : Env) : Option (D × Env) := (l r).bind fun q => if q.1.length ≤ sizeLine then some (.list q.1, q.2) else none
/-- the items of a comprehension -/
def compE (c : Ec) (vs : List Nat) (tg : Tg) (src : View) (ifs : List View) (elt : View) (r : Env) : Option (D × Env) :=
  (src.i r).bind fun p => (compL p.1.ok (fun e => wipe e vs) (assign c tg) (tsV ifs) elt.e p.1.ds [] (wipe p.2 vs)).map fun q => (.list q.1, back p.2 q.2 vs)
def comp2E (c : Ec) (vs vs1 : List Nat) (tg : Tg) (src : View) (tg1 : Tg) (src1 elt : View) (r : Env) : Option (D × Env) :=
  (src.i r).bind fun p => (comp2L p.1.ok (fun e => wipe e vs) (assign c tg) (fun acc r1 => (src1.i r1).bind fun s =>
      (compL s.1.ok (fun e => wipe e vs1) (assign c tg1) (fun e => some (true, e)) elt.e s.1.ds acc (wipe s.2 vs1))) p.1.ds [] (wipe p.2 vs)).map fun q => (.list q.1, back p.2 q.2 vs)
def dcompE (c : Ec) (vs : List Nat) (tg : Tg) (src k v : View) (r : Env) : Option (D × Env) :=
  (src.i r).bind fun p => (dcompL p.1.ok (fun e => wipe e vs) (assign c tg) k.e v.e p.1.ds [] (wipe p.2 vs)).map fun q => (.dict q.1, back p.2 q.2 vs)
def dcomp2E (c : Ec) (vs vs1 : List Nat) (tg : Tg) (src : View) (tg1 : Tg) (src1 k v : View) (r : Env) : Option (D × Env) :=
  (src.i r).bind fun p => (comp2L p.1.ok (fun e => wipe e vs) (assign c tg) (fun acc r1 => (src1.i r1).bind fun s =>
      (dcompL s.1.ok (fun e => wipe e vs1) (assign c tg1) k.e v.e s.1.ds acc (wipe s.2 vs1))) p.1.ds [] (wipe p.2 vs)).map fun q => (.dict q.1, back p.2 q.2 vs)
def binE (c : Ec) (f : D → D → Option D) (a b : View) (r : Env) : Option (D × Env) :=
  (a.o c r).bind fun p => (b.o c p.2).bind fun q => (p.1.res q.2).bind fun x => (q.1.res q.2).bind fun y => (f x y).map fun z => (z, q.2)
def idxE (c : Ec) (a b : View) (r : Env) : Option (D × Env) := (a.o c r).bind fun p => (b.e p.2).bind fun q => (p.1.res q.2).bind fun x => (idx x q.1).map fun z => (z, q.2)
def slcE (c : Ec) (a lo hi : View) (r : Env) : Option (D × Env) :=
  (a.o c r).bind fun p => (lo.p p.2).bind fun l => (hi.p l.2).bind fun h => (p.1.res h.2).bind fun x => (slice x l.1 h.1).map fun z => (z, h.2)
def revD : D → Option D
  | .list ds => some (.list ds.reverse)
  | .tuple ds => some (.tuple ds.reverse)
  | _ => none
def revE (c : Ec) (a : View) (r : Env) : Option (D × Env) := (a.o c r).bind fun p => (p.1.res p.2).bind fun x => (revD x).map fun z => (z, p.2)
def negE (a : View) (r : Env) : Option (D × Env) := (a.e r).bind fun p => match p.1 with
    | .int i => some (.int (-i), p.2)
    | _ => none
def notE (a : View) (r : Env) : Option (D × Env) := (a.e r).bind fun p => match p.1 with
    | .bool b => some (.bool (!b), p.2)
    | _ => none
def andE (a b : View) (r : Env) : Option (D × Env) := (a.e r).bind fun p => match p.1 with
    | .bool true => b.e p.2
    | .bool false => some (.bool false, p.2)
    | _ => none
def orE (a b : View) (r : Env) : Option (D × Env) := (a.e r).bind fun p => match p.1 with
    | .bool true => some (.bool true, p.2)
    | .bool false => b.e p.2
    | _ => none
def chnE (o o' : CmpOp) (a b d : View) (r : Env) : Option (D × Env) := (a.e r).bind fun p => (b.e p.2).bind fun q => (cmp o p.1 q.1).bind fun z => match z with
    | .bool true => (d.e q.2).bind fun s => (cmp o' q.1 s.1).map fun z => (z, s.2)
    | .bool false => some (.bool false, q.2)
    | _ => none
def iteE (t a b : View) (r : Env) : Option (D × Env) := (t.t r).bind fun p => if p.1 then a.e p.2 else b.e p.2
def primE (c : Ec) (p : Pr) (as : List View) (r : Env) : Option (D × Env) := (osV c as r).bind fun q => (resAll q.2 q.1).bind fun ds => (prim p ds).map fun z => (z, q.2)
def isLst : Option D → Bool
  | some (.list _) => true
  | _ => false
def isDct : Option D → Bool
  | some (.dict _) => true
  | _ => false
def appE (c : Ec) (i : Nat) (a : View) (r : Env) : Option (D × Env) := if c.mode i = .fz ∨ isLst (get r i) = false then none else (a.e r).bind fun p => match get p.2 i with
    | some (.list ds) => if ds.length < sizeLine then some (.none, put p.2 i (.list (ds ++ [p.1]))) else none
    | _ => none
def extE (c : Ec) (i : Nat) (a : View) (r : Env) : Option (D × Env) := if c.mode i = .fz ∨ isLst (get r i) = false then none else (a.e r).bind fun p => match get p.2 i, p.1 with
    | some (.list ds), .list es => if ds.length + es.length ≤ sizeLine then some (.none, put p.2 i (.list (ds ++ es))) else none
    | _, _ => none
def strKs : List (D × D) → Bool
  | [] => true
  | (.str _, _) :: r => strKs r
  | _ :: _ => false
/-- a dict's rows put into another one -/
def mergeD (kvs : List (D × D)) : List (D × D) → List (D × D)
  | [] => kvs
  | (.str k, v) :: r => mergeD (dput kvs k v) r
  | _ :: r => mergeD kvs r
def updE (c : Ec) (i : Nat) (a : View) (r : Env) : Option (D × Env) := if c.mode i = .fz ∨ isDct (get r i) = false then none else (a.e r).bind fun p => match get p.2 i, p.1 with
    | some (.dict kvs), .dict more => if kvs.length + more.length ≤ sizeLine ∧ strKs more = true then some (.none, put p.2 i (.dict (mergeD kvs more))) else none
    | _, _ => none
def popE (c : Ec) (i : Nat) (r : Env) : Option (D × Env) := if c.mode i = .fz then none else match get r i with
    | some (.list ds) => ds.getLast?.map fun d => (d, put r i (.list ds.dropLast))
    | _ => none
def dgetE (c : Ec) (o k x : View) (r : Env) : Option (D × Env) := (o.o c r).bind fun p => if isDct (p.1.res p.2) = true then (k.e p.2).bind fun q => (x.e q.2).bind fun s => (p.1.res s.2).bind fun d => match d, q.1 with
    | .dict kvs, .str k => some ((dget kvs k).getD s.1, s.2)
    | _, _ => none else none

mutual
def ev (c : Ec) : E → View
  | .con d => plainV fun r => some (d, r)
  | .var i => varV c i
  | .bin o a b => plainV (binE c (bin o) (ev c a) (ev c b))
  | .neg a => plainV (negE (ev c a))
  | .not a => { plainV (notE (ev c a)) with t := fun r => ((ev c a).t r).map fun p => (!p.1, p.2) }
  | .and a b => { plainV (andE (ev c a) (ev c b)) with t := fun r => ((ev c a).t r).bind fun p => if p.1 then (ev c b).t p.2 else some (false, p.2) }
  | .or a b => { plainV (orE (ev c a) (ev c b)) with t := fun r => ((ev c a).t r).bind fun p => if p.1 then some (true, p.2) else (ev c b).t p.2 }
  | .cmp o a b => plainV (binE c (cmp o) (ev c a) (ev c b))
  | .chn o o' a b d => plainV (chnE o o' (ev c a) (ev c b) (ev c d))
  | .ite t a b => { plainV (iteE (ev c t) (ev c a) (ev c b)) with t := fun r => ((ev c t).t r).bind fun p => if p.1 then (ev c a).t p.2 else (ev c b).t p.2 }
  | .call f as => plainV fun r => (asV c (c.fm f) (evs c as) r).bind fun p => callWith c f p.1 p.2
  | .prim p as => plainV (primE c p (evs c as))
  | .idx a b => plainV (idxE c (ev c a) (ev c b))
  | .slc a lo hi => plainV (slcE c (ev c a) (ev c lo) (ev c hi))
  | .rev a => plainV (revE c (ev c a))
  | .abs => { plainV noneE with p := fun r => some (none, r) }
  | .tup es => plainV fun r => (esV (evs c es) r).bind fun q => if q.1.length ≤ sizeLine then some (.tuple q.1, q.2) else none
  | .lst es => { plainV (listE (esV (evs c es))) with l := some (esV (evs c es)) }
  | .dic ks vs => plainV fun r => (kvV (evs c ks) (evs c vs) r).bind fun q => if q.1.length ≤ 15 then some (.dict (mkDict q.1), q.2) else none
  | .comp vs tg src ifs elt => plainV (compE c vs tg (ev c src) (evs c ifs) (ev c elt))
  | .comp2 vs vs1 tg src tg1 src1 elt => plainV (comp2E c vs vs1 tg (ev c src) tg1 (ev c src1) (ev c elt))
  | .dcomp vs tg src k v => plainV (dcompE c vs tg (ev c src) (ev c k) (ev c v))
  | .dcomp2 vs vs1 tg src tg1 src1 k v => plainV (dcomp2E c vs vs1 tg (ev c src) tg1 (ev c src1) (ev c k) (ev c v))
  | .rng as => { plainV noneE with i := rngV (evs c as) }
  | .enm a => { plainV noneE with i := fun r => ((ev c a).e r).bind fun p => match p.1 with
    | .list ds => some (⟨enmD 0 ds, none⟩, p.2)
    | _ => none }
  | .zip a b => { plainV noneE with i := fun r => ((ev c a).e r).bind fun p => ((ev c b).e p.2).bind fun q => (seq? p.1).bind fun xs => (seq? q.1).bind fun ys => some (⟨zipD xs ys, none⟩, q.2) }
  | .itm _ => plainV noneE
  | .app i e => plainV (appE c i (ev c e))
  | .ext i e => plainV (extE c i (ev c e))
  | .pop i => plainV (popE c i)
  | .upd i e => plainV (updE c i (ev c e))
  | .dget o k x => plainV (dgetE c (ev c o) (ev c k) (ev c x))
def evs (c : Ec) : List E → List View
  | [] => []
  | e :: es => ev c e :: evs c es
end

/-! ### statements -/
def forL (ok : Env → Bool) (w : Env → Env) (tg : D → Env → Option Env) (body : Env → Option (Fl × Env)) : List D → Env → Option (Fl × Env)
  | [], r => if ok r then some (.nx, r) else none
  | d :: ds, r => if ok r then (tg d (w r)).bind fun r1 => (body r1).bind fun q => match q.1 with
      | .nx => forL ok w tg body ds (w q.2)
      | .ct => forL ok w tg body ds (w q.2)
      | .bk => some (.nx, w q.2)
      | .rt d => some (.rt d, q.2)
    else none
def whL (w : Env → Env) (t : Env → Option (Bool × Env)) (body : Env → Option (Fl × Env)) : Nat → Env → Option (Fl × Env)
  | 0, _ => none
  | n + 1, r => (t r).bind fun p => if p.1 then (body p.2).bind fun q => match q.1 with
      | .nx => whL w t body n (w q.2)
      | .ct => whL w t body n (w q.2)
      | .bk => some (.nx, w q.2)
      | .rt d => some (.rt d, q.2)
    else some (.nx, p.2)
def nx (r : Env) : Fl × Env := (.nx, r)
def thenS (a b : Env → Option (Fl × Env)) (r : Env) : Option (Fl × Env) := (a r).bind fun q => match q.1 with
  | .nx => b q.2
  | f => some (f, q.2)
mutual
/-- the slots that come to hold another list or dict -/
def ownsS : S → List Nat
  | .own i _ => [i]
  | .ite _ a b => ownsSs a ++ ownsSs b
  | .for_ _ _ _ b => ownsSs b
  | .whl _ _ b => ownsSs b
  | _ => []
def ownsSs : List S → List Nat
  | [] => []
  | s :: ss => ownsS s ++ ownsSs ss
end
def Its.out (t : Its) (ws : List Nat) : Bool :=
  match t.at_ with
  | none => true
  | some p => !ws.contains p.1
/-- a list or dict that was just made, to a slot of the def's own -/
def freshE (c : Ec) : E → Bool
  | .lst _ => true
  | .dic _ _ => true
  | .comp .. => true
  | .comp2 .. => true
  | .dcomp .. => true
  | .dcomp2 .. => true
  | .call f _ => c.fr f
  | .var i => c.mode i == .ow
  | _ => false
mutual
def evS (c : Ec) : S → Env → Option (Fl × Env)
  | .set t e => fun r => ((ev c e).e r).bind fun p => (assign c t p.1 p.2).map nx
  | .own i e => fun r => if c.mode i = .ow ∧ freshE c e = true ∧ i < r.length then ((ev c e).e r).map fun p => nx (put p.2 i p.1) else none
  | .par i j a b => fun r => if c.mode i = .fz ∧ c.mode j = .fz ∧ i ≠ j ∧ i < r.length ∧ j < r.length then ((ev c a).e r).bind fun p => ((ev c b).e p.2).map fun q => nx (put (put q.2 i p.1) j q.1) else none
  | .put i k v => fun r => if c.mode i = .fz then none else ((ev c v).e r).bind fun p => if (get p.2 i).isSome = true then ((ev c k).e p.2).bind fun q => match get q.2 i, q.1 with
    | some (.list ds), .int n => (L2.ixN ds.length n).map fun j => nx (put q.2 i (.list (ds.set j p.1)))
    | some (.dict kvs), .str x => if kvs.length < sizeLine then some (nx (put q.2 i (.dict (dput kvs x p.1)))) else none
    | _, _ => none else none
  | .aug i o e => fun r => if c.mode i = .fz then (get r i).bind fun x => ((ev c e).e r).bind fun p => match x, p.1, o with
    | .int a, .int b, .Add => some (nx (put p.2 i (.int (a + b))))
    | .int a, .int b, .Sub => some (nx (put p.2 i (.int (a - b))))
    | _, _, _ => none else none
  | .exp e => fun r => ((ev c e).e r).map fun p => nx p.2
  | .ite t a b => fun r => ((ev c t).t r).bind fun p => if p.1 then evSs c a p.2 else evSs c b p.2
  | .for_ w tg src body => fun r => ((ev c src).i r).bind fun p => if p.1.out (ownsSs body) = true then forL p.1.ok (fun e => wipe e w) (assign c tg) (evSs c body) p.1.ds (wipe p.2 w) else none
  | .whl w t body => fun r => whL (fun e => wipe e w) (ev c t).t (evSs c body) c.wf (wipe r w)
  | .ret e => fun r => ((ev c e).e r).map fun p => (.rt p.1, p.2)
  | .pass => fun r => some (nx r)
  | .brk => fun r => some (.bk, r)
  | .cnt => fun r => some (.ct, r)
  | .nev => fun _ => none
def evSs (c : Ec) : List S → Env → Option (Fl × Env)
  | [] => fun r => some (nx r)
  | s :: ss => thenS (evS c s) (evSs c ss)
end

/-- a def: its parameters' modes, its slots' modes, its body -/
structure FD where
  ps : List Md
  md : List Md
  fr : Bool
  body : List S
def FD.run (wf : Nat) (fm : Nat → List Md) (fr : Nat → Bool) (C : Nat → List D → Option (D × List D)) (f : FD) (args : List D) : Option (D × List D) :=
  if args.length = f.ps.length then
    (evSs ⟨f.md, C, fm, fr, wf⟩ f.body (args.map some ++ List.replicate (f.md.length - args.length) none)).bind fun q =>
      let out := (List.range f.ps.length).map fun i => (get q.2 i).getD .none
      let io := (List.range f.ps.length).all fun i => f.ps.getD i .fz == .fz || (get q.2 i).isSome
      if io then match q.1 with
        | .nx => if f.fr then none else some (.none, out)
        | .rt d => some (d, out)
        | _ => none
      else none
  else none
/-- the program: n calls within one another -/
def run (P : List FD) (wf : Nat) : Nat → Nat → List D → Option (D × List D)
  | 0, _, _ => none
  | n + 1, f, args => (P[f]?).bind fun fd => fd.run wf (fun g => (P[g]?.map FD.ps).getD []) (fun g => (P[g]?.map FD.fr).getD false) (run P wf n) args
end Mp

/-! plain data in the abstract heap; the slots' relation -/
namespace Mp
open PySem PySem.Spec PyProof.Rows L2

/-- a written tuple, without an own dict -/
def WrT (K : PySem.W.Frag) (a : Addr) (xs : List V) : Prop :=
  ∃ (o : Obj) (its : Array Value) (n : Nat), K.lookup a = some o ∧ o.cls = .type "tuple" ∧ o.dict = none ∧ o.data = .seq its n ∧ its.size ≤ sizeLine ∧ Vals xs its.toList
/-- a list of the module's own -/
def WrL (K : PySem.W.Frag) (a : Addr) (xs : List V) : Prop := ∃ (its : List Value) (n : Nat), K.lookup a = some { cls := .type "list", data := .seq its.toArray n } ∧ its.length ≤ sizeLine ∧ Vals xs its
def LsT (K : PySem.W.Frag) (H : Hp) (a : Addr) (xs : List V) : Prop := Rd H a (.lst xs) ∨ WrL K a xs
theorem WrL.sq {K : PySem.W.Frag} {H : Hp} {a : Addr} {xs : List V} (h : WrL K a xs) : SqL K H a xs := by
  obtain ⟨its, n, h1, h2, h3⟩ := h
  exact .inr ⟨_, its.toArray, n, h1, rfl, rfl, rfl, by simpa using h2, by simpa using h3⟩
theorem LsT.sq {K : PySem.W.Frag} {H : Hp} {a : Addr} {xs : List V} (h : LsT K H a xs) : SqL K H a xs := h.elim .inl WrL.sq
/-- a tuple that was made, without an own dict -/
def TupF (H : Hp) (a : Addr) (xs : List V) : Prop := ∃ o, H a = some (.frz o (.tup xs)) ∧ o.dict = none
def kD : Key → D
  | .inl i => .int i
  | .inr x => .str x
mutual
/-- v is the data d; nothing that O holds is within -/
inductive Rep (K : PySem.W.Frag) (H : Hp) (O : Addr → Prop) : V → D → Prop
  | non : Rep K H O .non .none
  | bl (b : Bool) : Rep K H O (.bl b) (.bool b)
  | int (i : Int) : Rep K H O (.int i) (.int i)
  | str (x : Str) : Rep K H O (.str x) (.str x)
  | lst {a : Addr} {xs : List V} {ds : List D} : (Rd H a (.lst xs) ∧ ¬ O a) ∨ WrL K a xs → RepA K H O xs ds → Rep K H O (.ref a) (.list ds)
  | tup {a : Addr} {xs : List V} {ds : List D} : (TupF H a xs ∧ ¬ O a) ∨ WrT K a xs → RepA K H O xs ds → Rep K H O (.ref a) (.tuple ds)
  | dct {a : Addr} {kvs : List (Key × V)} {es : List (D × D)} : (∃ o, H a = some (.frz o (.dK kvs))) → ¬ O a → (kvs.map (·.1)).Nodup → RepK K H O kvs es → Rep K H O (.ref a) (.dict es)
inductive RepA (K : PySem.W.Frag) (H : Hp) (O : Addr → Prop) : List V → List D → Prop
  | nil : RepA K H O [] []
  | cons {v vs d ds} : Rep K H O v d → RepA K H O vs ds → RepA K H O (v :: vs) (d :: ds)
inductive RepK (K : PySem.W.Frag) (H : Hp) (O : Addr → Prop) : List (Key × V) → List (D × D) → Prop
  | nil : RepK K H O [] []
  | cons {k v vs d ds} : Rep K H O v d → RepK K H O vs ds → RepK K H O ((k, v) :: vs) ((kD k, d) :: ds)
end
/-- what an owned address holds -/
inductive OwnC (K : PySem.W.Frag) (H : Hp) (O : Addr → Prop) (a : Addr) : D → Prop
  | lst {xs ds} : H a = some (.lst xs) → RepA K H O xs ds → OwnC K H O a (.list ds)
  | dct {kvs es} : H a = some (.dK kvs) → (kvs.map (·.1)).Nodup → RepK K H O kvs es → OwnC K H O a (.dict es)
def RepX (K : PySem.W.Frag) (H : Hp) (O : Addr → Prop) (v : V) (d : D) : Prop := Rep K H O v d ∨ ∃ a, v = .ref a ∧ O a ∧ OwnC K H O a d

/-- from one state to a later one: what is not held stays, what is held newly is new -/
structure Step (O : Addr → Prop) (H : Hp) (O' : Addr → Prop) (H' : Hp) : Prop where
  new : ∀ a, O' a → O a ∨ H a = none
  keep : ∀ a o, H a = some o → ¬ O a → H' a = some o
theorem Step.refl {O : Addr → Prop} {H : Hp} : Step O H O H := ⟨fun _ h => .inl h, fun _ _ h _ => h⟩
theorem Step.none_of {O O' : Addr → Prop} {H H' : Hp} (s : Step O H O' H') {a : Addr} (h : H' a = none) : H a = none ∨ O a := by
  cases e : H a with
  | none => exact .inl rfl
  | some o =>
    refine .inr (Classical.byContradiction fun n => ?_)
    have := s.keep a o e n
    rw [h] at this; cases this
theorem Step.trans {O O1 O2 : Addr → Prop} {H H1 H2 : Hp} (s : Step O H O1 H1) (t : Step O1 H1 O2 H2) : Step O H O2 H2 := by
  refine ⟨fun a h => ?_, fun a o h n => ?_⟩
  · rcases t.new a h with h | h
    · exact s.new a h
    · rcases s.none_of h with h | h
      · exact .inr h
      · exact .inl h
  · have n1 : ¬ O1 a := fun z => by
      rcases s.new a z with z | z
      · exact n z
      · rw [h] at z; cases z
    exact t.keep a o (s.keep a o h n) n1
theorem Step.grow {O : Addr → Prop} {H H' : Hp} (g : Same H H') : Step O H O H' := ⟨fun _ h => .inl h, fun a o h _ => g a o h⟩
theorem Step.sub {O O' : Addr → Prop} {H : Hp} (g : ∀ a, O' a → O a) : Step O H O' H := ⟨fun a h => .inl (g a h), fun _ _ h _ => h⟩

section
variable {K : PySem.W.Frag} {H H' : Hp} {O O' : Addr → Prop} {a : Addr} {v : V} {d : D} {vs : List V} {ds : List D}
theorem Step.rd (s : Step O H O' H') {u : HO} (h : Rd H a u) (n : ¬ O a) : Rd H' a u ∧ ¬ O' a := by
  refine ⟨?_, fun z => ?_⟩
  · rcases h with h | ⟨o, h⟩
    · exact .inl (s.keep _ _ h n)
    · exact .inr ⟨o, s.keep _ _ h n⟩
  · rcases s.new a z with z | z
    · exact n z
    · rcases h with h | ⟨o, h⟩ <;> rw [h] at z <;> cases z
theorem Step.tupF (s : Step O H O' H') {xs : List V} (h : TupF H a xs) (n : ¬ O a) : TupF H' a xs ∧ ¬ O' a := by
  obtain ⟨o, h, d⟩ := h
  exact ⟨⟨o, s.keep _ _ h n, d⟩, (s.rd (.inl h) n).2⟩
theorem TupF.sq {xs : List V} (h : TupF H a xs) : SqT K H a xs := by
  obtain ⟨o, h, _⟩ := h
  exact .inl (.inr ⟨o, h⟩)
theorem WrT.sq {xs : List V} (h : WrT K a xs) : SqT K H a xs := by
  obtain ⟨o, its, n, h1, h2, _, h3, h4, h5⟩ := h
  exact .inr ⟨o, its, n, h1, h2, h3, h4, h5⟩
mutual
theorem Rep.step (s : Step O H O' H') : ∀ {v : V} {d : D}, Rep K H O v d → Rep K H' O' v d
  | _, _, .non => .non
  | _, _, .bl b => .bl b
  | _, _, .int i => .int i
  | _, _, .str x => .str x
  | _, _, .lst (.inl ⟨h, n⟩) r => .lst (.inl ⟨(s.rd h n).1, (s.rd h n).2⟩) (RepA.step s r)
  | _, _, .lst (.inr h) r => .lst (.inr h) (RepA.step s r)
  | _, _, .tup (.inl ⟨h, n⟩) r => .tup (.inl (s.tupF h n)) (RepA.step s r)
  | _, _, .tup (.inr h) r => .tup (.inr h) (RepA.step s r)
  | _, _, .dct ⟨o, h⟩ n nd r => .dct ⟨o, s.keep _ _ h n⟩ (s.rd (.inr ⟨o, h⟩) n).2 nd (RepK.step s r)
theorem RepA.step (s : Step O H O' H') : ∀ {vs : List V} {ds : List D}, RepA K H O vs ds → RepA K H' O' vs ds
  | _, _, .nil => .nil
  | _, _, .cons r t => .cons (Rep.step s r) (RepA.step s t)
theorem RepK.step (s : Step O H O' H') : ∀ {vs : List (Key × V)} {ds : List (D × D)}, RepK K H O vs ds → RepK K H' O' vs ds
  | _, _, .nil => .nil
  | _, _, .cons r t => .cons (Rep.step s r) (RepK.step s t)
end
theorem RepA.length : ∀ {vs : List V} {ds : List D}, RepA K H O vs ds → vs.length = ds.length
  | _, _, .nil => rfl
  | _, _, .cons _ t => by rw [List.length_cons, List.length_cons, RepA.length t]
theorem RepA.append : ∀ {vs ws : List V} {ds es : List D}, RepA K H O vs ds → RepA K H O ws es → RepA K H O (vs ++ ws) (ds ++ es)
  | _, _, _, _, .nil, s => s
  | _, _, _, _, .cons r t, s => .cons r (RepA.append t s)
theorem RepA.take : ∀ {vs : List V} {ds : List D} (n : Nat), RepA K H O vs ds → RepA K H O (vs.take n) (ds.take n)
  | _, _, 0, _ => .nil
  | _, _, _ + 1, .nil => .nil
  | _, _, n + 1, .cons r t => .cons r (RepA.take n t)
theorem RepA.drop : ∀ {vs : List V} {ds : List D} (n : Nat), RepA K H O vs ds → RepA K H O (vs.drop n) (ds.drop n)
  | _, _, 0, r => r
  | _, _, _ + 1, .nil => .nil
  | _, _, n + 1, .cons _ t => RepA.drop n t
theorem RepA.get : ∀ {vs : List V} {ds : List D} {i : Nat} {d : D}, RepA K H O vs ds → ds[i]? = some d → ∃ v, vs[i]? = some v ∧ Rep K H O v d
  | _, _, _, _, .nil, e => by simp at e
  | _, _, 0, _, .cons r _, e => by simp at e; subst e; exact ⟨_, rfl, r⟩
  | _, _, i + 1, d, .cons _ t, e => by
    obtain ⟨v, h1, h2⟩ := RepA.get (i := i) (d := d) t (by simpa using e)
    exact ⟨v, by simpa using h1, h2⟩
theorem RepA.get' : ∀ {vs : List V} {ds : List D} {i : Nat} {v : V}, RepA K H O vs ds → vs[i]? = some v → ∃ d, ds[i]? = some d ∧ Rep K H O v d
  | _, _, _, _, .nil, e => by simp at e
  | _, _, 0, _, .cons r _, e => by simp at e; subst e; exact ⟨_, rfl, r⟩
  | _, _, i + 1, v, .cons _ t, e => by
    obtain ⟨d, h1, h2⟩ := RepA.get' (i := i) (v := v) t (by simpa using e)
    exact ⟨d, by simpa using h1, h2⟩
theorem RepA.set {v : V} {d : D} (r : Rep K H O v d) : ∀ {vs : List V} {ds : List D} (i : Nat), RepA K H O vs ds → RepA K H O (vs.set i v) (ds.set i d)
  | _, _, _, .nil => .nil
  | _, _, 0, .cons _ t => .cons r t
  | _, _, i + 1, .cons q t => .cons q (RepA.set r i t)
theorem OwnC.step (s : Step O H O' H') (h : H' a = H a) (o : OwnC K H O a d) : OwnC K H' O' a d := by
  cases o with
  | lst e r => exact .lst (h.trans e) (r.step s)
  | dct e n r => exact .dct (h.trans e) n (r.step s)

/-! readings -/
theorem RepX.none (r : RepX K H O v .none) : v = .non := by
  rcases r with r | ⟨a, _, _, r⟩
  · cases r; rfl
  · cases r
theorem RepX.bool {b} (r : RepX K H O v (.bool b)) : v = .bl b := by
  rcases r with r | ⟨a, _, _, r⟩
  · cases r; rfl
  · cases r
theorem RepX.int {i} (r : RepX K H O v (.int i)) : v = .int i := by
  rcases r with r | ⟨a, _, _, r⟩
  · cases r; rfl
  · cases r
theorem RepX.str {x} (r : RepX K H O v (.str x)) : v = .str x := by
  rcases r with r | ⟨a, _, _, r⟩
  · cases r; rfl
  · cases r
theorem RepX.list (r : RepX K H O v (.list ds)) : ∃ a xs, v = .ref a ∧ LsT K H a xs ∧ RepA K H O xs ds := by
  rcases r with r | ⟨a, e, _, r⟩
  · cases r with
    | lst h q => exact ⟨_, _, rfl, h.imp (fun z => z.1) id, q⟩
  · cases r with
    | lst h q => exact ⟨a, _, e, .inl (.inl h), q⟩
theorem RepX.tuple (r : RepX K H O v (.tuple ds)) : ∃ a xs, v = .ref a ∧ SqT K H a xs ∧ RepA K H O xs ds ∧ Rep K H O v (.tuple ds) := by
  rcases r with r | ⟨a, e, _, r⟩
  · have r' := r
    cases r with
    | tup h q =>
      rcases h with h | h
      · exact ⟨_, _, rfl, h.1.sq, q, r'⟩
      · exact ⟨_, _, rfl, h.sq, q, r'⟩
  · cases r
theorem RepX.dict {es} (r : RepX K H O v (.dict es)) : ∃ a kvs, v = .ref a ∧ Rd H a (.dK kvs) ∧ (kvs.map (·.1)).Nodup ∧ RepK K H O kvs es := by
  rcases r with r | ⟨a, e, _, r⟩
  · cases r with
    | dct h n nd q => exact ⟨_, _, rfl, .inr h, nd, q⟩
  · cases r with
    | dct h nd q => exact ⟨a, _, e, .inl h, nd, q⟩
mutual
theorem Rep.dp : ∀ {v : V} {d : D}, Rep K H O v d → d.hasDict = false → Dp K H v d
  | _, _, .non, _ => .non
  | _, _, .bl b, _ => .bl b
  | _, _, .int i, _ => .int i
  | _, _, .str x, _ => .str x
  | _, _, .lst (.inl h) r, e => .lst (.inl h.1) (RepA.dp r (by simpa [PyData.hasDict] using e))
  | _, _, .lst (.inr h) r, e => .lst h.sq (RepA.dp r (by simpa [PyData.hasDict] using e))
  | _, _, .tup (.inl h) r, e => .tup h.1.sq (RepA.dp r (by simpa [PyData.hasDict] using e))
  | _, _, .tup (.inr h) r, e => .tup h.sq (RepA.dp r (by simpa [PyData.hasDict] using e))
  | _, _, .dct h n nd r, e => by simp [PyData.hasDict] at e
theorem RepA.dp : ∀ {vs : List V} {ds : List D}, RepA K H O vs ds → PyData.hasDictAll ds = false → DpAll K H vs ds
  | _, _, .nil, _ => .nil
  | _, _, .cons r t, e => by
    simp only [PyData.hasDictAll, Bool.or_eq_false_iff] at e
    exact .cons (Rep.dp r e.1) (RepA.dp t e.2)
end
mutual
theorem noDict_of_lay : ∀ d : D, d.canLay0 = true → d.hasDict = false
  | .none, _ => by simp [PyData.hasDict]
  | .bool _, _ => by simp [PyData.hasDict]
  | .int _, _ => by simp [PyData.hasDict]
  | .str _, _ => by simp [PyData.hasDict]
  | .list xs, h => by
    simp only [PyData.canLay0] at h
    simp only [PyData.hasDict]
    exact noDict_of_layAll xs h
  | .tuple xs, h => by
    simp only [PyData.canLay0] at h
    simp only [PyData.hasDict]
    exact noDict_of_layAll xs h
  | .dict _, h => by simp [PyData.canLay0] at h
theorem noDict_of_layAll : ∀ ds : List D, PyData.canLayAll0 ds = true → PyData.hasDictAll ds = false
  | [], _ => by simp [PyData.hasDictAll]
  | d :: ds, h => by
    simp only [PyData.canLayAll0, Bool.and_eq_true] at h
    simp only [PyData.hasDictAll, noDict_of_lay d h.1, noDict_of_layAll ds h.2, Bool.or_self]
end
mutual
theorem noDict_of_plain : ∀ d : D, d.plain = true → d.hasDict = false
  | .none, _ => by simp [PyData.hasDict]
  | .bool _, _ => by simp [PyData.hasDict]
  | .int _, _ => by simp [PyData.hasDict]
  | .str _, _ => by simp [PyData.hasDict]
  | .list xs, h => by
    simp only [PyData.plain] at h
    simp only [PyData.hasDict]
    exact noDict_of_plains xs h
  | .tuple xs, h => by
    simp only [PyData.plain] at h
    simp only [PyData.hasDict]
    exact noDict_of_plains xs h
  | .dict _, h => by simp [PyData.plain] at h
theorem noDict_of_plains : ∀ ds : List D, PyData.plainAll ds = true → PyData.hasDictAll ds = false
  | [], _ => by simp [PyData.hasDictAll]
  | d :: ds, h => by
    simp only [PyData.plainAll, Bool.and_eq_true] at h
    simp only [PyData.hasDictAll, noDict_of_plain d h.1, noDict_of_plains ds h.2, Bool.or_self]
end
theorem RepX.dp (r : RepX K H O v d) (h : d.plain = true) : Dp K H v d := by
  have nd := noDict_of_plain d h
  rcases r with r | ⟨a, rfl, _, r⟩
  · exact r.dp nd
  · cases r with
    | lst e q => exact .lst (.inl (.inl e)) (q.dp (by simpa [PyData.hasDict] using nd))
    | dct e _ q => simp [PyData.hasDict] at nd
end

/-! ### the slots -/
/-- a def's run: the modes, the heap at the entry, the addresses handed in to be changed, those that others hold, the slots at the entry -/
structure Cf where
  K : PySem.W.Frag
  md : List Md
  H0 : Hp
  I0 : Addr → Prop
  O0 : Addr → Prop
  s0 : L2.St
def Cf.mode (c : Cf) (i : Nat) : Md := c.md.getD i .fz
def MutO (H : Hp) (a : Addr) : Prop := (∃ xs, H a = some (.lst xs)) ∨ ∃ kvs, H a = some (.dK kvs)

structure R (c : Cf) (O : Addr → Prop) (r : Env) (σ : L2.St) (H : Hp) : Prop where
  len : r.length = σ.length
  fz : ∀ i d, get r i = some d → c.mode i = .fz → ∃ v, σ[i]? = some (some v) ∧ Rep c.K H O v d
  ow : ∀ i d, get r i = some d → c.mode i ≠ .fz → ∃ a, σ[i]? = some (some (.ref a)) ∧ O a ∧ (c.I0 a ∨ c.H0 a = none) ∧ OwnC c.K H O a d
  sep : ∀ i j a, (get r i).isSome = true → (get r j).isSome = true → c.mode i ≠ .fz → c.mode j ≠ .fz → σ[i]? = some (some (.ref a)) → σ[j]? = some (some (.ref a)) → i = j
  io : ∀ i, c.mode i = .io → σ[i]? = c.s0[i]?
  own : ∀ i a, (get r i).isSome = true → c.mode i = .ow → σ[i]? = some (some (.ref a)) → ¬ c.O0 a
  frame : ∀ a o, c.H0 a = some o → ¬ c.I0 a → H a = some o
  sub : ∀ a, c.O0 a → O a
  alive : ∀ a, O a → MutO H a
  i0 : ∀ a, c.I0 a → c.O0 a

section
variable {c : Cf} {O O' : Addr → Prop} {r r' : Env} {σ σ' : L2.St} {H H' : Hp} {i j : Nat} {d : D} {v : V} {a : Addr}
theorem R.grow (R0 : R c O r σ H) (g : Same H H') : R c O r σ H' := by
  have s : Step O H O H' := Step.grow g
  have al : ∀ a, O a → H' a = H a := fun a h => by
    rcases R0.alive a h with ⟨xs, e⟩ | ⟨xs, e⟩ <;> rw [e, g _ _ e]
  refine ⟨R0.len, fun i d h m => ?_, fun i d h m => ?_, R0.sep, R0.io, R0.own, fun a o h n => g _ _ (R0.frame a o h n), R0.sub, fun a h => ?_, R0.i0⟩
  · obtain ⟨v, h1, h2⟩ := R0.fz i d h m
    exact ⟨v, h1, h2.step s⟩
  · obtain ⟨a, h1, h2, h3, h4⟩ := R0.ow i d h m
    exact ⟨a, h1, h2, h3, h4.step s (al a h2)⟩
  · unfold MutO; rw [al a h]; exact R0.alive a h
theorem R.new (R0 : R c O r σ H) (e : H a = none) : ¬ O a := fun z => by
  rcases R0.alive a z with ⟨_, q⟩ | ⟨_, q⟩ <;> rw [e] at q <;> cases q

/-! slots as lists -/
theorem get_set_ne {k : Nat} {o : Option D} (h : i ≠ k) : get (r.set k o) i = get r i := by
  unfold get
  rw [List.getElem?_set_ne (Ne.symm h)]
theorem get_set_eq {o : Option D} (h : i < r.length) : get (r.set i o) i = o := by
  unfold get
  rw [List.getElem?_set_self h]
theorem get_set_none {k : Nat} (h : get (r.set k none) i = some d) : get r i = some d ∧ i ≠ k := by
  by_cases e : i = k
  · subst e
    unfold get at h
    by_cases l : i < r.length
    · rw [List.getElem?_set_self l] at h; cases h
    · rw [List.getElem?_eq_none (by simpa using l)] at h; cases h
  · rw [get_set_ne e] at h
    exact ⟨h, e⟩
theorem get_lt (h : get r i = some d) : i < r.length := by
  unfold get at h
  by_cases l : i < r.length
  · exact l
  · rw [List.getElem?_eq_none (by omega)] at h; cases h
theorem isSome_get (h : (get r i).isSome = true) : ∃ d, get r i = some d := Option.isSome_iff_exists.mp h
/-- forgetting -/
theorem R.less (R0 : R c O r σ H) (hl : r'.length = r.length) (h : ∀ i d, get r' i = some d → get r i = some d) : R c O r' σ H := by
  have hs : ∀ i, (get r' i).isSome = true → (get r i).isSome = true := fun i q => by
    obtain ⟨d, e⟩ := isSome_get q
    rw [h i d e]; rfl
  exact ⟨hl.trans R0.len, fun i d q => R0.fz i d (h i d q), fun i d q => R0.ow i d (h i d q), fun i j a q1 q2 => R0.sep i j a (hs i q1) (hs j q2), R0.io, fun i a q => R0.own i a (hs i q), R0.frame, R0.sub, R0.alive, R0.i0⟩
theorem R.clr (R0 : R c O r σ H) (k : Nat) : R c O (r.set k none) σ H := R0.less (by simp) fun i d h => (get_set_none h).1
theorem wipe_len (r : Env) : ∀ vs, (wipe r vs).length = r.length
  | [] => rfl
  | v :: vs => by unfold wipe; rw [List.length_set, wipe_len r vs]
theorem get_wipe : ∀ {vs : List Nat} {i : Nat} {d : D}, get (wipe r vs) i = some d → get r i = some d ∧ i ∉ vs
  | [], i, d, h => ⟨h, by simp⟩
  | v :: vs, i, d, h => by
    unfold wipe at h
    obtain ⟨h1, h2⟩ := get_set_none h
    obtain ⟨h3, h4⟩ := get_wipe h1
    exact ⟨h3, by simp only [List.mem_cons, not_or]; exact ⟨h2, h4⟩⟩
theorem R.wipe (R0 : R c O r σ H) (vs : List Nat) : R c O (Mp.wipe r vs) σ H := R0.less (wipe_len r vs) fun i d h => (get_wipe h).1
theorem back_len (r r' : Env) : ∀ vs, (back r r' vs).length = r'.length
  | [] => rfl
  | v :: vs => by unfold back; rw [List.length_set, back_len r r' vs]
theorem get_back : ∀ {vs : List Nat} {i : Nat} {d : D}, get (back r r' vs) i = some d → (i ∈ vs ∧ get r i = some d) ∨ (i ∉ vs ∧ get r' i = some d)
  | [], i, d, h => .inr ⟨by simp, h⟩
  | v :: vs, i, d, h => by
    unfold back at h
    by_cases e : i = v
    · subst e
      have hl := get_lt h
      rw [List.length_set] at hl
      rw [get_set_eq hl] at h
      exact .inl ⟨by simp, h⟩
    · rw [get_set_ne e] at h
      rcases get_back h with h | h
      · exact .inl ⟨by simp [h.1], h.2⟩
      · exact .inr ⟨by simp [e, h.1], h.2⟩
/-- a frozen slot is stored -/
theorem R.put (R0 : R c O r σ H) (m : c.mode i = .fz) (hl : i < r.length) (q : Rep c.K H O v d) : R c O (Mp.put r i d) (σ.set i (some v)) H := by
  have ne : ∀ {j}, c.mode j ≠ .fz → j ≠ i := fun {j} h e => h (e ▸ m)
  have hs : ∀ {j}, c.mode j ≠ .fz → get (Mp.put r i d) j = get r j := fun {j} h => get_set_ne (ne h)
  have hσ : ∀ {j}, c.mode j ≠ .fz → (σ.set i (some v))[j]? = σ[j]? := fun {j} h => List.getElem?_set_ne (Ne.symm (ne h))
  refine ⟨by simp [Mp.put, R0.len], fun j e h mj => ?_, fun j e h mj => ?_, fun j k a h1 h2 m1 m2 h3 h4 => ?_, fun j mj => ?_, fun j a h1 mj h3 => ?_, R0.frame, R0.sub, R0.alive, R0.i0⟩
  · by_cases e1 : j = i
    · subst e1
      unfold Mp.put at h
      rw [get_set_eq hl] at h
      cases h
      exact ⟨v, List.getElem?_set_self (by rw [← R0.len]; exact hl), q⟩
    · unfold Mp.put at h
      rw [get_set_ne e1] at h
      rw [List.getElem?_set_ne (Ne.symm e1)]
      exact R0.fz j e h mj
  · rw [hs mj] at h
    rw [hσ mj]
    exact R0.ow j e h mj
  · rw [hs m1] at h1
    rw [hs m2] at h2
    rw [hσ m1] at h3
    rw [hσ m2] at h4
    exact R0.sep j k a h1 h2 m1 m2 h3 h4
  · have mj' : c.mode j ≠ .fz := by rw [mj]; decide
    rw [hσ mj']
    exact R0.io j mj
  · have mj' : c.mode j ≠ .fz := by rw [mj]; decide
    rw [hs mj'] at h1
    rw [hσ mj'] at h3
    exact R0.own j a h1 mj h3
/-- O without a, O with a -/
def del (O : Addr → Prop) (a : Addr) : Addr → Prop := fun b => O b ∧ b ≠ a
def add (O : Addr → Prop) (a : Addr) : Addr → Prop := fun b => O b ∨ b = a
theorem Step.del (O : Addr → Prop) (H : Hp) (a : Addr) : Step O H (del O a) H := .sub fun _ h => h.1
theorem Step.add (O : Addr → Prop) {H : Hp} {a : Addr} (e : H a = none) : Step O H (add O a) H := ⟨fun b h => by
  rcases h with h | h
  · exact .inl h
  · subst h; exact .inr e, fun _ _ h _ => h⟩
/-- a new object is laid and held -/
theorem R.laid (R0 : R c O r σ H) (e : H a = none) {o : HO} (mo : (∃ xs, o = .lst xs) ∨ ∃ kvs, o = .dK kvs) : R c (add O a) r σ (upd H a o) := by
  have s1 : Step O H (add O a) (upd H a o) := ⟨fun b h => by
    rcases h with h | h
    · exact .inl h
    · subst h; exact .inr e, fun b u h _ => by rw [upd_ne (ne_of_none h e)]; exact h⟩
  have na : ∀ {b}, O b → b ≠ a := fun {b} h z => by subst z; exact R0.new e h
  refine ⟨R0.len, fun j w q mj => ?_, fun j w q mj => ?_, R0.sep, R0.io, R0.own, fun b u h n => ?_, fun b h => .inl (R0.sub b h), fun b h => ?_, R0.i0⟩
  · obtain ⟨v, e1, e2⟩ := R0.fz j w q mj
    exact ⟨v, e1, e2.step s1⟩
  · obtain ⟨b, e1, e2, e3, e4⟩ := R0.ow j w q mj
    exact ⟨b, e1, .inl e2, e3, e4.step s1 (upd_ne (na e2))⟩
  · have := R0.frame b u h n
    rw [upd_ne (ne_of_none this e)]; exact this
  · rcases h with h | h
    · have := R0.alive b h
      unfold MutO; rw [upd_ne (na h)]; exact this
    · subst h
      unfold MutO; rw [upd_same]
      rcases mo with ⟨xs, rfl⟩ | ⟨xs, rfl⟩
      · exact .inl ⟨xs, rfl⟩
      · exact .inr ⟨xs, rfl⟩
/-- no slot holds a -/
def Bare (c : Cf) (r : Env) (σ : L2.St) (a : Addr) : Prop := ∀ i, (get r i).isSome = true → c.mode i ≠ .fz → σ[i]? ≠ some (some (.ref a))
theorem R.bare (R0 : R c O r σ H) (n : ¬ O a) : Bare c r σ a := fun i h m e => by
  obtain ⟨d, q⟩ := isSome_get h
  obtain ⟨b, e1, e2, _⟩ := R0.ow i d q m
  rw [e] at e1
  cases e1
  exact n e2
/-- what is held by no slot is let go -/
theorem R.letGo (R0 : R c O r σ H) (b : Bare c r σ a) (n0 : ¬ c.O0 a) : R c (del O a) r σ H := by
  have s : Step O H (del O a) H := Step.del O H a
  refine ⟨R0.len, fun j e q mj => ?_, fun j e q mj => ?_, R0.sep, R0.io, R0.own, R0.frame, fun b z => ⟨R0.sub b z, fun e => n0 (e ▸ z)⟩, fun b z => R0.alive b z.1, R0.i0⟩
  · obtain ⟨v, e1, e2⟩ := R0.fz j e q mj
    exact ⟨v, e1, e2.step s⟩
  · obtain ⟨b', e1, e2, e3, e4⟩ := R0.ow j e q mj
    exact ⟨b', e1, ⟨e2, fun z => b j (by rw [q]; rfl) mj (z ▸ e1)⟩, e3, e4.step s rfl⟩
/-- an owned slot is taken out -/
theorem R.takeO (R0 : R c O r σ H) (m : c.mode i = .ow) (h : get r i = some d) : ∃ a, σ[i]? = some (some (.ref a)) ∧ O a ∧ ¬ c.O0 a ∧ c.H0 a = none ∧ Bare c (r.set i none) σ a ∧ R c O (r.set i none) σ H ∧ OwnC c.K H O a d := by
  have m' : c.mode i ≠ .fz := by rw [m]; decide
  obtain ⟨a, h1, h2, h3, h4⟩ := R0.ow i d h m'
  have n0 := R0.own i a (by rw [h]; rfl) m h1
  refine ⟨a, h1, h2, n0, h3.resolve_left fun z => n0 (R0.i0 a z), fun j hj mj e => ?_, R0.wipe [i], h4⟩
  obtain ⟨e', q'⟩ := isSome_get hj
  obtain ⟨q1, q2⟩ := get_set_none q'
  exact q2 (R0.sep j i a (by rw [q1]; rfl) (by rw [h]; rfl) mj m' e h1)
/-- what is held by no slot is let go, its own place otherwise -/
theorem R.letGo' (R0 : R c O r σ H) (b : Bare c r σ a) (n0 : ¬ c.O0 a) (h0 : c.H0 a = none) (oa : O a) (hH : ∀ b, b ≠ a → H' b = H b) : Step O H (del O a) H' ∧ R c (del O a) r σ H' := by
  have s : Step O H (del O a) H' := ⟨fun b h => .inl h.1, fun b u e n => by rw [hH b fun z => n (by rw [z]; exact oa)]; exact e⟩
  refine ⟨s, R0.len, fun j e q mj => ?_, fun j e q mj => ?_, R0.sep, R0.io, R0.own, fun x u h n => ?_, fun b z => ⟨R0.sub b z, fun e => n0 (e ▸ z)⟩, fun b z => ?_, R0.i0⟩
  · obtain ⟨v, e1, e2⟩ := R0.fz j e q mj
    exact ⟨v, e1, e2.step s⟩
  · obtain ⟨b', e1, e2, e3, e4⟩ := R0.ow j e q mj
    have ne : b' ≠ a := fun z => b j (by rw [q]; rfl) mj (z ▸ e1)
    exact ⟨b', e1, ⟨e2, ne⟩, e3, e4.step s (hH b' ne)⟩
  · rw [hH x fun z => by rw [z, h0] at h; cases h]
    exact R0.frame x u h n
  · unfold MutO
    rw [hH b z.2]
    exact R0.alive b z.1
/-- an own list or dict becomes plain data; a dict is locked for that -/
theorem OwnC.given {K : PySem.W.Frag} (q : OwnC K H O a d) (oa : O a) {Q : Hp → Prop} (h : ∀ H', (∀ b, b ≠ a → H' b = H b) → Rep K H' (del O a) (.ref a) d → Q H') : Q H ∨ ∃ u, H a = some u ∧ Mut (some u) ∧ ∀ od, Q (upd H a (.frz od u)) := by
  cases q with
  | lst e q => exact .inl (h H (fun _ _ => rfl) (.lst (.inl ⟨.inl e, fun z => z.2 rfl⟩) (q.step (Step.del O H a))))
  | dct e n q =>
    refine .inr ⟨_, e, trivial, fun od => h _ (fun b hb => upd_ne hb) (.dct ⟨od, upd_same⟩ (fun z => z.2 rfl) n (q.step ⟨fun b h => .inl h.1, fun b u e n => ?_⟩))⟩
    rw [upd_ne fun z => n (by rw [z]; exact oa)]
    exact e
/-- the content of an owned address is written -/
theorem R.write (R0 : R c O r σ H) (oa : O a) (hi : c.I0 a ∨ c.H0 a = none) {o : HO} (mo : (∃ xs, o = .lst xs) ∨ ∃ kvs, o = .dK kvs) (k : Nat)
    (hk : ∀ j, (get r j).isSome = true → c.mode j ≠ .fz → σ[j]? = some (some (.ref a)) → j = k) : R c O (r.set k none) σ (upd H a o) := by
  have s1 : Step O H O (upd H a o) := ⟨fun b h => .inl h, fun b u h n => by rw [upd_ne (fun z : b = a => n (by rw [z]; exact oa))]; exact h⟩
  refine ⟨by simp [R0.len], fun j w q mj => ?_, fun j w q mj => ?_, fun j l b q1 q2 => ?_, R0.io, fun j b q => ?_, fun b u h n => ?_, R0.sub, fun b h => ?_, R0.i0⟩
  · obtain ⟨v, e1, e2⟩ := R0.fz j w (get_set_none q).1 mj
    exact ⟨v, e1, e2.step s1⟩
  · obtain ⟨q1, q2⟩ := get_set_none q
    obtain ⟨b, e1, e2, e3, e4⟩ := R0.ow j w q1 mj
    exact ⟨b, e1, e2, e3, e4.step s1 (upd_ne fun z => q2 (hk j (by rw [q1]; rfl) mj (z ▸ e1)))⟩
  · obtain ⟨_, w1⟩ := isSome_get q1
    obtain ⟨_, w2⟩ := isSome_get q2
    exact R0.sep j l b (by rw [(get_set_none w1).1]; rfl) (by rw [(get_set_none w2).1]; rfl)
  · obtain ⟨_, w1⟩ := isSome_get q
    exact R0.own j b (by rw [(get_set_none w1).1]; rfl)
  · have := R0.frame b u h n
    rw [upd_ne]
    · exact this
    · rintro rfl
      rcases hi with z | z
      · exact n z
      · rw [h] at z; cases z
  · by_cases z : b = a
    · subst z
      unfold MutO; rw [upd_same]
      rcases mo with ⟨xs, rfl⟩ | ⟨xs, rfl⟩
      · exact .inl ⟨xs, rfl⟩
      · exact .inr ⟨xs, rfl⟩
    · have := R0.alive b h
      unfold MutO; rw [upd_ne z]; exact this
/-- an owned slot, empty so far, comes to hold a's content -/
theorem R.hold (R0 : R c O r σ H) (m : c.mode i ≠ .fz) (e : σ[i]? = some (some (.ref a))) (hl : i < r.length) (oa : O a) (hi : c.I0 a ∨ c.H0 a = none) (n0 : c.mode i = .ow → ¬ c.O0 a)
    (sp : ∀ j, (get r j).isSome = true → c.mode j ≠ .fz → σ[j]? = some (some (.ref a)) → j = i) (q : OwnC c.K H O a d) : R c O (Mp.put r i d) σ H := by
  have gj : ∀ {j}, j ≠ i → get (Mp.put r i d) j = get r j := fun {j} h => get_set_ne h
  refine ⟨by simp [Mp.put, R0.len], fun j w h mj => ?_, fun j w h mj => ?_, fun j l b h1 h2 m1 m2 e1 e2 => ?_, R0.io, fun j b h1 mj e1 => ?_, R0.frame, R0.sub, R0.alive, R0.i0⟩
  · have : j ≠ i := fun z => m (z ▸ mj)
    rw [gj this] at h
    exact R0.fz j w h mj
  · by_cases z : j = i
    · subst z
      unfold Mp.put at h
      rw [get_set_eq hl] at h
      cases h
      exact ⟨a, e, oa, hi, q⟩
    · rw [gj z] at h
      exact R0.ow j w h mj
  · by_cases z : j = i
    · by_cases z2 : l = i
      · rw [z, z2]
      · rw [gj z2] at h2
        rw [z] at e1
        rw [e] at e1; cases e1
        exact absurd (sp l h2 m2 e2) z2
    · rw [gj z] at h1
      by_cases z2 : l = i
      · rw [z2] at e2
        rw [e] at e2; cases e2
        exact absurd (sp j h1 m1 e1) z
      · rw [gj z2] at h2
        exact R0.sep j l b h1 h2 m1 m2 e1 e2
  · by_cases z : j = i
    · rw [z] at mj e1
      rw [e] at e1; cases e1
      exact n0 mj
    · rw [gj z] at h1
      exact R0.own j b h1 mj e1
end
end Mp

/-! readings by the machine; expressions -/
namespace Mp
open PySem PySem.Spec PyProof.Rows L2

theorem PE.imp {X : Cx} {e : Expr} {t t' : TE} (h : PE X e t) (g : ∀ σ H Q, t' σ H Q → t σ H Q) : PE X e t' := ⟨fun pins s σ H Q I q => h.run pins s σ H Q I (g σ H Q q)⟩
theorem PT.imp {X : Cx} {e : Expr} {t t' : TT} (h : PT X e t) (g : ∀ σ H Q, t' σ H Q → t σ H Q) : PT X e t' := ⟨fun pins s σ H Q I q => h.run pins s σ H Q I (g σ H Q q)⟩
theorem PA.imp {X : Cx} {e : List Expr} {t t' : TA} (h : PA X e t) (g : ∀ σ H Q, t' σ H Q → t σ H Q) : PA X e t' := ⟨fun pos pins s σ H Q I q => h.run pos pins s σ H Q I (g σ H Q q)⟩
/-- the rule is chosen by what the reading says -/
theorem PE.pick {X : Cx} {e : Expr} {t' : TE} (g : ∀ σ H Q, t' σ H Q → ∃ t, PE X e t ∧ t σ H Q) : PE X e t' := ⟨fun pins s σ H Q I q => by
  obtain ⟨t, h, z⟩ := g σ H Q q
  exact h.run pins s σ H Q I z⟩
theorem PT.pick {X : Cx} {e : Expr} {t' : TT} (g : ∀ σ H Q, t' σ H Q → ∃ t, PT X e t ∧ t σ H Q) : PT X e t' := ⟨fun pins s σ H Q I q => by
  obtain ⟨t, h, z⟩ := g σ H Q q
  exact h.run pins s σ H Q I z⟩
theorem PI.pick {X : Cx} {tg e : Expr} {t' : TI} (g : ∀ σ H Q, t' σ H Q → ∃ t, PI X tg e t ∧ t σ H Q) : PI X tg e t' := ⟨fun pins s σ H Q I q => by
  obtain ⟨t, h, z⟩ := g σ H Q q
  exact h.run pins s σ H Q I z⟩

abbrev EM := Env → Option (D × Env)
def tD (c : Cf) (m : EM) : TE := fun σ H Q => ∃ O r d r', R c O r σ H ∧ m r = some (d, r') ∧ ∀ v H' O', Step O H O' H' → R c O' r' σ H' → Rep c.K H' O' v d → Q v H'
def OpRep (c : Cf) (O : Addr → Prop) (σ : L2.St) (H : Hp) : Op → V → Prop
  | .val d, v => Rep c.K H O v d
  | .by_ i, v => c.mode i ≠ .fz ∧ σ[i]? = some (some v)
def tO (c : Cf) (m : Env → Option (Op × Env)) : TE := fun σ H Q => ∃ O r o r', R c O r σ H ∧ m r = some (o, r') ∧ ∀ v H' O', Step O H O' H' → R c O' r' σ H' → OpRep c O' σ H' o v → Q v H'
def tTm (c : Cf) (m : Env → Option (Bool × Env)) : TT := fun σ H Q => ∃ O r b r', R c O r σ H ∧ m r = some (b, r') ∧ ∀ H' O', Step O H O' H' → R c O' r' σ H' → Q b H'
def tL (c : Cf) (m : Env → Option (List D × Env)) : TA := fun σ H Q => ∃ O r ds r', R c O r σ H ∧ m r = some (ds, r') ∧ ∀ vs H' O', Step O H O' H' → R c O' r' σ H' → RepA c.K H' O' vs ds → Q vs H'
inductive OpReps (c : Cf) (O : Addr → Prop) (σ : L2.St) (H : Hp) : List Op → List V → Prop
  | nil : OpReps c O σ H [] []
  | cons {o v os vs} : OpRep c O σ H o v → OpReps c O σ H os vs → OpReps c O σ H (o :: os) (v :: vs)
def tOs (c : Cf) (m : Env → Option (List Op × Env)) : TA := fun σ H Q => ∃ O r os r', R c O r σ H ∧ m r = some (os, r') ∧ ∀ vs H' O', Step O H O' H' → R c O' r' σ H' → OpReps c O' σ H' os vs → Q vs H'
/-- a list or dict just made: nobody else holds it -/
def tF (c : Cf) (m : EM) : TE := fun σ H Q => ∃ O r d r', R c O r σ H ∧ m r = some (d, r') ∧
  ∀ p H' O', Step O H O' H' → R c O' r' σ H' → O' p → OwnC c.K H' O' p d → Bare c r' σ p → ¬ c.O0 p → c.H0 p = none → Q (.ref p) H'
/-- what is walked, at any later state -/
def Wk (c : Cf) (J : It) (O1 : Addr → Prop) (H1 : Hp) (σ : L2.St) (t : Its) : Prop :=
  ∀ c', c'.K = c.K → c'.md = c.md → ∀ i O H r σ', Step O1 H1 O H → R c' O r σ' H → (∀ i ds, t.at_ = some (i, ds) → c.mode i ≠ .fz → σ'[i]? = σ[i]?) → t.ok r = true →
    (i < t.ds.length → J.go i H) ∧ (t.ds.length ≤ i → J.stop i H) ∧ ∀ x H', J.yld i H x H' → ∀ d, t.ds[i]? = some d → Same H H' ∧ Rep c.K H' O x d
def tI (c : Cf) (m : Env → Option (Its × Env)) : TI := fun σ H Q => ∃ O r t r', R c O r σ H ∧ m r = some (t, r') ∧ ∀ J H' O', Step O H O' H' → R c O' r' σ H' → Wk c J O' H' σ t → Q J H'

section
variable {X : Cx} {c : Cf} {ec : Ec} {O O' : Addr → Prop} {r r' : Env} {σ : L2.St} {H H' : Hp} {i j : Nat} {d : D} {v : V} {a : Addr}
theorem OpRep.step {o : Op} (s : Step O H O' H') (q : OpRep c O σ H o v) : OpRep c O' σ H' o v := by
  cases o with
  | val d => exact Rep.step s q
  | by_ i => exact q
theorem OpReps.step : ∀ {os : List Op} {vs : List V}, Step O H O' H' → OpReps c O σ H os vs → OpReps c O' σ H' os vs
  | _, _, _, .nil => .nil
  | _, _, s, .cons a b => .cons (OpRep.step s a) (OpReps.step s b)
theorem OpRep.res {o : Op} (q : OpRep c O σ H o v) (R0 : R c O r σ H) (e : o.res r = some d) : RepX c.K H O v d := by
  cases o with
  | val d' => cases e; exact .inl q
  | by_ i =>
    obtain ⟨m, q⟩ := q
    obtain ⟨a, e1, e2, _, e4⟩ := R0.ow i d e m
    rw [q] at e1
    cases e1
    exact .inr ⟨a, rfl, e2, e4⟩
inductive RepXs (K : PySem.W.Frag) (H : Hp) (O : Addr → Prop) : List V → List D → Prop
  | nil : RepXs K H O [] []
  | cons {v d vs ds} : RepX K H O v d → RepXs K H O vs ds → RepXs K H O (v :: vs) (d :: ds)
theorem OpReps.res : ∀ {os : List Op} {vs : List V} {ds : List D}, OpReps c O σ H os vs → R c O r σ H → resAll r os = some ds → RepXs c.K H O vs ds
  | _, _, _, .nil, _, e => by cases e; exact .nil
  | o :: os, _, ds, .cons q qs, R0, e => by
    unfold resAll at e
    obtain ⟨d, e1, e⟩ := Option.bind_eq_some_iff.mp e
    obtain ⟨es, e2, e⟩ := Option.bind_eq_some_iff.mp e
    cases e
    exact .cons (q.res R0 e1) (OpReps.res qs R0 e2)
theorem R.fresh (R0 : R c O r σ H) (e : H a = none) : ¬ c.O0 a ∧ c.H0 a = none := by
  have n : ¬ O a := R0.new e
  have n0 : ¬ c.O0 a := fun z => n (R0.sub a z)
  refine ⟨n0, ?_⟩
  cases q : c.H0 a with
  | none => rfl
  | some o =>
    have := R0.frame a o q fun z => n0 (R0.i0 a z)
    rw [e] at this; cases this
/-- behind an expression an own dict may be locked -/
theorem PE.ghost {X : Cx} {e : Expr} {t t' : TE} (h : PE X e t) (g : ∀ σ H Q, t' σ H Q → t σ H fun v H1 => Q v H1 ∨ ∃ a u, H1 a = some u ∧ Mut (some u) ∧ ∀ od, Q v (upd H1 a (.frz od u))) : PE X e t' := ⟨fun pins s σ H Q I q => by
  refine thn (h.run pins s σ H _ I (g σ H Q q)) fun v s1 ⟨x, H1, I1, rv, z⟩ => ?_
  rcases z with z | ⟨a, u, e, m, z⟩
  · exact ⟨x, H1, I1, rv, z⟩
  · obtain ⟨od, I2⟩ := I1.lock e m
    exact ⟨x, _, I2, rv, z od⟩⟩
theorem PE.ofF {e : Expr} {m : EM} (h : PE X e (tF c m)) : PE X e (tD c m) := PE.ghost h fun σ H Q ⟨O, r, d, r', R0, em, q⟩ =>
  ⟨O, r, d, r', R0, em, fun p H' O' s R1 op oc b n0 h0 => by
    rcases oc.given op (Q := fun H2 => Q (.ref p) H2) fun H2 hH rep => (by
      obtain ⟨s2, R2⟩ := R1.letGo' b n0 h0 op hH
      exact q _ _ (del O' p) (s.trans s2) R2 rep) with z | ⟨u, e, m, z⟩
    · exact .inl z
    · exact .inr ⟨p, u, e, m, z⟩⟩

/-! ### operations by values -/
def Al (O : Addr → Prop) (H : Hp) : Prop := ∀ a, O a → MutO H a
theorem Al.new (al : Al O H) (e : H a = none) : ¬ O a := fun z => by
  rcases al a z with ⟨_, q⟩ | ⟨_, q⟩ <;> rw [e] at q <;> cases q
theorem same_upd' {p : Addr} {o : HO} (e : H p = none) : Same H (upd H p o) := fun b u h => by rw [upd_ne (ne_of_none h e)]; exact h
/-- what r asks follows where the values are x, y and the wished-for end is z -/
def Sem2 (K : PySem.W.Frag) (r : R2) (x y z : D) : Prop := ∀ (v w : V) (H : Hp) (O : Addr → Prop) (Q : VK), Al O H → RepX K H O v x → RepX K H O w y → (∀ u H', Same H H' → Rep K H' O u z → Q u H') → r v w H Q
def SemN (K : PySem.W.Frag) (r : List V → Hp → VK → Prop) (xs : List D) (z : D) : Prop := ∀ (vs : List V) (H : Hp) (O : Addr → Prop) (Q : VK), Al O H → RepXs K H O vs xs → (∀ u H', Same H H' → Rep K H' O u z → Q u H') → r vs H Q
theorem rep_new_tup {K : PySem.W.Frag} {p : Addr} {xs : List V} {ds : List D} {o : Obj} (al : Al O H) (e : H p = none) (d : o.dict = none) (q : RepA K H O xs ds) : Rep K (upd H p (.frz o (.tup xs))) O (.ref p) (.tuple ds) :=
  .tup (.inl ⟨⟨o, upd_same, d⟩, al.new e⟩) (q.step (Step.grow (same_upd' e)))
theorem rep_new_lst {K : PySem.W.Frag} {p : Addr} {xs : List V} {ds : List D} (al : Al O H) (e : H p = none) (q : RepA K H O xs ds) : Rep K (upd H p (.lst xs)) O (.ref p) (.list ds) :=
  .lst (.inl ⟨.inl upd_same, al.new e⟩) (q.step (Step.grow (same_upd' e)))
theorem rep_new_dct {K : PySem.W.Frag} {p : Addr} {xs : List (Key × V)} {ds : List (D × D)} {o : Obj} (al : Al O H) (e : H p = none) (nd : (xs.map (·.1)).Nodup) (q : RepK K H O xs ds) : Rep K (upd H p (.frz o (.dK xs))) O (.ref p) (.dict ds) :=
  .dct ⟨o, upd_same⟩ (al.new e) nd (q.step (Step.grow (same_upd' e)))

/-- the general form of two operands -/
theorem two_op {ma mb : Env → Option (Op × Env)} {x y z : D} {rr : R2} {Q : VK} {o1 o2 : Op} {r1 r2 : Env} (R0 : R c O r σ H) (e1 : ma r = some (o1, r1)) (e2 : mb r1 = some (o2, r2)) (x1 : o1.res r2 = some x) (x2 : o2.res r2 = some y)
    (sm : Sem2 c.K rr x y z) (q : ∀ v H' O', Step O H O' H' → R c O' r2 σ H' → Rep c.K H' O' v z → Q v H') : tOp rr (tO c ma) (tO c mb) σ H Q := by
  refine ⟨O, r, o1, r1, R0, e1, fun v H1 O1 s1 R1 p1 => ⟨O1, r1, o2, r2, R1, e2, fun w H2 O2 s2 R2 p2 => ?_⟩⟩
  refine sm v w H2 O2 Q R2.alive ((p1.step s2).res R2 x1) (p2.res R2 x2) fun u H' g ru => ?_
  exact q u H' O2 ((s1.trans s2).trans (Step.grow g)) (R2.grow g) ru
end

/-! ### tuples that are made, with their object -/
section
variable {X : Cx}
def tTupF (t : TA) : TE := fun σ H Q => t σ H fun xs H1 => xs.length ≤ sizeLine ∧ ∀ p o, H1 p = none → o.dict = none → Q (.ref p) (upd H1 p (.frz o (.tup xs)))
/-- laying a new tuple -/
theorem tup_laid {pins : List (Addr × Obj)} {σ : L2.St} {H : Hp} {s : Shared} {xs : List V} {us : List Value} {n : Nat} (I : Inv X pins σ H s) (r : Vals xs us) (z : xs.length ≤ sizeLine) :
    Inv X pins σ (upd H s.heap.objs.size (.frz { cls := .type "tuple", data := .seq us.toArray n } (.tup xs))) { s with heap := s.heap.push { cls := .type "tuple", data := .seq us.toArray n } } :=
  I.laid (t' := s.toks) (fun b u e => Heap.get?_push_of_some _ e) (Nat.le_refl _) ⟨Heap.get?_push_size _ rfl, z, us, r, ⟨_, Heap.get?_push_size _ rfl, rfl, _, rfl⟩⟩
theorem pe_tupF {es : List Expr} {x1 : Nat} {t : TA} {pos : Pos} (h : PA X es t) : PE X (.Tuple es x1 pos) (tTupF t) := by
  refine ⟨fun pins s σ H Q I hq => wpAny_Tuple_spliced (thn (h.run pos pins s σ H _ I hq) fun us s1 ⟨xs, H1, I1, r, z, q⟩ => ⟨by rw [← r.length]; exact z, ?_⟩)⟩
  exact ⟨.ref _, _, tup_laid I1 r z, rfl, q _ _ (I1.hok.fresh (Nat.le_refl _)) rfl⟩
/-- tuple(a list) -/
theorem call_tupF : CallR X (.type "tuple") (fun vs H Q => ∃ a xs, vs = [.ref a] ∧ SqL X.K H a xs ∧ ∀ p o, H p = none → o.dict = none → Q (.ref p) (upd H p (.frz o (.tup xs)))) := by
  intro pins s σ H vs us Q I r h
  obtain ⟨a, xs, rfl, hq, q⟩ := h
  obtain ⟨u, rfl, rx⟩ := vals1 r
  cases rx
  obtain ⟨its, rv, pl, hz⟩ := I.list hq
  refine call_tuple_list pl.isList (fun h' kp => ?_) (by rw [List.size_toArray, ← rv.length]; exact hz)
  have I1 : Inv X pins σ H { s with heap := h' } := I.kept (t' := s.toks) kp
  exact ⟨.ref _, _, tup_laid I1 rv hz, rfl, q _ _ (I1.hok.fresh (Nat.le_refl _)) rfl⟩
/-- t + u -/
def rCatF (K : PySem.W.Frag) : R2 := fun x y H Q => ∃ a b xs ys, x = .ref a ∧ y = .ref b ∧ SqT K H a xs ∧ SqT K H b ys ∧ xs.length + ys.length ≤ sizeLine ∧
  (xs = [] → Q (.ref b) H) ∧ (ys = [] → Q (.ref a) H) ∧ ∀ p o, H p = none → o.dict = none → Q (.ref p) (upd H p (.frz o (.tup (xs ++ ys))))
theorem op_catF : OpR X (binaryOp .Add) (rCatF X.K) := by
  intro pins s σ H x y v u Q I rx ry h
  obtain ⟨a, b, xs, ys, rfl, rfl, ha, hb, hz, q0, q1, q2⟩ := h
  by_cases hx : xs = []
  · exact op_catA pins s σ H _ _ v u Q I rx ry ⟨a, b, xs, ys, rfl, rfl, ha, hb, hz, q0, fun z => absurd hx z, fun z => absurd hx z⟩
  · cases rx
    cases ry
    obtain ⟨its, r1, p1, _⟩ := I.tuple ha
    obtain ⟨its2, r2, p2, _⟩ := I.tuple hb
    refine HT.cat_tup p1 p2 (fun z => hx (r1.nil_iff.mp z)) (fun z => ⟨.ref a, H, I, rfl, q1 (r2.nil_iff.mp z)⟩) (fun z => ?_) (by rw [← r1.length, ← r2.length]; exact hz)
    exact ⟨.ref _, _, tup_laid I (r1.append r2) (by rw [List.length_append]; exact hz), rfl, q2 _ _ (I.hok.fresh (Nat.le_refl _)) rfl⟩
/-- t[lo:hi] -/
def rSlF (K : PySem.W.Frag) : V → Option Int → Option Int → Hp → VK → Prop := fun x lo hi H Q => ∃ a xs, x = .ref a ∧ SqT K H a xs ∧
  (HT.sIx xs.length 0 lo = 0 ∧ HT.sIx xs.length xs.length hi = xs.length → Q (.ref a) H) ∧ ∀ p o, H p = none → o.dict = none → Q (.ref p) (upd H p (.frz o (.tup (cutV xs lo hi))))
theorem sl_tupF : SlR X (rSlF X.K) := by
  intro pins s σ H x v vl vu lo hi sl Q I rx hs pl pu h
  obtain ⟨a, xs, rfl, hx, q1, q2⟩ := h
  by_cases hw : HT.sIx xs.length 0 lo = 0 ∧ HT.sIx xs.length xs.length hi = xs.length
  · exact sl_tupA pins s σ H _ v vl vu lo hi sl Q I rx hs pl pu ⟨a, xs, rfl, hx, q1, fun z => absurd hw z⟩
  · cases rx
    obtain ⟨its, r, ht, hz⟩ := I.tuple hx
    have hlen : its.toArray.size = xs.length := by rw [List.size_toArray]; exact r.length.symm
    refine ⟨"tuple", _, PyProof.Rows.slot_tuple_getitem.lookup, ht.typeIs, HT.getItem_tuple_cut ht hs pl pu (by rw [hlen]; exact hw) ?_ (by rw [hlen]; exact hz)⟩
    rw [hlen]
    exact ⟨.ref _, _, tup_laid I ((r.drop _).take _) (Nat.le_trans (cutV_length xs lo hi) hz), rfl, q2 _ _ (I.hok.fresh (Nat.le_refl _)) rfl⟩
end
end Mp

/-! operations: the rule by what the data are -/
namespace Mp
open PySem PySem.Spec PyProof.Rows L2

section
variable {X : Cx} {K : PySem.W.Frag} {O : Addr → Prop} {H : Hp} {x y z : D}
theorem lst_ok {pins : List (Addr × Obj)} {σ : L2.St} {s : Shared} {a : Addr} {xs : List V} (I : Inv X pins σ H s) (h : LsT X.K H a xs) :
    ∃ (its : List Value) (n : Nat), Vals xs its ∧ s.heap.get? a = some { cls := .type "list", data := .seq its.toArray n } ∧ xs.length ≤ sizeLine := by
  rcases h with h | ⟨its, n, h1, h2, h3⟩
  · obtain ⟨z, its, n, r, e⟩ := h.ok I.hok
    exact ⟨its, n, r, e, z⟩
  · exact ⟨its, n, h3, I.kIn _ _ h1, by rw [h3.length]; exact h2⟩
/-- list + list, whatever stands of them -/
def rCatR (K : PySem.W.Frag) : R2 := fun x y H Q => ∃ l b xs zs, x = .ref l ∧ y = .ref b ∧ LsT K H l xs ∧ LsT K H b zs ∧ xs.length + zs.length ≤ sizeLine ∧ ∀ p, H p = none → Q (.ref p) (upd H p (.lst (xs ++ zs)))
theorem op_catR : OpR X (binaryOp .Add) (rCatR X.K) := by
  intro pins s σ H x y v u Q I rx ry h
  obtain ⟨l, b, xs, zs, rfl, rfl, hH, hB, hz, q⟩ := h
  cases rx
  cases ry
  obtain ⟨its, n, r, e, z⟩ := lst_ok I hH
  obtain ⟨its2, n2, r2, e2, z2⟩ := lst_ok I hB
  have l1 := r.length
  have l2 := r2.length
  refine PySem.P.add_list e e2 ?_ (by rw [List.size_toArray, List.size_toArray]; omega)
  have ea : its.toArray ++ its2.toArray = (its ++ its2).toArray := by simp
  rw [ea]
  refine ⟨.ref s.heap.objs.size, _, I.laid (t' := s.toks) (o := .lst (xs ++ zs)) (fun b ob q => Heap.get?_push_of_some _ q) (Nat.le_refl _) ?_, rfl, q _ (I.hok.fresh (Nat.le_refl _))⟩
  exact ⟨by rw [List.length_append]; exact hz, _, 0, r.append r2, Heap.get?_push_size _ rfl⟩
theorem op_powW : OpR X (binaryOp .Pow) (rI (fun i j => 0 ≤ j ∧ (Builtin.Int.intBits i : Int) * j ≤ 2 ^ 27) fun i j => .int (i ^ j.toNat)) := opI fun _ _ _ _ _ _ _ hc q => pow_int hc.1 hc.2 q
/-- a list times an int -/
def rRepR (K : PySem.W.Frag) : R2 := fun x y H Q => ∃ l k xs, x = .ref l ∧ y = .int k ∧ LsT K H l xs ∧ -(2 ^ 63) ≤ k ∧ k < 2 ^ 63 ∧ xs.length * k.toNat ≤ sizeLine ∧
  ∀ p, H p = none → Q (.ref p) (upd H p (.lst (List.replicate k.toNat xs).flatten))
theorem op_repR : OpR X (binaryOp .Mult) (rRepR X.K) := by
  intro pins s σ H x y v u Q I rx ry h
  obtain ⟨l, k, xs, rfl, rfl, hH, h1, h2, hz, q⟩ := h
  cases rx
  obtain ⟨t, rfl⟩ := ry
  obtain ⟨its, n, r, e, z⟩ := lst_ok I hH
  have hl := r.length
  have hlen : its.toArray.size * k.toNat ≤ sizeLine := by rw [List.size_toArray, ← hl]; exact hz
  have hcap : ¬ its.toArray.size * k.toNat > (2 ^ 63 - 1) / 8 := by
    have : (sizeLine : Nat) ≤ (2 ^ 63 - 1) / 8 := by decide
    omega
  have hfit : ¬ (!Builtin.List.listFitsIndex k) = true := by
    rw [fitsIndex_both h1 h2]
    exact Bool.false_ne_true
  have hlong : ¬ Builtin.List.listTooLong (its.toArray.size * k.toNat) = true := by
    rw [notLongL hlen]
    exact Bool.false_ne_true
  have hnew : List.foldl (fun x1 x2 => x1 ++ x2) #[] (List.replicate (if its.toArray.isEmpty = true then 0 else k.toNat) its.toArray) = (List.replicate k.toNat its).flatten.toArray := by
    rw [size_rep]
    cases its with
    | nil => simp
    | cons a r' => rw [if_neg (by simp)]
  refine wpAny_binaryOp_repeat_ref (T := "list") (U := "int") (by decide) ⟨_, e, rfl⟩ (fun s' => typeIs_int s' k t) noFill_list_mul F.fills_int_mul F.slot_int_rmul repeat_list F.slot_int_index.lookup
    (call_meets F.slot_int_rmul (typeIs_int s k t) F.entry_int_rmul (F.args_int_rmul_2 _ _) (int___rmul___int_list k t l its.toArray n)
      ⟨e, rfl, ⟨_, e, rfl⟩, call_meets F.slot_list_mul ⟨_, e, rfl⟩ F.entry_list_mul (F.args_list_mul_2 _ _) (AutoListH.list___mul___list_int_3 l its.toArray n k t hfit hcap hlong) ⟨e, ?_⟩⟩)
  rw [hnew]
  refine ⟨.ref s.heap.objs.size, _, I.laid (t' := s.toks) (o := .lst (List.replicate k.toNat xs).flatten) (fun b ob q => Heap.get?_push_of_some _ q) (Nat.le_refl _) ?_, rfl, q _ (I.hok.fresh (Nat.le_refl _))⟩
  exact ⟨by rw [PyProof.Rows.lm_len_rep_flat, Nat.mul_comm]; exact hz, _, 0, r.rep k.toNat, Heap.get?_push_size _ rfl⟩
/-- a tuple times 1, or an empty one: itself -/
theorem tuple_mul_same (l : Addr) (items : Array Value) (n : Nat) (dd : Option Addr) (sl : Array (Option Value)) (x : Int) (u : Tok) (c0 : (decide (x < -(2 ^ 63)) || decide (x ≥ 2 ^ 63)) = false) (c1 : (items.isEmpty || x == 1) = true) :
    Meets (Builtin.«tuple.__mul__» ⟨[.ref l, .int x u], []⟩) (fun _ R s => s.heap.get? l = some { cls := .type "tuple", dict := dd, data := .seq items n, slots := sl } ∧ R (.ok (.ret (Value.ref l))) s) :=
  .of_wp fun prog w A R s h => by
    obtain ⟨hp, g, d, tk, os⟩ := s
    obtain ⟨hl, h⟩ := h
    have f1 := AutoSeq1.idx_int
    wp_walk using wpAny_loadPart' hl
    repeat (first
      | (refine wpAny_ite_false (decide_eq_false (by rw [c0]; exact Bool.false_ne_true)) ?_; wp_walk using wpAny_loadPart' hl)
      | (refine wpAny_ite_true (decide_eq_true c1) ?_; wp_walk using wpAny_loadPart' hl))
    all_goals (first | exact ⟨_, rfl, h⟩ | exact h | skip)
theorem tuple_mul_none (l : Addr) (items : Array Value) (n : Nat) (dd : Option Addr) (sl : Array (Option Value)) (x : Int) (u : Tok) (c0 : (decide (x < -(2 ^ 63)) || decide (x ≥ 2 ^ 63)) = false) (c1 : (items.isEmpty || x == 1) = false) (c2 : (decide (x ≤ 0) || items.isEmpty) = true) :
    Meets (Builtin.«tuple.__mul__» ⟨[.ref l, .int x u], []⟩) (fun _ R s => s.heap.get? l = some { cls := .type "tuple", dict := dd, data := .seq items n, slots := sl } ∧
      R (.ok (.ret (Value.ref s.heap.objs.size))) { s with heap := s.heap.push { cls := Value.type "tuple", data := Data.seq #[] }, toks := s.toks }) :=
  .of_wp fun prog w A R s h => by
    obtain ⟨hp, g, d, tk, os⟩ := s
    obtain ⟨hl, h⟩ := h
    have f1 := AutoSeq1.idx_int
    wp_walk using wpAny_loadPart' hl
    repeat (first
      | (refine wpAny_ite_false (decide_eq_false (by rw [c0]; exact Bool.false_ne_true)) ?_; wp_walk using wpAny_loadPart' hl)
      | (refine wpAny_ite_false (decide_eq_false (by rw [c1]; exact Bool.false_ne_true)) ?_; wp_walk using wpAny_loadPart' hl)
      | (refine wpAny_ite_true (decide_eq_true c2) ?_; wp_walk using wpAny_loadPart' hl))
    all_goals (first | exact ⟨_, rfl, h⟩ | exact h | skip)
def rMulT (K : PySem.W.Frag) : R2 := fun x y H Q => ∃ l k xs, x = .ref l ∧ y = .int k ∧ SqT K H l xs ∧ 0 ≤ k ∧ k ≤ 1000 ∧ xs.length ≤ 1000 ∧ (k = 1 ∨ xs = [] → Q (.ref l) H) ∧
  ∀ p o, H p = none → o.dict = none → Q (.ref p) (upd H p (.frz o (.tup (List.replicate k.toNat xs).flatten)))
theorem op_mulT : OpR X (binaryOp .Mult) (rMulT X.K) := by
  intro pins s σ H x y v u Q I rx ry h
  obtain ⟨l, k, xs, rfl, rfl, hT, h1, h2, hz, q1, q2⟩ := h
  cases rx
  obtain ⟨t, rfl⟩ := ry
  obtain ⟨its, r, ⟨⟨cls, dd, data, sl⟩, ho, hc, n, hd⟩, hs⟩ := I.tuple hT
  simp only at hc hd
  subst hc hd
  have hle : its.length = xs.length := r.length.symm
  have hsz0 : its.toArray.size = xs.length := by rw [List.size_toArray, hle]
  have c0 : (decide (k < -(2 ^ 63)) || decide (k ≥ 2 ^ 63)) = false := by
    rw [decide_eq_false (by omega), decide_eq_false (by omega)] <;> rfl
  by_cases hw : k = 1 ∨ xs = []
  · have c1 : (its.toArray.isEmpty || k == 1) = true := by
      rcases hw with hw | hw
      · subst hw; simp
      · have : its = [] := List.eq_nil_of_length_eq_zero (by rw [hle, hw]; rfl)
        subst this; simp
    exact wpAny_binaryOp_repeat_ref (T := "tuple") (U := "int") (by decide) ⟨_, ho, rfl⟩ (fun s' => typeIs_int s' k t) noFill_tuple_mul F.fills_int_mul F.slot_int_rmul repeat_tuple F.slot_int_index.lookup
      (call_meets F.slot_int_rmul (typeIs_int s k t) F.entry_int_rmul (F.args_int_rmul_2 _ _) (int_rmul_tuple k t l its.toArray n dd sl)
        ⟨ho, rfl, ⟨_, ho, rfl⟩, call_meets F.slot_tuple_mul ⟨_, ho, rfl⟩ F.entry_tuple_mul (F.args_tuple_mul_2 _ _) (tuple_mul_same l its.toArray n dd sl k t c0 c1) ⟨ho, ⟨.ref l, H, I, rfl, q1 hw⟩⟩⟩)
  · rw [not_or] at hw
    have hne : its ≠ [] := fun e => hw.2 (by rw [e] at hle; exact List.eq_nil_of_length_eq_zero hle.symm)
    have hi : its.toArray.isEmpty = false := by
      cases its with
      | nil => exact absurd rfl hne
      | cons a b => rfl
    have c1 : (its.toArray.isEmpty || k == 1) = false := by
      rw [hi, Bool.false_or]
      exact beq_eq_false_iff_ne.mpr hw.1
    by_cases hk : k = 0
    · subst hk
      refine wpAny_binaryOp_repeat_ref (T := "tuple") (U := "int") (by decide) ⟨_, ho, rfl⟩ (fun s' => typeIs_int s' 0 t) noFill_tuple_mul F.fills_int_mul F.slot_int_rmul repeat_tuple F.slot_int_index.lookup
        (call_meets F.slot_int_rmul (typeIs_int s 0 t) F.entry_int_rmul (F.args_int_rmul_2 _ _) (int_rmul_tuple 0 t l its.toArray n dd sl)
          ⟨ho, rfl, ⟨_, ho, rfl⟩, call_meets F.slot_tuple_mul ⟨_, ho, rfl⟩ F.entry_tuple_mul (F.args_tuple_mul_2 _ _) (tuple_mul_none l its.toArray n dd sl 0 t c0 c1 (by simp)) ⟨ho, ?_⟩⟩)
      exact ⟨.ref _, _, tup_laid I (us := []) .nil (Nat.zero_le _), rfl, q2 _ _ (I.hok.fresh (Nat.le_refl _)) rfl⟩
    · have hm : ((its.toArray.size : Nat) : Int) * k ≤ 1000000 := by
        rw [hsz0]
        have a1 : ((xs.length : Nat) : Int) * k ≤ 1000 * k := Int.mul_le_mul_of_nonneg_right (by omega) (by omega)
        omega
      have flen : (List.replicate k.toNat its).flatten.length ≤ sizeLine := by
        rw [PyProof.Rows.lm_len_rep_flat, hle, sizeLine_eq]
        have a1 : k.toNat * xs.length ≤ 1000 * 1000 := Nat.mul_le_mul (by omega) hz
        omega
      have c2 : (decide (k ≤ 0) || its.toArray.isEmpty) = false := by
        rw [hi, Bool.or_false]
        exact decide_eq_false (by omega)
      have c4 : Builtin.Tuple.tupleTooMany (((its.toArray.size : Nat) : Int) * k) = false := by
        unfold Builtin.Tuple.tupleTooMany
        rw [sizeLine_eq]
        exact decide_eq_false (by omega)
      refine wpAny_binaryOp_repeat_ref (T := "tuple") (U := "int") (by decide) ⟨_, ho, rfl⟩ (fun s' => typeIs_int s' k t) noFill_tuple_mul F.fills_int_mul F.slot_int_rmul repeat_tuple F.slot_int_index.lookup
        (call_meets F.slot_int_rmul (typeIs_int s k t) F.entry_int_rmul (F.args_int_rmul_2 _ _) (int_rmul_tuple k t l its.toArray n dd sl)
          ⟨ho, rfl, ⟨_, ho, rfl⟩, call_meets F.slot_tuple_mul ⟨_, ho, rfl⟩ F.entry_tuple_mul (F.args_tuple_mul_2 _ _) (tuple_mulW l its.toArray n dd sl k t c0 c1 c2 (by omega) c4 (by rw [size_rep, List.size_toArray]; exact flen)) ⟨ho, ?_⟩⟩)
      rw [size_rep]
      have hz' : (List.replicate k.toNat xs).flatten.length ≤ sizeLine := by
        rw [PyProof.Rows.lm_len_rep_flat, sizeLine_eq]
        have a1 : k.toNat * xs.length ≤ 1000 * 1000 := Nat.mul_le_mul (by omega) hz
        omega
      exact ⟨.ref _, _, tup_laid I (r.rep k.toNat) hz', rfl, q2 _ _ (I.hok.fresh (Nat.le_refl _)) rfl⟩
theorem RepA.rep {vs : List V} {ds : List D} (h : RepA K H O vs ds) : ∀ n, RepA K H O (List.replicate n vs).flatten (List.replicate n ds).flatten
  | 0 => .nil
  | n + 1 => by
    rw [List.replicate_succ, List.replicate_succ, List.flatten_cons, List.flatten_cons]
    exact h.append (RepA.rep h n)
theorem bin_sem {op : Operator} (h : bin op x y = some z) : ∃ rr, OpR X (binaryOp op) rr ∧ Sem2 X.K rr x y z := by
  unfold bin at h
  split at h
  · cases h
    exact ⟨_, op_add, fun v w H O Q al rx ry q => ⟨_, _, rx.int, ry.int, q _ _ (fun _ _ h => h) (.int _)⟩⟩
  · split at h
    · rename_i hz
      cases h
      exact ⟨_, op_add_str, fun v w H O Q al rx ry q => ⟨_, _, rx.str, ry.str, hz, q _ _ (fun _ _ h => h) (.str _)⟩⟩
    · cases h
  · split at h
    · rename_i hz
      cases h
      refine ⟨_, op_catF, fun v w H O Q al rx ry q => ?_⟩
      obtain ⟨a, xs, rfl, sx, qx, r1⟩ := rx.tuple
      obtain ⟨b, ys, rfl, sy, qy, r2⟩ := ry.tuple
      have l1 := qx.length
      have l2 := qy.length
      refine ⟨a, b, xs, ys, rfl, rfl, sx, sy, by omega, fun e => ?_, fun e => ?_, fun p o np d => q _ _ (same_upd' np) (rep_new_tup al np d (qx.append qy))⟩
      · subst e
        cases qx
        exact q _ _ (fun _ _ h => h) (by simpa using r2)
      · subst e
        cases qy
        exact q _ _ (fun _ _ h => h) (by simpa using r1)
    · cases h
  · split at h
    · rename_i hz
      cases h
      refine ⟨_, op_catR, fun v w H O Q al rx ry q => ?_⟩
      obtain ⟨a, xs, rfl, sx, qx⟩ := rx.list
      obtain ⟨b, ys, rfl, sy, qy⟩ := ry.list
      have l1 := qx.length
      have l2 := qy.length
      exact ⟨a, b, xs, ys, rfl, rfl, sx, sy, by omega, fun p np => q _ _ (same_upd' np) (rep_new_lst al np (qx.append qy))⟩
    · cases h
  · cases h
    exact ⟨_, op_sub, fun v w H O Q al rx ry q => ⟨_, _, rx.int, ry.int, q _ _ (fun _ _ h => h) (.int _)⟩⟩
  · split at h
    · rename_i hz
      cases h
      exact ⟨_, op_mulW, fun v w H O Q al rx ry q => ⟨_, _, rx.int, ry.int, hz, q _ _ (fun _ _ h => h) (.int _)⟩⟩
    · cases h
  · split at h
    · rename_i hz
      cases h
      exact ⟨_, op_fdivW, fun v w H O Q al rx ry q => ⟨_, _, rx.int, ry.int, hz, q _ _ (fun _ _ h => h) (.int _)⟩⟩
    · cases h
  · split at h
    · rename_i hz
      cases h
      exact ⟨_, op_mod, fun v w H O Q al rx ry q => ⟨_, _, rx.int, ry.int, hz, q _ _ (fun _ _ h => h) (.int _)⟩⟩
    · cases h
  · split at h
    · rename_i hz
      cases h
      exact ⟨_, op_powW, fun v w H O Q al rx ry q => ⟨_, _, rx.int, ry.int, hz, q _ _ (fun _ _ h => h) (.int _)⟩⟩
    · cases h
  · split at h
    · rename_i hz
      cases h
      refine ⟨_, op_repR, fun v w H O Q al rx ry q => ?_⟩
      obtain ⟨a, xs, rfl, sx, qx⟩ := rx.list
      have l1 := qx.length
      have hl : xs.length * Int.toNat ‹Int› ≤ sizeLine := by rw [l1, sizeLine_eq]; omega
      exact ⟨a, _, xs, rfl, ry.int, sx, by omega, by omega, hl, fun p np => q _ _ (same_upd' np) (rep_new_lst al np (qx.rep _))⟩
    · cases h
  · split at h
    · rename_i hz
      cases h
      refine ⟨_, op_mulT, fun v w H O Q al rx ry q => ?_⟩
      obtain ⟨a, xs, rfl, sx, qx, r1⟩ := rx.tuple
      have l1 := qx.length
      refine ⟨a, _, xs, rfl, ry.int, sx, hz.1, hz.2.1, by omega, fun e => ?_, fun p o np d => q _ _ (same_upd' np) (rep_new_tup al np d (qx.rep _))⟩
      rcases e with e | e
      · subst e
        exact q _ _ (fun _ _ h => h) (by simpa using r1)
      · subst e
        cases qx
        exact q _ _ (fun _ _ h => h) (by simpa using r1)
    · cases h
  · cases h

/-! comparisons -/
theorem flat_rep {v : V} {d : D} (f : flatD d = true) (r : RepX K H O v d) : flatV v = true := by
  cases d with
  | none => rw [r.none]; rfl
  | bool b => rw [r.bool]; rfl
  | int b => rw [r.int]; rfl
  | str b => rw [r.str]; rfl
  | list _ => cases f
  | tuple _ => cases f
  | dict _ => cases f
theorem flat_reps : ∀ {vs : List V} {ds : List D}, ds.all flatD = true → RepA K H O vs ds → vs.all flatV = true
  | _, _, _, .nil => rfl
  | v :: vs, d :: ds, f, .cons r t => by
    rw [List.all_cons, Bool.and_eq_true] at f
    rw [List.all_cons, flat_rep f.1 (.inl r), flat_reps f.2 t]
    rfl
theorem eqv_rep {v w : V} {d e : D} (fd : flatD d = true) (fe : flatD e = true) (r : RepX K H O v d) (q : RepX K H O w e) : eqV v w = PyData.eqv d e := by
  cases d <;> first | (cases fd; done) | (cases e <;> first | (cases fe; done) | (first | rw [r.none] | rw [r.bool] | rw [r.int] | rw [r.str]) <;> (first | rw [q.none] | rw [q.bool] | rw [q.int] | rw [q.str]) <;> simp [eqV, PyData.eqv])
theorem inV_rep {v : V} {d : D} (fd : flatD d = true) (r : RepX K H O v d) : ∀ {vs : List V} {ds : List D}, ds.all flatD = true → RepA K H O vs ds → inV v vs = ds.any fun z => PyData.eqv z d
  | _, _, _, .nil => rfl
  | w :: vs, e :: ds, f, .cons q t => by
    rw [List.all_cons, Bool.and_eq_true] at f
    have := inV_rep fd r f.2 t
    unfold inV at this ⊢
    rw [List.any_cons, List.any_cons, eqv_rep f.1 fd (.inl q) r, this]
def Sem2b (K : PySem.W.Frag) (r : R2) (x y : D) (b : Bool) : Prop := ∀ (v w : V) (H : Hp) (O : Addr → Prop) (Q : VK), RepX K H O v x → RepX K H O w y → Q (.bl b) H → r v w H Q
theorem Sem2b.sem {rr : R2} {b : Bool} (s : Sem2b K rr x y b) : Sem2 K rr x y (.bool b) := fun v w H O Q al rx ry q => s v w H O Q rx ry (q _ _ (fun _ _ h => h) (.bl b))
def rEqP (K : PySem.W.Frag) : R2 := fun x y H Q => ∃ d e, Dp K H x d ∧ Dp K H y e ∧ d.plain = true ∧ e.plain = true ∧ min d.depth e.depth ≤ DL ∧ Q (.bl (PyData.eqv d e)) H
def rNeP (K : PySem.W.Frag) : R2 := fun x y H Q => ∃ d e, Dp K H x d ∧ Dp K H y e ∧ d.plain = true ∧ e.plain = true ∧ min d.depth e.depth ≤ DL ∧ Q (.bl (!PyData.eqv d e)) H
theorem op_eqP (hu : X.A.units + 500 < cLine) : OpR X (compareOp .Eq) (rEqP X.K) := by
  intro pins s σ H x y v u Q I rx ry h
  obtain ⟨d, e, hd, he, sd, se, hl, q⟩ := h
  obtain ⟨as, r1⟩ := Dp.reads I d x v hd rx
  obtain ⟨bs, r2⟩ := Dp.reads I e y u he ry
  unfold DL at hl
  exact SeqAt.eq_plain r1 r2 sd se (by omega) ⟨.bl _, H, I, rfl, q⟩
theorem op_neP (hu : X.A.units + 500 < cLine) : OpR X (compareOp .NotEq) (rNeP X.K) := by
  intro pins s σ H x y v u Q I rx ry h
  obtain ⟨d, e, hd, he, sd, se, hl, q⟩ := h
  obtain ⟨as, r1⟩ := Dp.reads I d x v hd rx
  obtain ⟨bs, r2⟩ := Dp.reads I e y u he ry
  unfold DL at hl
  exact SeqAt.ne_plain r1 r2 sd se (by omega) ⟨.bl _, H, I, rfl, q⟩
def rInP (K : PySem.W.Frag) (b : Bool) : R2 := fun x y H Q => ∃ d ds, Dp K H x d ∧ Dp K H y (.list ds) ∧ d.plain = true ∧ PyData.plainAll ds = true ∧ min (PyData.depthAll ds) d.depth ≤ DL ∧ Q (.bl (b ^^ ds.any fun z => PyData.eqv z d)) H
theorem op_inP (hu : X.A.units + 500 < cLine) : OpR X (compareOp .In) (rInP X.K false) := by
  intro pins s σ H x y v u Q I rx ry h
  obtain ⟨d, ds, hd, he, sd, se, hl, q⟩ := h
  obtain ⟨as, r1⟩ := Dp.reads I d x v hd rx
  obtain ⟨bs, r2⟩ := Dp.reads I (.list ds) y u he ry
  unfold DL at hl
  exact SeqAt.in_list_data r2 r1 se sd (by omega) ⟨.bl _, H, I, rfl, by simpa using q⟩
theorem op_notInP (hu : X.A.units + 500 < cLine) : OpR X (compareOp .NotIn) (rInP X.K true) := by
  intro pins s σ H x y v u Q I rx ry h
  obtain ⟨d, ds, hd, he, sd, se, hl, q⟩ := h
  obtain ⟨as, r1⟩ := Dp.reads I d x v hd rx
  obtain ⟨bs, r2⟩ := Dp.reads I (.list ds) y u he ry
  unfold DL at hl
  exact SeqAt.notIn_list_data r2 r1 se sd (by omega) ⟨.bl _, H, I, rfl, by simpa using q⟩
def rInTP (K : PySem.W.Frag) (b : Bool) : R2 := fun x y H Q => ∃ d ds, Dp K H x d ∧ Dp K H y (.tuple ds) ∧ d.plain = true ∧ PyData.plainAll ds = true ∧ min (PyData.depthAll ds) d.depth ≤ DL ∧ Q (.bl (b ^^ ds.any fun z => PyData.eqv z d)) H
theorem op_inTP (hu : X.A.units + 500 < cLine) : OpR X (compareOp .In) (rInTP X.K false) := by
  intro pins s σ H x y v u Q I rx ry h
  obtain ⟨d, ds, hd, he, sd, se, hl, q⟩ := h
  obtain ⟨as, r1⟩ := Dp.reads I d x v hd rx
  obtain ⟨bs, r2⟩ := Dp.reads I (.tuple ds) y u he ry
  unfold DL at hl
  exact SeqAt.in_tuple_data r2 r1 se sd (by omega) ⟨.bl _, H, I, rfl, by simpa using q⟩
theorem op_notInTP (hu : X.A.units + 500 < cLine) : OpR X (compareOp .NotIn) (rInTP X.K true) := by
  intro pins s σ H x y v u Q I rx ry h
  obtain ⟨d, ds, hd, he, sd, se, hl, q⟩ := h
  obtain ⟨as, r1⟩ := Dp.reads I d x v hd rx
  obtain ⟨bs, r2⟩ := Dp.reads I (.tuple ds) y u he ry
  unfold DL at hl
  exact SeqAt.notIn_tuple_data r2 r1 se sd (by omega) ⟨.bl _, H, I, rfl, by simpa using q⟩
theorem plain_list {ds : List D} (h : PyData.plainAll ds = true) : PyData.plain (.list ds) = true := by simpa [PyData.plain] using h
theorem plain_tuple {ds : List D} (h : PyData.plainAll ds = true) : PyData.plain (.tuple ds) = true := by simpa [PyData.plain] using h
def rEqU (K : PySem.W.Frag) (b : Bool) : R2 := fun x y H Q => ∃ a c xs ys, x = .ref a ∧ y = .ref c ∧ SqL K H a xs ∧ SqL K H c ys ∧ xs.length ≠ ys.length ∧ Q (.bl b) H
theorem op_eqU (hu : X.A.units + 500 < cLine) : OpR X (compareOp .Eq) (rEqU X.K false) := by
  intro pins s σ H x y v u Q I rx ry h
  obtain ⟨a, c, xs, ys, rfl, rfl, ha, hc, hl, q⟩ := h
  cases rx
  cases ry
  obtain ⟨its, rv, pl, _⟩ := I.list ha
  obtain ⟨its', rv', pl', _⟩ := I.list hc
  have n : its.toArray.size ≠ its'.toArray.size := by rw [List.size_toArray, List.size_toArray, ← rv.length, ← rv'.length]; exact hl
  exact SeqAt.RcAt.lists_lengths pl.isList pl'.isList (by simpa using n) (by omega) _ _ _ _ ⟨.bl _, H, I, rfl, q⟩
theorem op_neU (hu : X.A.units + 500 < cLine) : OpR X (compareOp .NotEq) (rEqU X.K true) := by
  intro pins s σ H x y v u Q I rx ry h
  obtain ⟨a, c, xs, ys, rfl, rfl, ha, hc, hl, q⟩ := h
  cases rx
  cases ry
  obtain ⟨its, rv, pl, _⟩ := I.list ha
  obtain ⟨its', rv', pl', _⟩ := I.list hc
  have n : its.toArray.size ≠ its'.toArray.size := by rw [List.size_toArray, List.size_toArray, ← rv.length, ← rv'.length]; exact hl
  exact SeqAt.RcNeAt.lists_lengths pl.isList pl'.isList (by simpa using n) (by omega) _ _ _ _ ⟨.bl _, H, I, rfl, q⟩
theorem eqD_sem (hu : X.A.units + 500 < cLine) {b : Bool} (h : eqD x y = some b) : (∃ rr, OpR X (compareOp .Eq) rr ∧ Sem2b X.K rr x y b) ∧ ∃ rr, OpR X (compareOp .NotEq) rr ∧ Sem2b X.K rr x y (!b) := by
  unfold eqD at h
  split at h
  · cases h
    refine ⟨⟨_, op_eq, fun v w H O Q rx ry q => ?_⟩, ⟨_, op_ne, fun v w H O Q rx ry q => ?_⟩⟩
    · rw [rx.int, ry.int]
      refine ⟨rfl, ?_⟩
      simp only [V.int.injEq]
      exact q
    · rw [rx.int, ry.int]
      refine ⟨rfl, ?_⟩
      simp only [V.int.injEq]
      exact q
  · cases h
    refine ⟨⟨_, op_eq, fun v w H O Q rx ry q => ?_⟩, ⟨_, op_ne, fun v w H O Q rx ry q => ?_⟩⟩
    · rw [rx.str, ry.str]
      refine ⟨rfl, ?_⟩
      simp only [V.str.injEq]
      exact q
    · rw [rx.str, ry.str]
      refine ⟨rfl, ?_⟩
      simp only [V.str.injEq]
      exact q
  · split at h
    · rename_i hs
      cases h
      exact ⟨⟨_, op_eqP hu, fun v w H O Q rx ry q => ⟨_, _, rx.dp hs.1, ry.dp hs.2.1, hs.1, hs.2.1, hs.2.2, q⟩⟩, ⟨_, op_neP hu, fun v w H O Q rx ry q => ⟨_, _, rx.dp hs.1, ry.dp hs.2.1, hs.1, hs.2.1, hs.2.2, q⟩⟩⟩
    · split at h
      · rename_i hn
        cases h
        unfold unlikeD at hn
        split at hn
        · rename_i xs ys _ _ _
          have hn : xs.length ≠ ys.length := by simpa using hn
          refine ⟨⟨_, op_eqU hu, fun v w H O Q rx ry q => ?_⟩, ⟨_, op_neU hu, fun v w H O Q rx ry q => ?_⟩⟩
          · obtain ⟨a, vs, rfl, sx, qx⟩ := rx.list
            obtain ⟨c, ws, rfl, sy, qy⟩ := ry.list
            exact ⟨a, c, vs, ws, rfl, rfl, sx.sq, sy.sq, by rw [qx.length, qy.length]; exact hn, q⟩
          · obtain ⟨a, vs, rfl, sx, qx⟩ := rx.list
            obtain ⟨c, ws, rfl, sy, qy⟩ := ry.list
            exact ⟨a, c, vs, ws, rfl, rfl, sx.sq, sy.sq, by rw [qx.length, qy.length]; exact hn, q⟩
        · cases hn
      · cases h
theorem inL_sem (hu : X.A.units + 500 < cLine) {b : Bool} {ds : List D} (h : inL x ds = some b) : (∃ rr, OpR X (compareOp .In) rr ∧ Sem2b X.K rr x (.list ds) b) ∧ ∃ rr, OpR X (compareOp .NotIn) rr ∧ Sem2b X.K rr x (.list ds) (!b) := by
  unfold inL at h
  split at h
  · rename_i f
    cases h
    refine ⟨⟨_, op_in_seq, fun v w H O Q rx ry q => ?_⟩, ⟨_, op_notIn_seq, fun v w H O Q rx ry q => ?_⟩⟩
    · obtain ⟨a, xs, rfl, sx, qx⟩ := ry.list
      refine ⟨a, xs, rfl, .inl sx.sq, flat_rep f.1 rx, flat_reps f.2 qx, ?_⟩
      rw [inV_rep f.1 rx f.2 qx]
      exact q
    · obtain ⟨a, xs, rfl, sx, qx⟩ := ry.list
      refine ⟨a, xs, rfl, .inl sx.sq, flat_rep f.1 rx, flat_reps f.2 qx, ?_⟩
      rw [inV_rep f.1 rx f.2 qx]
      exact q
  · split at h
    · rename_i hs
      cases h
      exact ⟨⟨_, op_inP hu, fun v w H O Q rx ry q => ⟨_, _, rx.dp hs.1, ry.dp (plain_list hs.2.1), hs.1, hs.2.1, hs.2.2, by simpa using q⟩⟩, ⟨_, op_notInP hu, fun v w H O Q rx ry q => ⟨_, _, rx.dp hs.1, ry.dp (plain_list hs.2.1), hs.1, hs.2.1, hs.2.2, by simpa using q⟩⟩⟩
    · cases h
theorem inT_sem (hu : X.A.units + 500 < cLine) {b : Bool} {ds : List D} (h : inT x ds = some b) : (∃ rr, OpR X (compareOp .In) rr ∧ Sem2b X.K rr x (.tuple ds) b) ∧ ∃ rr, OpR X (compareOp .NotIn) rr ∧ Sem2b X.K rr x (.tuple ds) (!b) := by
  unfold inT at h
  split at h
  · rename_i f
    cases h
    refine ⟨⟨_, op_in_seq, fun v w H O Q rx ry q => ?_⟩, ⟨_, op_notIn_seq, fun v w H O Q rx ry q => ?_⟩⟩
    · obtain ⟨a, xs, rfl, sx, qx, _⟩ := ry.tuple
      refine ⟨a, xs, rfl, .inr sx, flat_rep f.1 rx, flat_reps f.2 qx, ?_⟩
      rw [inV_rep f.1 rx f.2 qx]
      exact q
    · obtain ⟨a, xs, rfl, sx, qx, _⟩ := ry.tuple
      refine ⟨a, xs, rfl, .inr sx, flat_rep f.1 rx, flat_reps f.2 qx, ?_⟩
      rw [inV_rep f.1 rx f.2 qx]
      exact q
  · split at h
    · rename_i hs
      cases h
      exact ⟨⟨_, op_inTP hu, fun v w H O Q rx ry q => ⟨_, _, rx.dp hs.1, ry.dp (plain_tuple hs.2.1), hs.1, hs.2.1, hs.2.2, by simpa using q⟩⟩, ⟨_, op_notInTP hu, fun v w H O Q rx ry q => ⟨_, _, rx.dp hs.1, ry.dp (plain_tuple hs.2.1), hs.1, hs.2.1, hs.2.2, by simpa using q⟩⟩⟩
    · cases h

/-! ### text keys of dicts -/
theorem dget_inl {i : Int} {d : D} {es : List (D × D)} {k : Str} : dget ((kD (.inl i), d) :: es) k = dget es k := rfl
theorem dget_inr {x : Str} {d : D} {es : List (D × D)} {k : Str} : dget ((kD (.inr x), d) :: es) k = if x = k then some d else dget es k := rfl
theorem valK_dget : ∀ {kvs : List (Key × V)} {es : List (D × D)} {k : Str}, RepK K H O kvs es → (∀ d, dget es k = some d → ∃ v, valV kvs (.inr k) = some v ∧ Rep K H O v d) ∧ (dget es k = none → valV kvs (.inr k) = none)
  | _, _, k, .nil => ⟨fun _ h => (by cases h), fun _ => rfl⟩
  | (k', v) :: kvs, _, k, .cons (d := d) r t => by
    have ih := valK_dget (k := k) t
    cases k' with
    | inl i =>
      rw [dget_inl, valV_neg (by intro z; cases z)]
      exact ih
    | inr x =>
      rw [dget_inr]
      by_cases h : x = k
      · subst h
        rw [if_pos rfl, valV_pos rfl]
        exact ⟨fun d' h' => by cases h'; exact ⟨v, rfl, r⟩, fun h' => by cases h'⟩
      · rw [if_neg h, valV_neg (by intro z; exact h (Sum.inr.inj z))]
        exact ih
theorem dget_of {v w : V} {es : List (D × D)} {k : Str} (rx : RepX K H O v (.dict es)) (rk : RepX K H O w (.str k)) : ∃ a o, v = .ref a ∧ w = kV (.inr k) ∧ DGet H a w o ∧ o.isSome = (dget es k).isSome ∧ ∀ d, dget es k = some d → ∃ u, o = some u ∧ Rep K H O u d := by
  obtain ⟨a, kvs, rfl, rd, nd, q⟩ := rx.dict
  obtain ⟨h1, h2⟩ := valK_dget (k := k) q
  have ew := rk.str
  subst ew
  refine ⟨a, valV kvs (.inr k), rfl, rfl, .inl ⟨kvs, .inr k, rd, rfl, rfl⟩, ?_, fun d e => ?_⟩
  · cases e : dget es k with
    | none => rw [h2 e]; rfl
    | some d =>
      obtain ⟨u, e1, _⟩ := h1 d e
      rw [e1]; rfl
  · obtain ⟨u, e1, e2⟩ := h1 d e
    exact ⟨u, e1, e2⟩
theorem op_in_dk (hu : X.A.units + 1 < cLine) : OpR X (compareOp .In) (fun x y H Q => ∃ a o, y = .ref a ∧ DGet H a x o ∧ Q (.bl o.isSome) H) := by
  intro pins s σ H x y v u Q I rx ry h
  obtain ⟨a, o, rfl, g, q⟩ := h
  cases ry
  exact d_in hu I g rx fun s3 I3 => ⟨.bl o.isSome, H, I3, rfl, q⟩
theorem op_notIn_dk (hu : X.A.units + 1 < cLine) : OpR X (compareOp .NotIn) (fun x y H Q => ∃ a o, y = .ref a ∧ DGet H a x o ∧ Q (.bl (!o.isSome)) H) := by
  intro pins s σ H x y v u Q I rx ry h
  obtain ⟨a, o, rfl, g, q⟩ := h
  cases ry
  exact d_notIn hu I g rx fun s3 I3 => ⟨.bl (!o.isSome), H, I3, rfl, q⟩
/-- x is a constant None, True, False -/
def isV : V → V → Bool
  | .non, .non => true
  | .bl a, .bl b => a == b
  | _, _ => false
theorem op_le_str : OpR X (compareOp .LtE) (fun x y H Q => ∃ i j, x = .str i ∧ y = .str j ∧ Q (.bl (!decide (j.cps.toList < i.cps.toList))) H) := by
  intro pins s σ H x y v u Q I rx ry h
  obtain ⟨i, j, rfl, rfl, q⟩ := h
  obtain ⟨t, rfl⟩ := rx
  obtain ⟨t', rfl⟩ := ry
  exact PySem.P.le_str ⟨.bl _, H, I, rfl, q⟩
theorem cmp_sem (hu : X.A.units + 500 < cLine) {op : CmpOp} (hop : op ≠ .Is ∧ op ≠ .IsNot) (h : cmp op x y = some z) : ∃ rr b, z = .bool b ∧ OpR X (compareOp op) rr ∧ Sem2b X.K rr x y b := by
  unfold cmp at h
  split at h
  · obtain ⟨b, e, rfl⟩ := Option.map_eq_some_iff.mp h
    obtain ⟨⟨rr, o, s⟩, _⟩ := eqD_sem (X := X) hu e
    exact ⟨rr, b, rfl, o, s⟩
  · obtain ⟨b, e, rfl⟩ := Option.map_eq_some_iff.mp h
    obtain ⟨_, rr, o, s⟩ := eqD_sem (X := X) hu e
    exact ⟨rr, !b, rfl, o, s⟩
  · cases h
    exact ⟨_, _, rfl, op_lt, fun v w H O Q rx ry q => ⟨_, _, rx.int, ry.int, q⟩⟩
  · cases h
    exact ⟨_, _, rfl, op_le, fun v w H O Q rx ry q => ⟨_, _, rx.int, ry.int, q⟩⟩
  · cases h
    exact ⟨_, _, rfl, op_gt, fun v w H O Q rx ry q => ⟨_, _, rx.int, ry.int, q⟩⟩
  · cases h
    exact ⟨_, _, rfl, op_ge, fun v w H O Q rx ry q => ⟨_, _, rx.int, ry.int, q⟩⟩
  · cases h
    exact ⟨_, _, rfl, op_lt_str, fun v w H O Q rx ry q => ⟨_, _, rx.str, ry.str, q⟩⟩
  · cases h
    exact ⟨_, _, rfl, op_le_str, fun v w H O Q rx ry q => ⟨_, _, rx.str, ry.str, q⟩⟩
  · cases h
    exact ⟨_, _, rfl, op_in_str, fun v w H O Q rx ry q => ⟨_, _, rx.str, ry.str, q⟩⟩
  · cases h
    exact ⟨_, _, rfl, L2.op_notIn_str, fun v w H O Q rx ry q => ⟨_, _, rx.str, ry.str, q⟩⟩
  · cases h
    refine ⟨_, _, rfl, op_in_dk (by omega), fun v w H O Q rx ry q => ?_⟩
    obtain ⟨a, o, rfl, ew, g, e, _⟩ := dget_of ry rx
    exact ⟨a, o, rfl, g, by rw [e]; exact q⟩
  · cases h
    refine ⟨_, _, rfl, op_notIn_dk (by omega), fun v w H O Q rx ry q => ?_⟩
    obtain ⟨a, o, rfl, ew, g, e, _⟩ := dget_of ry rx
    exact ⟨a, o, rfl, g, by rw [e]; exact q⟩
  · obtain ⟨b, e, rfl⟩ := Option.map_eq_some_iff.mp h
    obtain ⟨⟨rr, o, s⟩, _⟩ := inL_sem (X := X) hu e
    exact ⟨rr, b, rfl, o, s⟩
  · obtain ⟨b, e, rfl⟩ := Option.map_eq_some_iff.mp h
    obtain ⟨_, rr, o, s⟩ := inL_sem (X := X) hu e
    exact ⟨rr, !b, rfl, o, s⟩
  · obtain ⟨b, e, rfl⟩ := Option.map_eq_some_iff.mp h
    obtain ⟨⟨rr, o, s⟩, _⟩ := inT_sem (X := X) hu e
    exact ⟨rr, b, rfl, o, s⟩
  · obtain ⟨b, e, rfl⟩ := Option.map_eq_some_iff.mp h
    obtain ⟨_, rr, o, s⟩ := inT_sem (X := X) hu e
    exact ⟨rr, !b, rfl, o, s⟩
  · exact absurd rfl hop.1
  · exact absurd rfl hop.2
  · cases h

/-! ### subscripts -/
theorem atI_get' {α β : Type} {F : α → β → Prop} {xs : List α} {ys : List β} {i : Int} {y : β} (hl : xs.length = ys.length) (h : atI ys i = some y) (g : ∀ (j : Nat) (y : β), ys[j]? = some y → ∃ x, xs[j]? = some x ∧ F x y) : ∃ x, atI xs i = some x ∧ F x y := by
  unfold atI at h ⊢
  rw [hl]
  cases e : ixN ys.length i with
  | none => rw [e] at h; cases h
  | some j =>
    rw [e] at h
    exact g j y h
theorem idx_sem (hu : X.A.units + 500 < cLine) (h : idx x y = some z) : (∃ rr, IxR X rr ∧ Sem2 X.K rr x y z) ∨ ∃ es k, x = .dict es ∧ y = .str k ∧ dget es k = some z := by
  unfold idx at h
  split at h
  · refine .inl ⟨_, ix_list, fun v w H O Q al rx ry q => ?_⟩
    obtain ⟨a, xs, rfl, sx, qx⟩ := rx.list
    obtain ⟨u, e1, e2⟩ := atI_get' (F := Rep X.K H O) qx.length h fun j y e => qx.get e
    exact ⟨a, xs, _, u, rfl, ry.int, sx.sq, e1, q _ _ (fun _ _ h => h) e2⟩
  · refine .inl ⟨_, ix_tup, fun v w H O Q al rx ry q => ?_⟩
    obtain ⟨a, xs, rfl, sx, qx, _⟩ := rx.tuple
    obtain ⟨u, e1, e2⟩ := atI_get' (F := Rep X.K H O) qx.length h fun j y e => qx.get e
    exact ⟨a, xs, _, u, rfl, ry.int, sx, e1, q _ _ (fun _ _ h => h) e2⟩
  · split at h
    · rename_i hz
      obtain ⟨c, e, rfl⟩ := Option.map_eq_some_iff.mp h
      exact .inl ⟨_, ix_str, fun v w H O Q al rx ry q => ⟨_, _, c, rx.str, ry.int, hz, e, q _ _ (fun _ _ h => h) (.str _)⟩⟩
    · cases h
  · exact .inr ⟨_, _, rfl, rfl, h⟩
  · cases h
theorem cut_eq (xs : List V) (lo hi : Option Int) : cutV xs lo hi = cut xs lo hi := rfl
theorem cut_rep {xs : List V} {ds : List D} (r : RepA K H O xs ds) (lo hi : Option Int) : RepA K H O (cutV xs lo hi) (cut ds lo hi) := by
  unfold cutV cut
  rw [r.length]
  exact (r.drop _).take _
def SemS (K : PySem.W.Frag) (r : V → Option Int → Option Int → Hp → VK → Prop) (x : D) (lo hi : Option Int) (z : D) : Prop := ∀ (v : V) (H : Hp) (O : Addr → Prop) (Q : VK), Al O H → RepX K H O v x → (∀ u H', Same H H' → Rep K H' O u z → Q u H') → r v lo hi H Q
theorem slice_sem {lo hi : Option Int} (h : slice x lo hi = some z) : ∃ rr, SlR X rr ∧ SemS X.K rr x lo hi z := by
  unfold slice at h
  split at h
  · cases h
    refine ⟨_, sl_list, fun v H O Q al rx q => ?_⟩
    obtain ⟨a, xs, rfl, sx, qx⟩ := rx.list
    exact ⟨a, xs, rfl, sx.sq, fun p np => q _ _ (same_upd' np) (rep_new_lst al np (cut_rep qx lo hi))⟩
  · cases h
    refine ⟨_, sl_tupF, fun v H O Q al rx q => ?_⟩
    obtain ⟨a, xs, rfl, sx, qx, r1⟩ := rx.tuple
    refine ⟨a, xs, rfl, sx, fun hw => q _ _ (fun _ _ h => h) ?_, fun p o np d => q _ _ (same_upd' np) (rep_new_tup al np d (cut_rep qx lo hi))⟩
    rename_i ds
    have e : cut ds lo hi = ds := by
      unfold cut
      rw [← qx.length, hw.1, hw.2]
      simp [qx.length]
    rw [e]
    exact r1
  · split at h
    · rename_i hz
      cases h
      refine ⟨_, sl_str, fun v H O Q al rx q => ⟨_, rx.str, hz, ?_⟩⟩
      have e : ∀ (z : Str), cutS z lo hi = ⟨(cut z.cps.toList lo hi).toArray⟩ := fun z => by
        unfold cutS cut
        first | rfl | simp [Str.length]
      rw [e]
      exact q _ _ (fun _ _ h => h) (.str _)
    · cases h
  · cases h
end
end Mp

/-! built-in functions of plain data -/
namespace Mp
open PySem PySem.Spec PyProof.Rows L2

section
variable {X : Cx} {K : PySem.W.Frag} {O : Addr → Prop} {H : Hp} {x y z : D}
/-! ### dicts put together -/
theorem any_key {kvs : List (Key × V)} {k : Key} : (kvs.any fun kv => decide (kv.1 = k)) = true ↔ k ∈ kvs.map (·.1) := by
  rw [List.any_eq_true]
  constructor
  · rintro ⟨p, hp, e⟩
    exact List.mem_map.mpr ⟨p, hp, of_decide_eq_true e⟩
  · intro h
    obtain ⟨p, hp, e⟩ := List.mem_map.mp h
    exact ⟨p, hp, decide_eq_true e⟩
theorem put_keys {kvs : List (Key × V)} {k : Key} {v : V} (nd : (kvs.map (·.1)).Nodup) : ((putK kvs k v).map (·.1)).Nodup := by
  unfold putK
  split
  · have e : (kvs.map fun kv => if kv.1 = k then (kv.1, v) else kv).map (·.1) = kvs.map (·.1) := by
      rw [List.map_map]
      refine List.map_congr_left fun p _ => ?_
      show (if p.1 = k then (p.1, v) else p).1 = p.1
      split <;> rfl
    rw [e]
    exact nd
  · rename_i h
    rw [any_key] at h
    rw [List.map_append, List.nodup_append]
    refine ⟨nd, by simp, fun a ha b hb => ?_⟩
    have : b = k := by simpa using hb
    subst this
    rintro rfl
    exact h ha
theorem put_map_id {kvs : List (Key × V)} {k : Key} {v : V} (h : k ∉ kvs.map (·.1)) : (kvs.map fun kv => if kv.1 = k then (kv.1, v) else kv) = kvs := by
  have : (kvs.map fun kv => if kv.1 = k then (kv.1, v) else kv) = kvs.map id := List.map_congr_left fun p hp => by
    rw [if_neg]
    · rfl
    · intro e
      exact h (List.mem_map.mpr ⟨p, hp, e⟩)
  rw [this, List.map_id]
theorem put_rep {v : V} {d : D} (rv : Rep K H O v d) {k : Str} : ∀ {kvs : List (Key × V)} {es : List (D × D)}, RepK K H O kvs es → (kvs.map (·.1)).Nodup → RepK K H O (putK kvs (.inr k) v) (dput es k d)
  | _, _, .nil, _ => .cons rv .nil
  | (k', u) :: kvs, _, .cons (d := e) (ds := es) r t, nd => by
    rw [List.map_cons, List.nodup_cons] at nd
    have ih := put_rep rv (k := k) t nd.2
    by_cases h : k' = .inr k
    · subst h
      have e1 : putK ((Sum.inr k, u) :: kvs) (.inr k) v = (.inr k, v) :: kvs := by
        unfold putK
        rw [if_pos (by simp), List.map_cons, if_pos rfl, put_map_id nd.1]
      have e2 : dput ((kD (.inr k), e) :: es) k d = (kD (.inr k), d) :: es := by
        show (if k = k then (PyData.str k, d) :: es else _) = _
        rw [if_pos rfl]
        rfl
      rw [e1, e2]
      exact .cons rv t
    · have e1 : putK ((k', u) :: kvs) (.inr k) v = (k', u) :: putK kvs (.inr k) v := by
        unfold putK
        rw [List.any_cons, decide_eq_false h, Bool.false_or]
        split
        · rw [List.map_cons, if_neg h]
        · rfl
      have e2 : dput ((kD k', e) :: es) k d = (kD k', e) :: dput es k d := by
        cases k' with
        | inl i => rfl
        | inr x =>
          have hx : ¬ x = k := fun z => h (by rw [z])
          show (if x = k then _ else (PyData.str x, e) :: dput es k d) = _
          rw [if_neg hx]
          rfl
      rw [e1, e2]
      exact .cons r ih
/-- pairs (text, value) as they stand -/
inductive RepP (K : PySem.W.Frag) (H : Hp) (O : Addr → Prop) : List (Key × V) → List (Str × D) → Prop
  | nil : RepP K H O [] []
  | cons {k v d kvs ps} : Rep K H O v d → RepP K H O kvs ps → RepP K H O ((.inr k, v) :: kvs) ((k, d) :: ps)
theorem merge_rep : ∀ {kvs : List (Key × V)} {ps : List (Str × D)}, RepP K H O kvs ps → ∀ {acc : List (Key × V)} {es : List (D × D)}, RepK K H O acc es → (acc.map (·.1)).Nodup →
    RepK K H O (mergeK acc kvs) (ps.foldl (fun kvs p => dput kvs p.1 p.2) es) ∧ ((mergeK acc kvs).map (·.1)).Nodup
  | _, _, .nil, acc, es, r, nd => ⟨r, nd⟩
  | _, _, .cons rv t, acc, es, r, nd => merge_rep t (put_rep rv r nd) (put_keys nd)

/-! ### dict(a tuple of pairs) -/
theorem pairs_of2 {pins : List (Addr × Obj)} {σ : L2.St} {s : Shared} (I : Inv X pins σ H s) : ∀ {xs : List V} {us : List Value} {kvs : List (Key × V)}, Vals xs us → Paired (fun (x : V) (kv : Key × V) => ∃ b, x = .ref b ∧ SqT X.K H b [kV kv.1, kv.2]) xs kvs →
    ∃ (bs : List Addr) (prs : List (Key × Value)) (ws : List (Value × Value)), us = bs.map Value.ref ∧ KV kvs prs ∧ prs.length = bs.length ∧ ws.length = bs.length ∧
      ∀ (j : Nat) (q : Value × Value), ws[j]? = some q → ∃ (b : Addr) (k : Key), bs[j]? = some b ∧ prs[j]? = some (k, q.2) ∧ IsTup s.heap b #[q.1, q.2] ∧ keyIs k q.1 = true
  | _, _, _, .nil, .nil => ⟨[], [], [], rfl, .nil, rfl, rfl, fun j q e => by simp at e⟩
  | _, _, _, .cons ru rs, .cons (b := kv) h t => by
    obtain ⟨bs, prs, ws, e1, e2, e3, e4, e5⟩ := pairs_of2 I rs t
    obtain ⟨b, rfl, hq⟩ := h
    cases ru
    obtain ⟨its, rv, ht, _⟩ := I.tuple hq
    obtain ⟨u, w, ei, hu, hw⟩ := vals2 rv
    subst ei
    refine ⟨b :: bs, (kv.1, w) :: prs, (u, w) :: ws, by rw [e1]; rfl, .cons ⟨rfl, hw⟩ e2, by simp [e3], by simp [e4], fun j q e => ?_⟩
    cases j with
    | zero =>
      have e' : (u, w) = q := Option.some.inj e
      subst e'
      exact ⟨b, kv.1, rfl, rfl, ht, kV_is (P := X.prog) (w := X.w) hu⟩
    | succ j =>
      obtain ⟨b', k', q1, q2, q3, q4⟩ := e5 j q (by simpa using e)
      exact ⟨b', k', by simpa using q1, by simpa using q2, q3, q4⟩
theorem call_dictF (hc : X.calm = true) : CallR X (.type "dict") (fun vs H Q => ∃ a xs kvs, vs = [.ref a] ∧ (TupF H a xs ∨ WrT X.K a xs) ∧ Paired (fun (x : V) (kv : Key × V) => ∃ b, x = .ref b ∧ SqT X.K H b [kV kv.1, kv.2]) xs kvs ∧
    ∀ p o, H p = none → Q (.ref p) (upd H p (.frz o (.dK (mergeK [] kvs))))) := by
  intro pins s σ H vs us Q I r h
  obtain ⟨a, xs, kvs, rfl, hq, hp, q⟩ := h
  obtain ⟨u, rfl, rx⟩ := vals1 r
  cases rx
  obtain ⟨ws, rv, n, o, e1, e2, e3, e4, hz⟩ : ∃ (ws : List Value) (rv : Vals xs ws) (n : Nat) (o : Obj), s.heap.get? a = some o ∧ o.cls = .type "tuple" ∧ o.dict = none ∧ o.data = .seq ws.toArray n ∧ xs.length ≤ sizeLine := by
    rcases hq with ⟨o, e, d⟩ | ⟨o, its, n, h1, h2, h3, h4, h5, h6⟩
    · obtain ⟨e1, hz, its, rv, o', e', hc', n, hd'⟩ := I.hok a _ e
      rw [e1] at e'
      cases e'
      exact ⟨its, rv, n, o, e1, hc', d, hd', hz⟩
    · exact ⟨its.toList, h6, n, o, I.kIn a o h1, h2, h3, by simpa using h4, by rw [Vals.length h6, Array.length_toList]; exact h5⟩
  obtain ⟨bs, prs, ps, f1, f2, f3, f4, f5⟩ := pairs_of2 I rv hp
  subst f1
  have hlen := rv.length
  rw [List.length_map] at hlen
  refine PySem.call_dict_pairs (knd := mixKind X.prog X.w) (kvs := prs) (PairArg.tuple a (bs.map Value.ref).toArray (fun j => bs.getD j 0) ps) (I.ok.hd hc) ⟨⟨o, n, e1, e2, e3, e4⟩, by simp [f4], fun j k v hj => ?_⟩ ⟨f3.trans f4.symm, fun i key v hi => ?_⟩ (by omega) fun h' tk hd' kp => ?_
  · obtain ⟨b, k', g1, g2, g3, g4⟩ := f5 j (k, v) hj
    refine ⟨by simp [g1, List.getD_eq_getElem?_getD], .inl ?_⟩
    have eb : bs.getD j 0 = b := by rw [List.getD_eq_getElem?_getD, g1]; rfl
    show s.heap.IsTuple (bs.getD j 0) #[k, v]
    rw [eb]
    obtain ⟨o', h1, h2, n', h3⟩ := g3
    exact ⟨o', h1, h2, n', h3⟩
  · obtain ⟨b, k', g1, g2, g3, g4⟩ := f5 i (key, v) hi
    exact ⟨k', g2, g4⟩
  · have hm : (s.heap.objs.size == sysModules) = false := beq_eq_false_iff_ne.mpr (Nat.ne_of_gt I.big)
    have hl2 : (mergeK [] kvs).length ≤ sizeLine := by
      have h1 := length_mergeK kvs []
      have h2 : kvs.length = prs.length := Paired.length f2
      rw [List.length_nil] at h1
      omega
    have I1 := I.laid (t' := tk) (fun b o e => kp b o (by simp) e) (Nat.le_refl _) (show ObjOk X.prog X.w _ _ _ (.dK (mergeK [] kvs)) from ⟨hl2, hm, merged [] prs, KV.merge f2 .nil, hd'⟩)
    obtain ⟨od, I2⟩ := I1.lock (d := s.heap.objs.size) (u := .dK (mergeK [] kvs)) upd_same trivial
    have eu : upd (upd H s.heap.objs.size (.dK (mergeK [] kvs))) s.heap.objs.size (.frz od (.dK (mergeK [] kvs))) = upd H s.heap.objs.size (.frz od (.dK (mergeK [] kvs))) := by
      funext b
      by_cases hb : b = s.heap.objs.size
      · subst hb; rw [upd_same, upd_same]
      · rw [upd_ne hb, upd_ne hb, upd_ne hb]
    rw [eu] at I2
    exact ⟨.ref s.heap.objs.size, _, I2, rfl, q _ od (I.hok.fresh (Nat.le_refl _))⟩

/-! ### repr -/
theorem readsE {pins : List (Addr × Obj)} {σ : L2.St} {s : Shared} {a : Addr} (I : Inv X pins σ H s) (hd : Rd H a (.dK [])) : ∃ as, Reads s.heap (.ref a) (.dict []) as ∧ sysModules ∉ as := by
  obtain ⟨hz, hsys, vs, rel, o, es, ep, h1, h2, h3, h4, h5, h6⟩ := hd.ok I.hok
  cases rel
  have he : es.toList = [] := by
    cases h7 : es.toList with
    | nil => rfl
    | cons e r => rw [h7] at h5; cases h5
  refine ⟨_, Reads.dict (kvs := []) h1 h2.1 h3 (by rw [he]; exact .nil) (by rw [he]; exact .nil), ?_⟩
  simpa using Ne.symm (beq_eq_false_iff_ne.mp hsys)
mutual
theorem Rep.readsT {pins : List (Addr × Obj)} {σ : L2.St} {s : Shared} (I : Inv X pins σ H s) : ∀ (d : D) (v : V) (u : Value), Rep X.K H O v d → RelV v u → dtOk d = true → ∃ as, Reads s.heap u d as ∧ sysModules ∉ as
  | .none, _, _, h, r, _ => by
    cases h
    cases r
    exact ⟨_, .none, by simp⟩
  | .bool b, _, _, h, r, _ => by
    cases h
    cases r
    exact ⟨_, .bool b, by simp⟩
  | .int i, _, _, h, r, _ => by
    cases h
    obtain ⟨t, rfl⟩ := r
    exact ⟨_, .int i t, by simp⟩
  | .str i, _, _, h, r, _ => by
    cases h
    obtain ⟨t, rfl⟩ := r
    exact ⟨_, .str i t, by simp⟩
  | .list ds, v, u, h, r, ok => by simp [dtOk] at ok
  | .tuple ds, _, _, h, r, ok => by
    cases h with
    | tup hs ha =>
      cases r
      obtain ⟨its, rv, ⟨o, ho, hc, n, hd⟩, _⟩ := I.tuple (hs.elim (fun z => z.1.sq) fun z => z.sq)
      simp only [dtOk] at ok
      obtain ⟨as, hr, hm⟩ := Reps.readsT I ds _ its ha rv ok
      exact ⟨_, Reads.tuple ho hc hd hr, hm⟩
  | .dict kvs, _, _, h, r, ok => by
    cases h with
    | dct hd no nd rk =>
      cases r
      simp only [dtOk, List.isEmpty_iff] at ok
      subst ok
      cases rk
      exact readsE I (.inr hd)
theorem Reps.readsT {pins : List (Addr × Obj)} {σ : L2.St} {s : Shared} (I : Inv X pins σ H s) : ∀ (ds : List D) (vs : List V) (us : List Value), RepA X.K H O vs ds → Vals vs us → dtOks ds = true → ∃ as, ReadsAll s.heap us ds as ∧ sysModules ∉ as
  | [], _, _, h, r, _ => by
    cases h
    cases r
    exact ⟨_, .nil, by simp⟩
  | d :: ds, _, _, h, r, ok => by
    cases h with
    | cons h1 h2 =>
      cases r with
      | cons r1 r2 =>
        simp only [dtOks, Bool.and_eq_true] at ok
        obtain ⟨as, q1, m1⟩ := Rep.readsT I d _ _ h1 r1 ok.1
        obtain ⟨bs, q2, m2⟩ := Reps.readsT I ds _ _ h2 r2 ok.2
        exact ⟨_, .cons q1 q2, by rw [List.mem_append]; exact fun z => z.elim m1 m2⟩
end
theorem repX_of_ref {v : V} {d : D} (r : RepX K H O v d) (h : d.hasDict = true) (t : dtOk d = true) (O' : Addr → Prop) (al : ∀ a, ¬ O' a) : Rep K H O' v d ∨ ∃ a es, v = .ref a ∧ d = .dict es ∧ es = [] ∧ Rd H a (.dK []) := by
  rcases r with r | ⟨a, rfl, oa, r⟩
  · exact .inl (r.step ⟨fun a z => absurd z (al a), fun _ _ h _ => h⟩)
  · cases r with
    | lst e q => simp [dtOk] at t
    | dct e nd q =>
      simp only [dtOk, List.isEmpty_iff] at t
      subst t
      cases q
      exact .inr ⟨a, [], rfl, rfl, rfl, .inl e⟩
theorem call_reprD (hg : X.A.guards = some []) (hu : X.A.units + 500 < cLine) {d : D} (h1 : reprOk d = true) (h2 : d.showable = true) (h3 : d.shown.length ≤ sizeLine) (h4 : d.depth ≤ DL) :
    CallR X (.builtin "repr") (fun vs H Q => ∃ v O, vs = [v] ∧ RepX X.K H O v d ∧ Q (.str d.shown) H) := by
  intro pins s σ H vs us Q I r q
  obtain ⟨v, O, rfl, rx, q⟩ := q
  obtain ⟨u, rfl, ru⟩ := vals1 r
  have fin : ∀ (h' : Heap) (u : Tok) (tk : Nat), (∀ b o, s.heap.get? b = some o → h'.get? b = some o) → EP X pins σ Q (.str d.shown u) { s with heap := h', toks := tk } := fun h' u tk k => ⟨.str d.shown, H, I.kept (t' := tk) k, ⟨u, rfl⟩, q⟩
  have key : ∀ as (a : Addr), u = .ref a → Reads s.heap u d as → (d.hasDict = true → sysModules ∉ as) → wpAny (model X.prog X.w) X.A (call (.builtin "repr") [u]) (EP X pins σ Q) X.xe s := fun as a e rd hm => by
    subst e
    unfold DL at h4
    exact repr_of_reads' rd h2 hm hg (by omega) (fun _ _ e => e) fin h3
  cases d with
  | none =>
    cases rx.none
    cases ru
    have e : (PyData.none).shown = ("None" : Str) := PyData.shown_none
    rw [e] at q h3
    exact PySem.P.repr_of_none ⟨.str _, H, I.tok _, ⟨_, rfl⟩, q⟩
  | bool b =>
    cases rx.bool
    cases ru
    have e : (PyData.bool b).shown = (if b then ("True" : Str) else ("False" : Str)) := by rw [PyData.shown_bool]
    rw [e] at q h3
    exact PySem.P.repr_of_bool ⟨.str _, H, I.tok _, ⟨_, rfl⟩, q⟩
  | int i =>
    cases rx.int
    obtain ⟨t, rfl⟩ := ru
    rw [PyData.shown_int] at q h3
    exact PySem.P.repr_of_int (by simpa [PyData.showable] using h2) ⟨.str _, H, I.tok _, ⟨_, rfl⟩, q⟩
  | str x =>
    cases rx.str
    obtain ⟨t, rfl⟩ := ru
    rw [PyData.shown_str] at q h3
    exact PySem.P.repr_of_str ⟨.str _, H, I.tok _, ⟨_, rfl⟩, q⟩ h3
  | list ds =>
    have nd : PyData.hasDict (.list ds) = false := by simpa [reprOk, dtOk] using h1
    obtain ⟨a, xs, rfl, sx, qx⟩ := rx.list
    have dp : Dp X.K H (.ref a) (.list ds) := .lst sx.sq (qx.dp (by simpa [PyData.hasDict] using nd))
    obtain ⟨as, rd⟩ := Dp.reads I _ _ u dp ru
    exact key as a ru rd fun z => by rw [nd] at z; cases z
  | tuple ds =>
    obtain ⟨a, xs, rfl, sx, qx, rp⟩ := rx.tuple
    by_cases hd : PyData.hasDict (.tuple ds) = true
    · have ht : dtOk (.tuple ds) = true := by simpa [reprOk, hd] using h1
      obtain ⟨as, rd, hm⟩ := Rep.readsT I _ _ u rp ru ht
      exact key as a ru rd fun _ => hm
    · have nd : PyData.hasDict (.tuple ds) = false := by simpa using hd
      obtain ⟨as, rd⟩ := Dp.reads I _ _ u (rp.dp nd) ru
      exact key as a ru rd fun z => by rw [nd] at z; cases z
  | dict kvs =>
    obtain ⟨a, ks, rfl, sx, nd, qx⟩ := rx.dict
    have ht : dtOk (.dict kvs) = true := by simpa [reprOk, PyData.hasDict] using h1
    simp only [dtOk, List.isEmpty_iff] at ht
    subst ht
    cases qx
    cases ru
    obtain ⟨as, rd, hm⟩ := readsE I sx
    exact key as a rfl rd fun _ => hm

/-! ### the functions -/
theorem RepXs.one {v : List V} {d : D} (r : RepXs K H O v [d]) : ∃ x, v = [x] ∧ RepX K H O x d := by
  cases r with
  | cons a b => cases b; exact ⟨_, rfl, a⟩
theorem RepXs.two {v : List V} {d e : D} (r : RepXs K H O v [d, e]) : ∃ x y, v = [x, y] ∧ RepX K H O x d ∧ RepX K H O y e := by
  cases r with
  | cons a b =>
    cases b with
    | cons a' b' => cases b'; exact ⟨_, _, rfl, a, a'⟩
theorem ints_rep : ∀ {vs : List V} {ds : List D} {ns : List Int}, RepA K H O vs ds → intsOf ds = some ns → vs = ns.map V.int
  | _, _, _, .nil, e => by cases e; rfl
  | _, .int i :: ds, ns, .cons r t, e => by
    obtain ⟨ms, e1, rfl⟩ := Option.map_eq_some_iff.mp e
    cases r
    rw [ints_rep t e1]; rfl
  | _, .none :: _, _, .cons _ _, e => by cases e
  | _, .bool _ :: _, _, .cons _ _, e => by cases e
  | _, .str _ :: _, _, .cons _ _, e => by cases e
  | _, .list _ :: _, _, .cons _ _, e => by cases e
  | _, .tuple _ :: _, _, .cons _ _, e => by cases e
  | _, .dict _ :: _, _, .cons _ _, e => by cases e
theorem bools_rep : ∀ {vs : List V} {ds : List D} {ns : List Bool}, RepA K H O vs ds → boolsOf ds = some ns → vs = ns.map V.bl
  | _, _, _, .nil, e => by cases e; rfl
  | _, .bool i :: ds, ns, .cons r t, e => by
    obtain ⟨ms, e1, rfl⟩ := Option.map_eq_some_iff.mp e
    cases r
    rw [bools_rep t e1]; rfl
  | _, .none :: _, _, .cons _ _, e => by cases e
  | _, .int _ :: _, _, .cons _ _, e => by cases e
  | _, .str _ :: _, _, .cons _ _, e => by cases e
  | _, .list _ :: _, _, .cons _ _, e => by cases e
  | _, .tuple _ :: _, _, .cons _ _, e => by cases e
  | _, .dict _ :: _, _, .cons _ _, e => by cases e
theorem pairs_rep (al : Al O H) : ∀ {vs : List V} {ds : List D} {ps : List (Str × D)}, RepA K H O vs ds → pairsOf ds = some ps → ∃ kvs, Paired (fun (x : V) (kv : Key × V) => ∃ b, x = .ref b ∧ SqT K H b [kV kv.1, kv.2]) vs kvs ∧ RepP K H O kvs ps
  | _, _, _, .nil, e => by cases e; exact ⟨[], .nil, .nil⟩
  | _, .tuple [.str k, v] :: ds, ps, .cons r t, e => by
    obtain ⟨qs, e1, rfl⟩ := Option.map_eq_some_iff.mp e
    obtain ⟨kvs, h1, h2⟩ := pairs_rep al t e1
    obtain ⟨a, xs, rfl, sx, qx, _⟩ := RepX.tuple (.inl r)
    cases qx with
    | cons a1 b1 =>
      cases b1 with
      | cons a2 b2 =>
        cases b2
        cases a1
        exact ⟨(.inr k, _) :: kvs, .cons ⟨a, rfl, sx⟩ h1, .cons a2 h2⟩
  | _, .none :: _, _, .cons _ _, e => by cases e
  | _, .bool _ :: _, _, .cons _ _, e => by cases e
  | _, .int _ :: _, _, .cons _ _, e => by cases e
  | _, .str _ :: _, _, .cons _ _, e => by cases e
  | _, .list _ :: _, _, .cons _ _, e => by cases e
  | _, .dict _ :: _, _, .cons _ _, e => by cases e
  | _, .tuple [] :: _, _, .cons _ _, e => by cases e
  | _, .tuple [_] :: _, _, .cons _ _, e => by simp [pairsOf] at e
  | _, .tuple (_ :: _ :: _ :: _) :: _, _, .cons _ _, e => by simp [pairsOf] at e
  | _, .tuple [.none, _] :: _, _, .cons _ _, e => by simp [pairsOf] at e
  | _, .tuple [.bool _, _] :: _, _, .cons _ _, e => by simp [pairsOf] at e
  | _, .tuple [.int _, _] :: _, _, .cons _ _, e => by simp [pairsOf] at e
  | _, .tuple [.list _, _] :: _, _, .cons _ _, e => by simp [pairsOf] at e
  | _, .tuple [.tuple _, _] :: _, _, .cons _ _, e => by simp [pairsOf] at e
  | _, .tuple [.dict _, _] :: _, _, .cons _ _, e => by simp [pairsOf] at e
theorem keys_rep : ∀ {kvs : List (Key × V)} {es : List (D × D)}, RepK K H O kvs es → RepA K H O (kvs.map fun kv => kV kv.1) (es.map (·.1))
  | _, _, .nil => .nil
  | (k, _) :: _, _, .cons _ t => .cons (by cases k with | inl i => exact .int i | inr x => exact .str x) (keys_rep t)
theorem repk_len : ∀ {kvs : List (Key × V)} {es : List (D × D)}, RepK K H O kvs es → kvs.length = es.length
  | _, _, .nil => rfl
  | _, _, .cons _ t => by rw [List.length_cons, List.length_cons, repk_len t]

theorem TupF.or_wr {a : Addr} {ds : List D} (r : Rep K H O (.ref a) (.tuple ds)) : ∃ xs, (TupF H a xs ∨ WrT K a xs) ∧ RepA K H O xs ds := by
  cases r with
  | tup h q => exact ⟨_, h.imp (fun z => z.1) (fun z => z), q⟩
/-- the function's value, and whether it is a type -/
def prV : Pr → Option (Bool × String)
  | .len => some (false, "len")
  | .list => some (true, "list")
  | .tuple => some (true, "tuple")
  | .dict => some (true, "dict")
  | .sum => some (false, "sum")
  | .min => some (false, "min")
  | .max => some (false, "max")
  | .all => some (false, "all")
  | .any => some (false, "any")
  | .abs => some (false, "abs")
  | .int => some (true, "int")
  | .repr => some (false, "repr")
  | .str => some (true, "str")
  | _ => none
def prVal (p : Bool × String) : Value := if p.1 then .type p.2 else .builtin p.2
theorem min_mem : ∀ (ns : List Int) (a : Int), (ns.foldl (fun a b => if b < a then b else a) a = a ∨ ns.foldl (fun a b => if b < a then b else a) a ∈ ns) ∧ ns.foldl (fun a b => if b < a then b else a) a ≤ a ∧ ∀ y ∈ ns, ns.foldl (fun a b => if b < a then b else a) a ≤ y
  | [], a => ⟨.inl rfl, Int.le_refl _, fun y h => by cases h⟩
  | x :: xs, a => by
    obtain ⟨h1, h2, h3⟩ := min_mem xs (if x < a then x else a)
    rw [List.foldl_cons]
    refine ⟨?_, ?_, fun y hy => ?_⟩
    · rcases h1 with h1 | h1
      · rw [h1]
        split
        · exact .inr (List.mem_cons_self)
        · exact .inl rfl
      · exact .inr (List.mem_cons_of_mem _ h1)
    · have hb : (if x < a then x else a) ≤ a := by split <;> omega
      omega
    · rcases List.mem_cons.mp hy with rfl | hy
      · have hb : (if y < a then y else a) ≤ y := by split <;> omega
        omega
      · exact h3 y hy
theorem max_mem : ∀ (ns : List Int) (a : Int), (ns.foldl (fun a b => if b > a then b else a) a = a ∨ ns.foldl (fun a b => if b > a then b else a) a ∈ ns) ∧ a ≤ ns.foldl (fun a b => if b > a then b else a) a ∧ ∀ y ∈ ns, y ≤ ns.foldl (fun a b => if b > a then b else a) a
  | [], a => ⟨.inl rfl, Int.le_refl _, fun y h => by cases h⟩
  | x :: xs, a => by
    obtain ⟨h1, h2, h3⟩ := max_mem xs (if x > a then x else a)
    rw [List.foldl_cons]
    refine ⟨?_, ?_, fun y hy => ?_⟩
    · rcases h1 with h1 | h1
      · rw [h1]
        split
        · exact .inr (List.mem_cons_self)
        · exact .inl rfl
      · exact .inr (List.mem_cons_of_mem _ h1)
    · have hb : a ≤ (if x > a then x else a) := by split <;> omega
      omega
    · rcases List.mem_cons.mp hy with rfl | hy
      · have hb : y ≤ (if y > a then y else a) := by split <;> omega
        omega
      · exact h3 y hy
theorem minI_least {ns : List Int} {m : Int} (h : m ∈ ns) (hm : ∀ y ∈ ns, m ≤ y) : m = minI ns := by
  cases ns with
  | nil => cases h
  | cons x xs =>
    obtain ⟨h1, h2, h3⟩ := min_mem xs x
    have a : minI (x :: xs) ≤ m := by
      rcases List.mem_cons.mp h with rfl | h
      · exact h2
      · exact h3 m h
    have b : m ≤ minI (x :: xs) := by
      refine hm _ ?_
      rcases h1 with h1 | h1
      · show xs.foldl (fun a b => if b < a then b else a) x ∈ x :: xs
        rw [h1]; exact List.mem_cons_self
      · exact List.mem_cons_of_mem _ h1
    omega
theorem maxI_most {ns : List Int} {m : Int} (h : m ∈ ns) (hm : ∀ y ∈ ns, y ≤ m) : m = maxI ns := by
  cases ns with
  | nil => cases h
  | cons x xs =>
    obtain ⟨h1, h2, h3⟩ := max_mem xs x
    have a : m ≤ maxI (x :: xs) := by
      rcases List.mem_cons.mp h with rfl | h
      · exact h2
      · exact h3 m h
    have b : maxI (x :: xs) ≤ m := by
      refine hm _ ?_
      rcases h1 with h1 | h1
      · show xs.foldl (fun a b => if b > a then b else a) x ∈ x :: xs
        rw [h1]; exact List.mem_cons_self
      · exact List.mem_cons_of_mem _ h1
    omega
theorem prim_sem (hg : X.A.guards = some []) (hu : X.A.units + 500 < cLine) (hc : X.calm = true) {p : Pr} {pv : Bool × String} (hp : prV p = some pv) {ds : List D} (h : prim p ds = some z) : ∃ rr, CallR X (prVal pv) rr ∧ SemN X.K rr ds z := by
  unfold prim at h
  split at h
  · cases h
    cases hp
    refine ⟨_, L2.call_len_seq, fun vs H O Q al rx q => ?_⟩
    obtain ⟨v, rfl, r⟩ := rx.one
    obtain ⟨a, xs, rfl, sx, qx⟩ := r.list
    refine ⟨a, xs, rfl, .inl sx.sq, ?_⟩
    rw [qx.length]
    exact q _ _ (fun _ _ h => h) (.int _)
  · cases h
    cases hp
    refine ⟨_, L2.call_len_seq, fun vs H O Q al rx q => ?_⟩
    obtain ⟨v, rfl, r⟩ := rx.one
    obtain ⟨a, xs, rfl, sx, qx, _⟩ := r.tuple
    refine ⟨a, xs, rfl, .inr sx, ?_⟩
    rw [qx.length]
    exact q _ _ (fun _ _ h => h) (.int _)
  · split at h
    · rename_i hz
      cases h
      cases hp
      refine ⟨_, L2.call_len_str, fun vs H O Q al rx q => ?_⟩
      obtain ⟨v, rfl, r⟩ := rx.one
      exact ⟨_, by rw [r.str], hz, q _ _ (fun _ _ h => h) (.int _)⟩
    · cases h
  · cases h
    cases hp
    refine ⟨fun vs H Q => ∃ a kvs, vs = [V.ref a] ∧ Rd H a (.dK kvs) ∧ Q (.int kvs.length) H, ?_, fun vs H O Q al rx q => ?_⟩
    · intro pins s σ H vs us Q I r h
      obtain ⟨a, kvs, rfl, e, q⟩ := h
      obtain ⟨u, rfl, ru⟩ := vals1 r
      cases ru
      exact d_len I e fun t s' I' => ⟨.int kvs.length, H, I', ⟨t, rfl⟩, q⟩
    · obtain ⟨v, rfl, r⟩ := rx.one
      obtain ⟨a, kvs, rfl, sx, nd, qx⟩ := r.dict
      refine ⟨a, kvs, rfl, sx, ?_⟩
      rw [repk_len qx]
      exact q _ _ (fun _ _ h => h) (.int _)
  · cases h
    cases hp
    refine ⟨_, L2.call_list_of, fun vs H O Q al rx q => ?_⟩
    obtain ⟨v, rfl, r⟩ := rx.one
    obtain ⟨a, xs, rfl, sx, qx⟩ := r.list
    exact ⟨a, xs, rfl, .inl sx.sq, fun l nl => q _ _ (same_upd' nl) (rep_new_lst al nl qx)⟩
  · cases h
    cases hp
    refine ⟨_, L2.call_list_of, fun vs H O Q al rx q => ?_⟩
    obtain ⟨v, rfl, r⟩ := rx.one
    obtain ⟨a, xs, rfl, sx, qx, _⟩ := r.tuple
    exact ⟨a, xs, rfl, .inr sx, fun l nl => q _ _ (same_upd' nl) (rep_new_lst al nl qx)⟩
  · cases h
    cases hp
    refine ⟨_, L2.call_listD hc, fun vs H O Q al rx q => ?_⟩
    obtain ⟨v, rfl, r⟩ := rx.one
    obtain ⟨a, kvs, rfl, sx, nd, qx⟩ := r.dict
    exact ⟨a, kvs, rfl, sx, fun l nl => q _ _ (same_upd' nl) (rep_new_lst al nl (keys_rep qx))⟩
  · cases h
    cases hp
    refine ⟨_, call_tupF, fun vs H O Q al rx q => ?_⟩
    obtain ⟨v, rfl, r⟩ := rx.one
    obtain ⟨a, xs, rfl, sx, qx⟩ := r.list
    exact ⟨a, xs, rfl, sx.sq, fun p o nl d => q _ _ (same_upd' nl) (rep_new_tup al nl d qx)⟩
  · cases h
    cases hp
    refine ⟨_, L2.call_tupleT, fun vs H O Q al rx q => ?_⟩
    obtain ⟨v, rfl, r⟩ := rx.one
    obtain ⟨a, xs, rfl, sx, qx, rp⟩ := r.tuple
    exact ⟨a, xs, rfl, sx, q _ _ (fun _ _ h => h) rp⟩
  · obtain ⟨ps, e, rfl⟩ := Option.map_eq_some_iff.mp h
    cases hp
    refine ⟨_, call_dictF hc, fun vs H O Q al rx q => ?_⟩
    obtain ⟨v, rfl, r⟩ := rx.one
    obtain ⟨a, _, rfl, _, _, rp⟩ := r.tuple
    obtain ⟨xs, hx, qx⟩ := TupF.or_wr rp
    obtain ⟨kvs, h1, h2⟩ := pairs_rep al qx e
    obtain ⟨m1, m2⟩ := merge_rep h2 (acc := []) (es := []) .nil List.nodup_nil
    exact ⟨a, xs, kvs, rfl, hx, h1, fun p o np => q _ _ (same_upd' np) (rep_new_dct al np m2 m1)⟩
  · obtain ⟨ns, e, rfl⟩ := Option.map_eq_some_iff.mp h
    cases hp
    refine ⟨_, L2.cr_sum hc, fun vs H O Q al rx q => ?_⟩
    obtain ⟨v, rfl, r⟩ := rx.one
    obtain ⟨a, xs, rfl, sx, qx⟩ := r.list
    exact ⟨a, ns, rfl, by rw [← ints_rep qx e]; exact sx.sq, q _ _ (fun _ _ h => h) (.int _)⟩
  · obtain ⟨ns, e, h⟩ := Option.bind_eq_some_iff.mp h
    split at h
    · cases h
    · rename_i hn
      cases h
      cases hp
      refine ⟨_, L2.cr_min hc, fun vs H O Q al rx q => ?_⟩
      obtain ⟨v, rfl, r⟩ := rx.one
      obtain ⟨a, xs, rfl, sx, qx⟩ := r.list
      refine ⟨a, ns, rfl, by rw [← ints_rep qx e]; exact sx.sq, List.length_pos_iff.mpr hn, fun m h1 h2 => ?_⟩
      rw [minI_least h1 h2]
      exact q _ _ (fun _ _ h => h) (.int _)
  · obtain ⟨ns, e, h⟩ := Option.bind_eq_some_iff.mp h
    split at h
    · cases h
    · rename_i hn
      cases h
      cases hp
      refine ⟨_, L2.cr_max hc, fun vs H O Q al rx q => ?_⟩
      obtain ⟨v, rfl, r⟩ := rx.one
      obtain ⟨a, xs, rfl, sx, qx⟩ := r.list
      refine ⟨a, ns, rfl, by rw [← ints_rep qx e]; exact sx.sq, List.length_pos_iff.mpr hn, fun m h1 h2 => ?_⟩
      rw [maxI_most h1 h2]
      exact q _ _ (fun _ _ h => h) (.int _)
  · cases h
    cases hp
    refine ⟨_, L2.call_min2 hc, fun vs H O Q al rx q => ?_⟩
    obtain ⟨v, w, rfl, r1, r2⟩ := rx.two
    exact ⟨_, _, by rw [r1.int, r2.int], q _ _ (fun _ _ h => h) (.int _)⟩
  · cases h
    cases hp
    refine ⟨_, L2.call_max2 hc, fun vs H O Q al rx q => ?_⟩
    obtain ⟨v, w, rfl, r1, r2⟩ := rx.two
    exact ⟨_, _, by rw [r1.int, r2.int], q _ _ (fun _ _ h => h) (.int _)⟩
  · obtain ⟨ns, e, rfl⟩ := Option.map_eq_some_iff.mp h
    cases hp
    refine ⟨_, L2.cr_all hc, fun vs H O Q al rx q => ?_⟩
    obtain ⟨v, rfl, r⟩ := rx.one
    obtain ⟨a, xs, rfl, sx, qx⟩ := r.list
    exact ⟨a, ns, rfl, by rw [← bools_rep qx e]; exact sx.sq, q _ _ (fun _ _ h => h) (.bl _)⟩
  · obtain ⟨ns, e, rfl⟩ := Option.map_eq_some_iff.mp h
    cases hp
    refine ⟨_, L2.cr_any hc, fun vs H O Q al rx q => ?_⟩
    obtain ⟨v, rfl, r⟩ := rx.one
    obtain ⟨a, xs, rfl, sx, qx⟩ := r.list
    exact ⟨a, ns, rfl, by rw [← bools_rep qx e]; exact sx.sq, q _ _ (fun _ _ h => h) (.bl _)⟩
  · cases h
    cases hp
    refine ⟨_, L2.call_abs, fun vs H O Q al rx q => ?_⟩
    obtain ⟨v, rfl, r⟩ := rx.one
    exact ⟨_, by rw [r.int], q _ _ (fun _ _ h => h) (.int _)⟩
  · cases h
    cases hp
    refine ⟨_, L2.call_int1, fun vs H O Q al rx q => ?_⟩
    obtain ⟨v, rfl, r⟩ := rx.one
    exact .inl ⟨_, by rw [r.int], q _ _ (fun _ _ h => h) (.int _)⟩
  · cases h
    cases hp
    refine ⟨_, L2.call_int1, fun vs H O Q al rx q => ?_⟩
    obtain ⟨v, rfl, r⟩ := rx.one
    exact .inr ⟨_, by rw [r.bool], q _ _ (fun _ _ h => h) (.int _)⟩
  · split at h
    · rename_i hz
      cases h
      cases hp
      refine ⟨_, call_reprD hg hu hz.1 hz.2.1 hz.2.2.1 hz.2.2.2, fun vs H O Q al rx q => ?_⟩
      obtain ⟨v, rfl, r⟩ := rx.one
      exact ⟨v, O, rfl, r, q _ _ (fun _ _ h => h) (.str _)⟩
    · cases h
  · split at h
    · rename_i hz
      cases h
      cases hp
      refine ⟨_, L2.call_str_int, fun vs H O Q al rx q => ?_⟩
      obtain ⟨v, rfl, r⟩ := rx.one
      exact ⟨_, by rw [r.int], hz, q _ _ (fun _ _ h => h) (.str _)⟩
    · cases h
  · cases h
    cases hp
    refine ⟨_, SkE.call_str_str, fun vs H O Q al rx q => ?_⟩
    obtain ⟨v, rfl, r⟩ := rx.one
    exact ⟨_, by rw [r.str], q _ _ (fun _ _ h => h) (.str _)⟩
  · cases hp
  · cases hp
  · cases h
end
end Mp

/-! expressions, view by view -/
namespace Mp
open PySem PySem.Spec PyProof.Rows L2

abbrev NoStar (e : Expr) : Prop := ∀ (es : List Expr) (env : PySem.Env), starEach (e :: es) env = (false, eval e env) :: starEach es env
theorem starEach_eq : ∀ {es : List Expr} {env : PySem.Env}, (∀ e ∈ es, NoStar e) → starEach es env = es.map fun e => (false, eval e env)
  | [], _, _ => rfl
  | e :: es, env, h => by
    rw [h e List.mem_cons_self es env, starEach_eq fun e he => h e (List.mem_cons_of_mem _ he)]
    rfl
theorem noStars {es : List Expr} {env : PySem.Env} {pos : Pos} (h : ∀ e ∈ es, NoStar e) : (backTo pos (starEach es env)).any (·.1) = false := by
  rw [starEach_eq h]
  unfold backTo
  rw [List.map_map]
  induction es with
  | nil => rfl
  | cons e es ih =>
    rw [List.map_cons, List.any_cons, ih fun e he => h e (List.mem_cons_of_mem _ he)]
    rfl
abbrev PlainTest (X : Cx) (e : Expr) : Prop := ∀ whole, isTrue e X.env whole = (do let v ← whole; standAt e.pos; holding [v] (truthy v))

/-- an expression's view, shown -/
structure SV (X : Cx) (c : Cf) (ec : Ec) (e : Expr) (w : View) : Prop where
  pe : PE X e (tD c w.e)
  po : PE X e (tO c (w.o ec))
  pt : PT X e (tTm c w.t)
  pi : ∀ tg, PI X tg e (tI c w.i)
  pl : ∀ l, w.l = some l → PE X e (tF c (listE l))
  pv : ∀ i, w.v = some i → ∃ x pos, e = Expr.Name x pos ∧ PE X (Expr.Name x pos) (tVar i) ∧ X.N[i]? = some x
  st : NoStar e
  pp : w.p = asP w.e
  nf : ∀ env x, foldedSetIterable e env x = pure x

section
variable {X : Cx} {c : Cf} {ec : Ec} {O O' : Addr → Prop} {r r' : Env} {σ : L2.St} {H H' : Hp} {e a b : Expr} {m : EM} {w wa wb : View} {pos : Pos}
theorem asT_some {b : Bool} {r r' : Env} (h : asT m r = some (b, r')) : m r = some (.bool b, r') := by
  unfold asT at h
  obtain ⟨⟨d, r1⟩, e1, h⟩ := Option.bind_eq_some_iff.mp h
  cases d <;> simp at h
  obtain ⟨rfl, rfl⟩ := h
  exact e1
theorem asP_some {b : Option Int} {r r' : Env} (h : asP m r = some (b, r')) : ∃ i, b = some i ∧ m r = some (.int i, r') := by
  unfold asP at h
  obtain ⟨⟨d, r1⟩, e1, h⟩ := Option.bind_eq_some_iff.mp h
  cases d <;> simp at h
  obtain ⟨rfl, rfl⟩ := h
  exact ⟨_, rfl, e1⟩
/-- lists, tuples, texts are walked -/
theorem lst_rd {K : PySem.W.Frag} {a : Addr} {xs : List V} (s : Step O H O' H') (h : (Rd H a (.lst xs) ∧ ¬ O a) ∨ WrL K a xs) : SqL K H' a xs := by
  rcases h with ⟨h, n⟩ | h
  · exact .inl (s.rd h n).1
  · exact h.sq
theorem wk_list {a : Addr} {xs : List V} {ds : List D} (h : (Rd H a (.lst xs) ∧ ¬ O a) ∨ WrL c.K a xs) (q : RepA c.K H O xs ds) : Wk c (Itl c.K a) O H σ ⟨ds, none⟩ := by
  intro c2 _ _ i O2 H2 r2 σ2 s R2 _ _
  have h2 := lst_rd s h
  have q2 := q.step s
  have hl := q2.length
  refine ⟨fun hi => ?_, fun hi => ⟨xs, h2, by show xs.length ≤ i; rw [hl]; exact hi⟩, fun x H' y d hd => ?_⟩
  · have hi' : i < xs.length := by rw [hl]; exact hi
    exact ⟨xs, xs[i], h2, by simp [hi']⟩
  · obtain ⟨rfl, y⟩ := y
    obtain ⟨v, e1, e2⟩ := q2.get hd
    have := y xs h2
    rw [e1] at this
    cases this
    exact ⟨fun _ _ h => h, e2⟩
theorem tup_rd {K : PySem.W.Frag} {a : Addr} {xs : List V} (s : Step O H O' H') (h : (TupF H a xs ∧ ¬ O a) ∨ WrT K a xs) : SqT K H' a xs := by
  rcases h with ⟨h, n⟩ | h
  · exact (s.tupF h n).1.sq
  · exact h.sq
theorem wk_tup {a : Addr} {ds : List D} (h : Rep c.K H O (.ref a) (.tuple ds)) : (∃ xs, SqT c.K H a xs) ∧ Wk c (Itt c.K a) O H σ ⟨ds, none⟩ := by
  cases h with
  | tup hh q =>
    rename_i xs
    refine ⟨⟨xs, tup_rd Step.refl hh⟩, ?_⟩
    intro c2 _ _ i O2 H2 r2 σ2 s R2 _ _
    have h2 := tup_rd s hh
    have q2 := q.step s
    have hl := q2.length
    refine ⟨fun hi => ?_, fun hi => ⟨xs, h2, by show xs.length ≤ i; rw [hl]; exact hi⟩, fun x H' y d hd => ?_⟩
    · have hi' : i < xs.length := by rw [hl]; exact hi
      exact ⟨xs, xs[i], h2, by simp [hi']⟩
    · obtain ⟨rfl, y⟩ := y
      obtain ⟨v, e1, e2⟩ := q2.get hd
      have := y xs h2
      rw [e1] at this
      cases this
      exact ⟨fun _ _ h => h, e2⟩
theorem wk_str {x : Str} : Wk c (L2.Its x) O H σ ⟨x.cps.toList.map fun k => .str ⟨#[k]⟩, none⟩ := by
  intro c2 _ _ i O2 H2 r2 σ2 s R2 _ _
  refine ⟨fun hi => by simpa [L2.Its] using hi, fun hi => by simpa [L2.Its] using hi, fun y H' q d hd => ?_⟩
  obtain ⟨rfl, k, e1, rfl⟩ := q
  rw [List.getElem?_map, Array.getElem?_toList, e1] at hd
  cases hd
  exact ⟨fun _ _ h => h, .str _⟩
theorem wk_dict {a : Addr} {o : Obj} {kvs : List (Key × V)} {es : List (D × D)} (h : H a = some (.frz o (.dK kvs))) (n : ¬ O a) (q : RepK c.K H O kvs es) : Wk c (Itk a o kvs) O H σ ⟨es.map (·.1), none⟩ := by
  intro c2 _ _ i O2 H2 r2 σ2 s R2 _ _
  have h2 := s.keep _ _ h n
  have hl := repk_len q
  have kr := keys_rep (q.step s)
  refine ⟨fun hi => ⟨h2, by rw [hl]; simpa using hi⟩, fun hi => ⟨h2, by rw [hl]; simpa using hi⟩, fun x H' y d hd => ?_⟩
  obtain ⟨rfl, k, v, e1, rfl⟩ := y
  obtain ⟨u, e2, e3⟩ := kr.get hd
  rw [List.getElem?_map, e1] at e2
  cases e2
  exact ⟨fun _ _ h => h, e3⟩
/-- the things walked by value -/
theorem pi_val (h : PE X e (tD c m)) (hK : X.K = c.K) (tg : Expr) : PI X tg e (tI c (asI fun r => (m r).map fun p => (.val p.1, p.2))) := by
  refine PI.pick fun σ H Q ⟨O, r, t, r', R0, em, q⟩ => ?_
  unfold asI at em
  obtain ⟨⟨o, r1⟩, e1, e2⟩ := Option.bind_eq_some_iff.mp em
  obtain ⟨⟨d, r2⟩, e3, e4⟩ := Option.map_eq_some_iff.mp e1
  cases e4
  obtain ⟨t', e5, e6⟩ := Option.map_eq_some_iff.mp e2
  cases e6
  cases d with
  | list ds =>
    cases e5
    refine ⟨_, pi_list h, O, r, _, _, R0, e3, fun v H' O' s R1 rv => ?_⟩
    cases rv with
    | lst h1 h3 =>
      rw [hK]
      exact ⟨_, rfl, ⟨_, lst_rd Step.refl h1⟩, q _ _ O' s R1 (wk_list h1 h3)⟩
  | tuple ds =>
    cases e5
    refine ⟨_, pi_tup h, O, r, _, _, R0, e3, fun v H' O' s R1 rv => ?_⟩
    cases v with
    | ref a =>
      obtain ⟨h1, h2⟩ := wk_tup (σ := σ) rv
      rw [hK]
      exact ⟨_, rfl, h1, q _ _ O' s R1 h2⟩
    | _ => cases rv
  | str x =>
    unfold itsOf at e5
    simp only at e5
    split at e5
    · cases e5
      refine ⟨_, pi_str h, O, r, _, _, R0, e3, fun v H' O' s R1 rv => ?_⟩
      cases rv
      exact ⟨_, rfl, q _ _ O' s R1 wk_str⟩
    · cases e5
  | none => cases e5
  | bool _ => cases e5
  | int _ => cases e5
  | dict kvs =>
    cases e5
    refine ⟨_, pi_keys h, O, r, _, _, R0, e3, fun v H' O' s R1 rv => ?_⟩
    cases rv with
    | dct h1 n nd q1 =>
      obtain ⟨o, h1⟩ := h1
      exact ⟨_, o, rfl, .inl ⟨_, h1, q _ _ O' s R1 (wk_dict h1 n q1)⟩⟩
theorem po_val (h : PE X e (tD c m)) : PE X e (tO c fun r => (m r).map fun p => (.val p.1, p.2)) := PE.imp h fun σ H Q ⟨O, r, o, r', R0, em, q⟩ => by
  obtain ⟨⟨d, r2⟩, e3, e4⟩ := Option.map_eq_some_iff.mp em
  cases e4
  exact ⟨O, r, d, _, R0, e3, fun v H' O' s R1 rv => q v H' O' s R1 rv⟩
theorem pt_bool (h : PE X e (tD c m)) (ht : PlainTest X e) : PT X e (tTm c (asT m)) := PT.imp (pt_val h ht) fun σ H Q ⟨O, r, b, r', R0, em, q⟩ =>
  ⟨O, r, .bool b, r', R0, asT_some em, fun v H' O' s R1 rv => ⟨b, RepX.bool (.inl rv), q H' O' s R1⟩⟩
theorem plainSV (hK : X.K = c.K) (h : PE X e (tD c m)) (ht : PlainTest X e) (st : NoStar e) (nf : ∀ env x, foldedSetIterable e env x = pure x) : SV X c ec e (plainV m) :=
  ⟨h, po_val h, pt_bool h ht, pi_val h hK, fun _ q => (by cases q), fun _ q => (by cases q), st, rfl, nf⟩

/-! names -/
theorem varSV (hK : X.K = c.K) (hm : ec.md = c.md) {i : Nat} {x : Str} (hN : X.N[i]? = some x) (h : PE X (.Name x pos) (tVar i)) : SV X c ec (.Name x pos) (varV ec i) := by
  have md : ∀ j, ec.mode j = c.mode j := fun j => by unfold Ec.mode Cf.mode; rw [hm]
  have he : PE X (.Name x pos) (tD c (varE ec i)) := PE.ghost h fun σ H Q ⟨O, r, d, r', R0, em, q⟩ => by
    unfold varE at em
    obtain ⟨d', e1, e2⟩ := Option.bind_eq_some_iff.mp em
    rw [md] at e2
    cases hmd : c.mode i with
    | fz =>
      rw [hmd] at e2
      cases e2
      obtain ⟨v, f1, f2⟩ := R0.fz i _ e1 hmd
      exact ⟨v, f1, .inl (q v H O Step.refl R0 f2)⟩
    | ow =>
      rw [hmd] at e2
      cases e2
      obtain ⟨a, f1, oa, n0, h0, b, R1, oc⟩ := R0.takeO hmd e1
      refine ⟨.ref a, f1, ?_⟩
      rcases oc.given oa (Q := fun H2 => Q (.ref a) H2) fun H2 hH rep => (by
        obtain ⟨s2, R2⟩ := R1.letGo' b n0 h0 oa hH
        exact q _ _ _ s2 R2 rep) with z | ⟨u, e, m, z⟩
      · exact .inl z
      · exact .inr ⟨a, u, e, m, z⟩
    | io =>
      rw [hmd] at e2
      cases e2
  have ho : PE X (.Name x pos) (tO c fun r => (get r i).map fun d => (if ec.mode i = .fz then .val d else .by_ i, r)) := PE.imp h fun σ H Q ⟨O, r, o, r', R0, em, q⟩ => by
    obtain ⟨d, e1, e2⟩ := Option.map_eq_some_iff.mp em
    rw [md] at e2
    by_cases hmd : c.mode i = .fz
    · rw [if_pos hmd] at e2
      cases e2
      obtain ⟨v, f1, f2⟩ := R0.fz i _ e1 hmd
      exact ⟨v, f1, q v H O Step.refl R0 f2⟩
    · rw [if_neg hmd] at e2
      cases e2
      obtain ⟨a, f1, f2, f3, f4⟩ := R0.ow i _ e1 hmd
      exact ⟨.ref a, f1, q _ H O Step.refl R0 ⟨hmd, f1⟩⟩
  refine ⟨he, ho, pt_bool he fun _ => rfl, fun tg => ?_, fun _ q => (by cases q), fun j q => ?_, fun _ _ => rfl, rfl, fun _ _ => rfl⟩
  · by_cases hmd : c.mode i = .fz
    · have e0 : (varV ec i).i = asI fun r => (varE ec i r).map fun p => (.val p.1, p.2) := by
        show (asI fun r => (get r i).map fun d => (if ec.mode i = .fz then Op.val d else .by_ i, r)) = _
        congr 1
        funext r
        unfold varE
        rw [md, hmd]
        cases get r i <;> rfl
      rw [e0]
      exact pi_val he hK tg
    · refine PI.pick fun σ H Q ⟨O, r, t, r', R0, em, q⟩ => ?_
      have em : (asI fun r => (get r i).map fun d => (if ec.mode i = .fz then Op.val d else .by_ i, r)) r = some (t, r') := em
      unfold asI at em
      obtain ⟨⟨o, r1⟩, e1, e2⟩ := Option.bind_eq_some_iff.mp em
      obtain ⟨d, e3, e4⟩ := Option.map_eq_some_iff.mp e1
      rw [md, if_neg hmd] at e4
      cases e4
      obtain ⟨t', e5, e6⟩ := Option.map_eq_some_iff.mp e2
      cases e6
      unfold itsOf at e5
      simp only [e3] at e5
      cases d with
      | list ds =>
        cases e5
        obtain ⟨a, f1, f2, f3, f4⟩ := R0.ow i _ e3 hmd
        cases f4 with
        | lst g1 g2 =>
          refine ⟨_, pi_list h, .ref a, f1, a, rfl, ⟨_, .inl (.inl g1)⟩, ?_⟩
          rw [hK]
          refine q _ H O Step.refl R0 ?_
          intro c2 hK2 hm2 k O2 H2 r2 σ2 s R2 hj ok
          simp only [Its.ok] at ok
          cases hg : get r2 i with
          | none => rw [hg] at ok; cases ok
          | some d2 =>
            rw [hg] at ok
            cases d2 with
            | list es =>
              have he2 := deqs_eq _ _ ok
              subst he2
              have hmd2 : c2.mode i ≠ .fz := by unfold Cf.mode at hmd ⊢; rw [hm2]; exact hmd
              obtain ⟨a2, k1, k2, k3, k4⟩ := R2.ow i _ hg hmd2
              rw [hK2] at k4
              · rw [hj i _ rfl hmd, f1] at k1
                cases k1
                cases k4 with
                | lst m1 m2 =>
                  rename_i ys
                  have hl := m2.length
                  refine ⟨fun hi => ?_, fun hi => ⟨ys, .inl (.inl m1), by show ys.length ≤ k; rw [hl]; exact hi⟩, fun x H' y d hd => ?_⟩
                  · have hi' : k < ys.length := by rw [hl]; exact hi
                    exact ⟨ys, ys[k], .inl (.inl m1), by simp [hi']⟩
                  · obtain ⟨rfl, y⟩ := y
                    obtain ⟨v, z1, z2⟩ := m2.get hd
                    have := y ys (.inl (.inl m1))
                    rw [z1] at this
                    cases this
                    exact ⟨fun _ _ h => h, z2⟩
            | _ => cases ok
      | _ => cases e5
  · cases q
    exact ⟨x, pos, rfl, h, hN⟩

/-! two operands -/
theorem binSV (hK : X.K = c.K) (ha : SV X c ec a wa) (hb : SV X c ec b wb) {op : Operator} : SV X c ec (.BinOp a op b pos) (plainV (binE ec (bin op) wa wb)) := by
  refine plainSV hK (PE.pick fun σ H Q ⟨O, r, d, r', R0, em, q⟩ => ?_) (fun _ => rfl) (fun _ _ => rfl) fun _ _ => rfl
  unfold binE at em
  obtain ⟨⟨o1, r1⟩, e1, em⟩ := Option.bind_eq_some_iff.mp em
  obtain ⟨⟨o2, r2⟩, e2, em⟩ := Option.bind_eq_some_iff.mp em
  obtain ⟨x, e3, em⟩ := Option.bind_eq_some_iff.mp em
  obtain ⟨y, e4, em⟩ := Option.bind_eq_some_iff.mp em
  obtain ⟨z, e5, em⟩ := Option.map_eq_some_iff.mp em
  cases em
  obtain ⟨rr, ho, sm⟩ := bin_sem (X := X) e5
  rw [hK] at sm
  exact ⟨_, pe_op ho ha.po hb.po, two_op R0 e1 e2 e3 e4 sm q⟩
end
end Mp

/-! expressions, view by view: the rest -/
namespace Mp
open PySem PySem.Spec PyProof.Rows L2

section
variable {X : Cx} {c : Cf} {ec : Ec} {O O' : Addr → Prop} {r r' : Env} {σ : L2.St} {H H' : Hp} {e a b d0 : Expr} {m : EM} {w wa wb wd : View} {pos : Pos}

/-! ### comparisons -/
theorem cmp_parts {f : D → D → Option D} {r r' : Env} {d : D} (em : binE ec f wa wb r = some (d, r')) : ∃ o1 r1 o2 x y, wa.o ec r = some (o1, r1) ∧ wb.o ec r1 = some (o2, r') ∧ o1.res r' = some x ∧ o2.res r' = some y ∧ f x y = some d := by
  unfold binE at em
  obtain ⟨⟨o1, r1⟩, e1, em⟩ := Option.bind_eq_some_iff.mp em
  obtain ⟨⟨o2, r2⟩, e2, em⟩ := Option.bind_eq_some_iff.mp em
  obtain ⟨x, e3, em⟩ := Option.bind_eq_some_iff.mp em
  obtain ⟨y, e4, em⟩ := Option.bind_eq_some_iff.mp em
  obtain ⟨z, e5, em⟩ := Option.map_eq_some_iff.mp em
  cases em
  exact ⟨o1, r1, o2, x, y, e1, e2, e3, e4, e5⟩
theorem cmpSV (hK : X.K = c.K) (hu : X.A.units + 500 < cLine) (ha : SV X c ec a wa) (hb : SV X c ec b wb) {op : CmpOp} (hop : op ≠ .Is ∧ op ≠ .IsNot) (hm : behindInMarks op b = false) :
    SV X c ec (.Compare a [op] [b] pos) (plainV (binE ec (cmp op) wa wb)) := by
  have pick : ∀ {x y z : D}, cmp op x y = some z → ∃ rr b, z = .bool b ∧ OpR X (compareOp op) rr ∧ Sem2b c.K rr x y b := fun {x y z} h => by
    have := cmp_sem (X := X) hu hop h
    rw [hK] at this
    exact this
  have he : PE X (.Compare a [op] [b] pos) (tD c (binE ec (cmp op) wa wb)) := PE.pick fun σ H Q ⟨O, r, d, r', R0, em, q⟩ => by
    obtain ⟨o1, r1, o2, x, y, e1, e2, e3, e4, e5⟩ := cmp_parts em
    obtain ⟨rr, k, rfl, ho, sm⟩ := pick e5
    exact ⟨_, pe_cmpR ho ha.po hb.po hm, two_op R0 e1 e2 e3 e4 sm.sem q⟩
  refine ⟨he, po_val he, PT.pick fun σ H Q ⟨O, r, k, r', R0, em, q⟩ => ?_, pi_val he hK, fun _ q => (by cases q), fun _ q => (by cases q), fun _ _ => rfl, rfl, fun _ _ => rfl⟩
  obtain ⟨o1, r1, o2, x, y, e1, e2, e3, e4, e5⟩ := cmp_parts (asT_some em)
  obtain ⟨rr, k', e6, ho, sm⟩ := pick e5
  cases e6
  refine ⟨_, pt_cmpR ho ha.po hb.po hm, ?_⟩
  refine ⟨O, r, o1, r1, R0, e1, fun v H1 O1 s1 R1 p1 => ⟨O1, r1, o2, r', R1, e2, fun w H2 O2 s2 R2 p2 => ?_⟩⟩
  refine sm v w H2 O2 _ ((p1.step s2).res R2 e3) (p2.res R2 e4) ⟨k, rfl, q H2 O2 (s1.trans s2) R2⟩
/-- is, is not, of a constant -/
def kV' : Const → Option (D × V)
  | .none => some (.none, .non)
  | .bool b => some (.bool b, .bl b)
  | _ => none
theorem is_rep {K : PySem.W.Frag} {v : V} {d : D} (h : RepX K H O v d) {kc : Const} {dv : D × V} (hk : kV' kc = some dv) {k : Bool} (e : isC d dv.1 = some k) : decide (v = dv.2) = k := by
  cases kc with
  | none =>
    cases hk
    cases d with
    | none => cases e; rw [h.none]; rfl
    | bool x => cases e; rw [h.bool]; rfl
    | int x => cases e; rw [h.int]; rfl
    | str x => cases e; rw [h.str]; rfl
    | list x => cases e; obtain ⟨a, _, rfl, _⟩ := h.list; rfl
    | tuple x => cases e; obtain ⟨a, _, rfl, _⟩ := h.tuple; rfl
    | dict x => cases e; obtain ⟨a, _, rfl, _⟩ := h.dict; rfl
  | bool b =>
    cases hk
    cases d with
    | none => cases e; rw [h.none]; rfl
    | bool x =>
      cases e
      rw [h.bool]
      by_cases q : x = b
      · subst q; simp
      · simp [q]
    | int x => cases e; rw [h.int]; rfl
    | str x => cases e; rw [h.str]; rfl
    | list x => cases e; obtain ⟨a, _, rfl, _⟩ := h.list; rfl
    | tuple x => cases e; obtain ⟨a, _, rfl, _⟩ := h.tuple; rfl
    | dict x => cases e; obtain ⟨a, _, rfl, _⟩ := h.dict; rfl
  | _ => cases hk
theorem is_bool_gen {M : Model} {A : Around} {E : Value → Shared → Prop} {s : Shared} {Q : Value → Shared → Prop} {x : V} {v : Value} {b : Bool} (r : RelV x v) (neg : Bool) (h : Q (.bool (if neg then !decide (x = .bl b) else decide (x = .bl b))) s) :
    wpAny M A (compareOp (if neg then .IsNot else .Is) v (.bool b)) Q E s := by
  cases x with
  | non => cases r; cases neg <;> exact wpAny_pure h
  | bl k =>
    cases r
    by_cases e : k = b
    · subst e
      cases neg
      · exact wpAny_is_self rfl (by simpa using h)
      · exact wpAny_isNot_self rfl (by simpa using h)
    · cases neg
      · exact wpAny_is_other rfl (fun z => e (Value.bool.inj z)) (by simpa [e] using h)
      · exact wpAny_isNot_other rfl (fun z => e (Value.bool.inj z)) (by simpa [e] using h)
  | int _ => obtain ⟨t, rfl⟩ := r; cases neg <;> exact wpAny_pure h
  | str _ => obtain ⟨t, rfl⟩ := r; cases neg <;> exact wpAny_pure h
  | byt _ => obtain ⟨t, rfl⟩ := r; cases neg <;> exact wpAny_pure h
  | flt _ => obtain ⟨t, rfl⟩ := r; cases neg <;> exact wpAny_pure h
  | ref _ => cases r; cases neg <;> exact wpAny_pure h
  | ty _ => cases r; cases neg <;> exact wpAny_pure h
def tIsK (neg : Bool) (k : V) (ta : TE) : TE := fun σ H Q => ta σ H fun x H1 => Q (.bl (if neg then !decide (x = k) else decide (x = k))) H1
theorem pc_isK {a : Expr} {ta : TE} {kc : Const} {dv : D × V} (hk : kV' kc = some dv) (ha : PE X a ta) (neg : Bool) {j : Nat} {p2 : Pos} : PC X (if neg then .IsNot else .Is) a (.Constant kc j p2) (tIsK neg dv.2 ta) := by
  cases kc with
  | none =>
    cases hk
    cases neg
    · exact pc_isN ha
    · exact pc_notN ha
  | bool b =>
    cases hk
    refine ⟨fun pins s σ H Q I h => thn (ha.run pins s σ H _ I h) fun v s1 ⟨x, H1, I1, r1, q1⟩ => ?_⟩
    exact Constant_bool (is_bool_gen r1 neg ⟨.bl _, H1, I1, rfl, q1⟩)
  | _ => cases hk
theorem isKSV (hK : X.K = c.K) (ha : SV X c ec a wa) {kc : Const} {dv : D × V} (hk : kV' kc = some dv) {j : Nat} {p2 : Pos} (neg : Bool) :
    SV X c ec (.Compare a [if neg then .IsNot else .Is] [.Constant kc j p2] pos) (plainV (binE ec (cmp (if neg then .IsNot else .Is)) wa (plainV fun r => some (dv.1, r)))) := by
  have parts : ∀ {r r' : Env} {d : D}, binE ec (cmp (if neg then .IsNot else .Is)) wa (plainV fun r => some (dv.1, r)) r = some (d, r') → ∃ o1 x k, wa.o ec r = some (o1, r') ∧ o1.res r' = some x ∧ isC x dv.1 = some k ∧ d = .bool (if neg then !k else k) := fun {r r' d} em => by
    obtain ⟨o1, r1, o2, x, y, e1, e2, e3, e4, e5⟩ := cmp_parts em
    cases e2
    cases e4
    cases neg
    · have e6 : (isC x dv.1).map PyData.bool = some d := by
        rw [← e5]
        unfold cmp
        rfl
      obtain ⟨k, f1, rfl⟩ := Option.map_eq_some_iff.mp e6
      exact ⟨o1, x, k, e1, e3, f1, rfl⟩
    · have e6 : (isC x dv.1).map (fun q => PyData.bool (!q)) = some d := by
        rw [← e5]
        unfold cmp
        rfl
      obtain ⟨k, f1, rfl⟩ := Option.map_eq_some_iff.mp e6
      exact ⟨o1, x, k, e1, e3, f1, rfl⟩
  have pc := pc_isK (j := j) (p2 := p2) hk ha.po neg
  have hb : behindInMarks (if neg then .IsNot else .Is) (.Constant kc j p2) = false := rfl
  have rd : ∀ {σ : L2.St} {H : Hp} {Q : VK} {O : Addr → Prop} {r r' : Env} {k : Bool}, R c O r σ H → binE ec (cmp (if neg then .IsNot else .Is)) wa (plainV fun r => some (dv.1, r)) r = some (.bool k, r') → (∀ H' O', Step O H O' H' → R c O' r' σ H' → Q (.bl k) H') →
      tIsK neg dv.2 (tO c (wa.o ec)) σ H Q := fun {σ H Q O r r' k} R0 em q => by
    obtain ⟨o1, x, k', e1, e3, f1, f2⟩ := parts em
    cases f2
    refine ⟨O, r, o1, r', R0, e1, fun v H1 O1 s1 R1 p1 => ?_⟩
    show Q (.bl (if neg then !decide (v = dv.2) else decide (v = dv.2))) H1
    rw [is_rep (p1.res R1 e3) hk f1]
    exact q H1 O1 s1 R1
  have he : PE X (.Compare a [if neg then .IsNot else .Is] [.Constant kc j p2] pos) (tD c (binE ec (cmp (if neg then .IsNot else .Is)) wa (plainV fun r => some (dv.1, r)))) := PE.imp (pe_cmp pc hb) fun σ H Q ⟨O, r, d, r', R0, em, q⟩ => by
    obtain ⟨o1, x, k', e1, e3, f1, f2⟩ := parts em
    subst f2
    exact rd R0 em fun H' O' s R1 => q _ H' O' s R1 (.bl _)
  refine ⟨he, po_val he, PT.imp (pt_cmp pc hb) fun σ H Q ⟨O, r, k, r', R0, em, q⟩ => ?_, pi_val he hK, fun _ q => (by cases q), fun _ q => (by cases q), fun _ _ => rfl, rfl, fun _ _ => rfl⟩
  exact rd R0 (asT_some em) fun H' O' s R1 => ⟨k, rfl, q H' O' s R1⟩
theorem chnSV (hK : X.K = c.K) (hu : X.A.units + 500 < cLine) (ha : SV X c ec a wa) (hb : SV X c ec b wb) (hd : SV X c ec d0 wd) {op op' : CmpOp} (hop : op ≠ .Is ∧ op ≠ .IsNot) (hop' : op' ≠ .Is ∧ op' ≠ .IsNot) (hm : lastMarks [op, op'] [b, d0] = false) :
    SV X c ec (.Compare a [op, op'] [b, d0] pos) (plainV (chnE op op' wa wb wd)) := by
  have pick : ∀ {op : CmpOp} {x y z : D}, op ≠ .Is ∧ op ≠ .IsNot → cmp op x y = some z → ∃ rr b, z = .bool b ∧ OpR X (compareOp op) rr ∧ Sem2b c.K rr x y b := fun {op x y z} hop h => by
    have := cmp_sem (X := X) hu hop h
    rw [hK] at this
    exact this
  -- the rule and its reading, whatever is asked
  have go : ∀ {σ : L2.St} {H : Hp} {O : Addr → Prop} {r r' : Env} {k : Bool} {Q : VK}, R c O r σ H → chnE op op' wa wb wd r = some (.bool k, r') → (∀ H' O', Step O H O' H' → R c O' r' σ H' → Q (.bl k) H') →
      ∃ rr rr', OpR X (compareOp op) rr ∧ OpR X (compareOp op') rr' ∧ tChain rr rr' (tD c wa.e) (tD c wb.e) (tD c wd.e) σ H Q := fun {σ H O r r' k Q} R0 em q => by
    unfold chnE at em
    obtain ⟨⟨x, r1⟩, e1, em⟩ := Option.bind_eq_some_iff.mp em
    obtain ⟨⟨y, r2⟩, e2, em⟩ := Option.bind_eq_some_iff.mp em
    obtain ⟨z, e3, em⟩ := Option.bind_eq_some_iff.mp em
    obtain ⟨rr, k1, rfl, ho, sm⟩ := pick hop e3
    cases k1 with
    | false =>
      simp only at em
      cases em
      refine ⟨rr, fun _ _ _ _ => False, ho, fun _ _ _ _ _ _ _ _ _ _ _ _ h => h.elim, O, r, x, r1, R0, e1, fun v H1 O1 s1 R1 p1 => ⟨O1, r1, y, _, R1, e2, fun w H2 O2 s2 R2 p2 => ?_⟩⟩
      exact sm v w H2 O2 _ (.inl (p1.step s2)) (.inl p2) ⟨false, rfl, q H2 O2 (s1.trans s2) R2⟩
    | true =>
      simp only at em
      obtain ⟨⟨u, r3⟩, e4, em⟩ := Option.bind_eq_some_iff.mp em
      obtain ⟨z, e5, em⟩ := Option.map_eq_some_iff.mp em
      cases em
      obtain ⟨rr', k2, e6, ho', sm'⟩ := pick hop' e5
      cases e6
      refine ⟨rr, rr', ho, ho', O, r, x, r1, R0, e1, fun v H1 O1 s1 R1 p1 => ⟨O1, r1, y, r2, R1, e2, fun w H2 O2 s2 R2 p2 => ?_⟩⟩
      refine sm v w H2 O2 _ (.inl (p1.step s2)) (.inl p2) ⟨true, rfl, O2, r2, u, r3, R2, e4, fun w' H3 O3 s3 R3 p3 => ?_⟩
      exact sm' w w' H3 O3 _ (.inl (p2.step s3)) (.inl p3) (q H3 O3 ((s1.trans s2).trans s3) R3)
  have isb : ∀ {r r' : Env} {d : D}, chnE op op' wa wb wd r = some (d, r') → ∃ k, d = .bool k := fun {r r' d} em => by
    unfold chnE at em
    obtain ⟨⟨x, r1⟩, e1, em⟩ := Option.bind_eq_some_iff.mp em
    obtain ⟨⟨y, r2⟩, e2, em⟩ := Option.bind_eq_some_iff.mp em
    obtain ⟨z, e3, em⟩ := Option.bind_eq_some_iff.mp em
    obtain ⟨rr, k1, rfl, ho, sm⟩ := pick hop e3
    cases k1 with
    | false => simp only at em; cases em; exact ⟨_, rfl⟩
    | true =>
      simp only at em
      obtain ⟨⟨u, r3⟩, e4, em⟩ := Option.bind_eq_some_iff.mp em
      obtain ⟨z, e5, em⟩ := Option.map_eq_some_iff.mp em
      cases em
      obtain ⟨rr', k2, e6, ho', sm'⟩ := pick hop' e5
      exact ⟨k2, e6⟩
  have he : PE X (.Compare a [op, op'] [b, d0] pos) (tD c (chnE op op' wa wb wd)) := PE.pick fun σ H Q ⟨O, r, d, r', R0, em, q⟩ => by
    obtain ⟨k, rfl⟩ := isb em
    obtain ⟨rr, rr', ho, ho', t⟩ := go (Q := Q) R0 em fun H' O' s R1 => q _ H' O' s R1 (.bl _)
    exact ⟨_, pe_chain ho ho' ha.pe hb.pe hd.pe hm, t⟩
  refine ⟨he, po_val he, PT.pick fun σ H Q ⟨O, r, k, r', R0, em, q⟩ => ?_, pi_val he hK, fun _ q => (by cases q), fun _ q => (by cases q), fun _ _ => rfl, rfl, fun _ _ => rfl⟩
  obtain ⟨rr, rr', ho, ho', t⟩ := go (Q := fun x H' => ∃ k, x = .bl k ∧ Q k H') R0 (asT_some em) fun H' O' s R1 => ⟨k, rfl, q H' O' s R1⟩
  exact ⟨_, pt_chain ho ho' ha.pe hb.pe hd.pe hm, t⟩

/-! ### one operand, and, or, if -/
theorem negSV (hK : X.K = c.K) (ha : SV X c ec a wa) : SV X c ec (.UnaryOp .USub a pos) (plainV (negE wa)) := by
  refine plainSV hK (PE.imp (pe_un un_neg ha.pe) fun σ H Q ⟨O, r, d, r', R0, em, q⟩ => ?_) (fun _ => rfl) (fun _ _ => rfl) fun _ _ => rfl
  unfold negE at em
  obtain ⟨⟨x, r1⟩, e1, em⟩ := Option.bind_eq_some_iff.mp em
  cases x with
  | int i =>
    cases em
    exact ⟨O, r, .int i, _, R0, e1, fun v H' O' s R1 rv => ⟨i, RepX.int (.inl rv), q _ H' O' s R1 (.int _)⟩⟩
  | _ => cases em
theorem notSV (hK : X.K = c.K) (ha : SV X c ec a wa) : SV X c ec (.UnaryOp .Not a pos) { plainV (notE wa) with t := fun r => (wa.t r).map fun p => (!p.1, p.2) } := by
  have he : PE X (.UnaryOp .Not a pos) (tD c (notE wa)) := PE.imp (pe_not ha.pe) fun σ H Q ⟨O, r, d, r', R0, em, q⟩ => by
    unfold notE at em
    obtain ⟨⟨x, r1⟩, e1, em⟩ := Option.bind_eq_some_iff.mp em
    cases x with
    | bool i =>
      cases em
      exact ⟨O, r, .bool i, _, R0, e1, fun v H' O' s R1 rv => ⟨i, RepX.bool (.inl rv), q _ H' O' s R1 (.bl _)⟩⟩
    | _ => cases em
  refine ⟨he, po_val he, PT.imp (pt_not ha.pt) fun σ H Q ⟨O, r, k, r', R0, em, q⟩ => ?_, pi_val he hK, fun _ q => (by cases q), fun _ q => (by cases q), fun _ _ => rfl, rfl, fun _ _ => rfl⟩
  obtain ⟨⟨k1, r1⟩, e1, e2⟩ := Option.map_eq_some_iff.mp em
  cases e2
  exact ⟨O, r, k1, _, R0, e1, fun H' O' s R1 => q H' O' s R1⟩
/-- a and (the rest), a or (the rest): the rest's own view is of BoolOp op (b :: rest) -/
structure BV (X : Cx) (c : Cf) (ec : Ec) (op : BoolOp) (es : List Expr) (w : View) : Prop where
  pe : ∀ pos, PE X (.BoolOp op es pos) (tD c w.e)
  pt : ∀ pos, PW X (.BoolOp op es pos) (tTm c w.t)
theorem BV.sv (hK : X.K = c.K) {op : BoolOp} {es : List Expr} {e : EM} {t : Env → Option (Bool × Env)} (h : BV X c ec op es { plainV e with t := t }) : SV X c ec (.BoolOp op es pos) { plainV e with t := t } :=
  ⟨h.pe pos, po_val (h.pe pos), (h.pt pos).pt, pi_val (h.pe pos) hK, fun _ q => (by cases q), fun _ q => (by cases q), fun _ _ => rfl, rfl, fun _ _ => rfl⟩
theorem BV.one (ha : SV X c ec a wa) {op : BoolOp} : BV X c ec op [a] wa := ⟨fun pos => pe_one ha.pe, fun pos => by cases op; exact pw_and1 ha.pt; exact pw_or1 ha.pt⟩
theorem BV.and {es : List Expr} {b0 : Expr} (ha : SV X c ec a wa) (hb : BV X c ec .And (b0 :: es) wb) : BV X c ec .And (a :: b0 :: es) { plainV (andE wa wb) with t := fun r => (wa.t r).bind fun p => if p.1 then wb.t p.2 else some (false, p.2) } := by
  refine ⟨fun pos => PE.imp (pe_and ha.pe (hb.pe pos)) fun σ H Q ⟨O, r, d, r', R0, em, q⟩ => ?_, fun pos => ⟨fun whole pins s σ H Q I ⟨O, r, k, r', R0, em, q⟩ => (pw_and ha.pt (hb.pt pos)).run whole pins s σ H Q I ?_⟩⟩
  · have em : andE wa wb r = some (d, r') := em
    unfold andE at em
    obtain ⟨⟨x, r1⟩, e1, em⟩ := Option.bind_eq_some_iff.mp em
    refine ⟨O, r, x, r1, R0, e1, fun v H' O' s R1 rv => ?_⟩
    cases x with
    | bool k =>
      refine ⟨k, RepX.bool (.inl rv), ?_⟩
      cases k with
      | true => exact ⟨O', r1, d, r', R1, em, fun v2 H2 O2 s2 R2 rv2 => q v2 H2 O2 (s.trans s2) R2 rv2⟩
      | false => cases em; exact q _ H' O' s R1 (.bl _)
    | _ => cases em
  · have em : ((wa.t r).bind fun p => if p.1 then wb.t p.2 else some (false, p.2)) = some (k, r') := em
    obtain ⟨⟨x, r1⟩, e1, em⟩ := Option.bind_eq_some_iff.mp em
    refine ⟨O, r, x, r1, R0, e1, fun H' O' s R1 => ?_⟩
    cases x with
    | true => exact ⟨O', r1, k, r', R1, em, fun H2 O2 s2 R2 => q H2 O2 (s.trans s2) R2⟩
    | false => cases em; exact q H' O' s R1
theorem BV.or {es : List Expr} {b0 : Expr} (ha : SV X c ec a wa) (hb : BV X c ec .Or (b0 :: es) wb) : BV X c ec .Or (a :: b0 :: es) { plainV (orE wa wb) with t := fun r => (wa.t r).bind fun p => if p.1 then some (true, p.2) else wb.t p.2 } := by
  refine ⟨fun pos => PE.imp (pe_or ha.pe (hb.pe pos)) fun σ H Q ⟨O, r, d, r', R0, em, q⟩ => ?_, fun pos => ⟨fun whole pins s σ H Q I ⟨O, r, k, r', R0, em, q⟩ => (pw_or ha.pt (hb.pt pos)).run whole pins s σ H Q I ?_⟩⟩
  · have em : orE wa wb r = some (d, r') := em
    unfold orE at em
    obtain ⟨⟨x, r1⟩, e1, em⟩ := Option.bind_eq_some_iff.mp em
    refine ⟨O, r, x, r1, R0, e1, fun v H' O' s R1 rv => ?_⟩
    cases x with
    | bool k =>
      refine ⟨k, RepX.bool (.inl rv), ?_⟩
      cases k with
      | false => exact ⟨O', r1, d, r', R1, em, fun v2 H2 O2 s2 R2 rv2 => q v2 H2 O2 (s.trans s2) R2 rv2⟩
      | true => cases em; exact q _ H' O' s R1 (.bl _)
    | _ => cases em
  · have em : ((wa.t r).bind fun p => if p.1 then some (true, p.2) else wb.t p.2) = some (k, r') := em
    obtain ⟨⟨x, r1⟩, e1, em⟩ := Option.bind_eq_some_iff.mp em
    refine ⟨O, r, x, r1, R0, e1, fun H' O' s R1 => ?_⟩
    cases x with
    | false => exact ⟨O', r1, k, r', R1, em, fun H2 O2 s2 R2 => q H2 O2 (s.trans s2) R2⟩
    | true => cases em; exact q H' O' s R1
/-- a if t else b, as a value -/
theorem itePE (hd : SV X c ec d0 wd) (ha : SV X c ec a wa) (hb : SV X c ec b wb) : PE X (.IfExp d0 a b pos) (tD c (iteE wd wa wb)) := PE.imp (pe_ifExp hd.pt ha.pe hb.pe) fun σ H Q ⟨O, r, d, r', R0, em, q⟩ => by
  unfold iteE at em
  obtain ⟨⟨k, r1⟩, e1, em⟩ := Option.bind_eq_some_iff.mp em
  refine ⟨O, r, k, r1, R0, e1, fun H' O' s R1 => ?_⟩
  cases k with
  | true => exact ⟨O', r1, d, r', R1, em, fun v2 H2 O2 s2 R2 rv2 => q v2 H2 O2 (s.trans s2) R2 rv2⟩
  | false => exact ⟨O', r1, d, r', R1, em, fun v2 H2 O2 s2 R2 rv2 => q v2 H2 O2 (s.trans s2) R2 rv2⟩

/-! ### rows of expressions -/
inductive SVs (X : Cx) (c : Cf) (ec : Ec) : List Expr → List View → Prop
  | nil : SVs X c ec [] []
  | cons {e w es ws} : SV X c ec e w → SVs X c ec es ws → SVs X c ec (e :: es) (w :: ws)
theorem SVs.stars : ∀ {es : List Expr} {ws : List View}, SVs X c ec es ws → ∀ e ∈ es, NoStar e
  | _, _, .nil => fun e h => by cases h
  | _, _, .cons h t => fun e he => by
    rcases List.mem_cons.mp he with rfl | he
    · exact h.st
    · exact SVs.stars t e he
theorem SVs.pa : ∀ {es : List Expr} {ws : List View}, SVs X c ec es ws → PA X es (tL c (esV ws))
  | _, _, .nil => PA.imp pa_nil fun σ H Q ⟨O, r, ds, r', R0, em, q⟩ => by
    cases em
    exact q [] H O Step.refl R0 .nil
  | _, _, .cons h t => PA.imp (pa_cons h.pe (SVs.pa t) (h.st _ _)) fun σ H Q ⟨O, r, ds, r', R0, em, q⟩ => by
    obtain ⟨⟨d, r1⟩, e1, em⟩ := Option.bind_eq_some_iff.mp em
    obtain ⟨⟨es, r2⟩, e2, em⟩ := Option.map_eq_some_iff.mp em
    cases em
    exact ⟨O, r, d, r1, R0, e1, fun v H1 O1 s1 R1 rv => ⟨O1, r1, es, _, R1, e2, fun vs H2 O2 s2 R2 rvs => q _ H2 O2 (s1.trans s2) R2 (.cons (rv.step s2) rvs)⟩⟩
theorem SVs.pao : ∀ {es : List Expr} {ws : List View}, SVs X c ec es ws → PA X es (tOs c (osV ec ws))
  | _, _, .nil => PA.imp pa_nil fun σ H Q ⟨O, r, ds, r', R0, em, q⟩ => by
    cases em
    exact q [] H O Step.refl R0 .nil
  | _, _, .cons h t => PA.imp (pa_cons h.po (SVs.pao t) (h.st _ _)) fun σ H Q ⟨O, r, ds, r', R0, em, q⟩ => by
    obtain ⟨⟨d, r1⟩, e1, em⟩ := Option.bind_eq_some_iff.mp em
    obtain ⟨⟨es, r2⟩, e2, em⟩ := Option.map_eq_some_iff.mp em
    cases em
    exact ⟨O, r, d, r1, R0, e1, fun v H1 O1 s1 R1 rv => ⟨O1, r1, es, _, R1, e2, fun vs H2 O2 s2 R2 rvs => q _ H2 O2 (s1.trans s2) R2 (.cons (rv.step s2) rvs)⟩⟩
theorem tupSV (hK : X.K = c.K) {es : List Expr} {ws : List View} (h : SVs X c ec es ws) {k : Nat} : SV X c ec (.Tuple es k pos) (plainV fun r => (esV ws r).bind fun q => if q.1.length ≤ sizeLine then some (.tuple q.1, q.2) else none) := by
  refine plainSV hK (PE.imp (pe_tupF h.pa) fun σ H Q ⟨O, r, d, r', R0, em, q⟩ => ?_) (fun _ => rfl) (fun _ _ => rfl) fun _ _ => rfl
  obtain ⟨⟨ds, r1⟩, e1, em⟩ := Option.bind_eq_some_iff.mp em
  simp only at em
  split at em
  · rename_i hz
    cases em
    exact ⟨O, r, ds, _, R0, e1, fun vs H1 O1 s1 R1 rv => ⟨by rw [rv.length]; exact hz, fun p o np d => q _ _ O1 (s1.trans (Step.grow (same_upd' np))) (R1.grow (same_upd' np)) (rep_new_tup R1.alive np d rv)⟩⟩
  · cases em
/-- a new list, held -/
theorem new_lst {O1 : Addr → Prop} {r1 : Env} {H1 : Hp} {p : Addr} {vs : List V} {ds : List D} (R1 : R c O1 r1 σ H1) (np : H1 p = none) (rv : RepA c.K H1 O1 vs ds) :
    Step O1 H1 (add O1 p) (upd H1 p (.lst vs)) ∧ R c (add O1 p) r1 σ (upd H1 p (.lst vs)) ∧ (add O1 p) p ∧ OwnC c.K (upd H1 p (.lst vs)) (add O1 p) p (.list ds) ∧ Bare c r1 σ p ∧ ¬ c.O0 p ∧ c.H0 p = none := by
  have s : Step O1 H1 (add O1 p) (upd H1 p (.lst vs)) := ⟨fun b h => h.elim .inl fun z => .inr (z ▸ np), fun b o h _ => by rw [upd_ne (ne_of_none h np)]; exact h⟩
  obtain ⟨h1, h2⟩ := R1.fresh np
  exact ⟨s, R1.laid np (.inl ⟨vs, rfl⟩), .inr rfl, .lst upd_same (rv.step s), R1.bare (R1.new np), h1, h2⟩
theorem new_dct {O1 : Addr → Prop} {r1 : Env} {H1 : Hp} {p : Addr} {vs : List (Key × V)} {ds : List (D × D)} (R1 : R c O1 r1 σ H1) (np : H1 p = none) (nd : (vs.map (·.1)).Nodup) (rv : RepK c.K H1 O1 vs ds) :
    Step O1 H1 (add O1 p) (upd H1 p (.dK vs)) ∧ R c (add O1 p) r1 σ (upd H1 p (.dK vs)) ∧ (add O1 p) p ∧ OwnC c.K (upd H1 p (.dK vs)) (add O1 p) p (.dict ds) ∧ Bare c r1 σ p ∧ ¬ c.O0 p ∧ c.H0 p = none := by
  have s : Step O1 H1 (add O1 p) (upd H1 p (.dK vs)) := ⟨fun b h => h.elim .inl fun z => .inr (z ▸ np), fun b o h _ => by rw [upd_ne (ne_of_none h np)]; exact h⟩
  obtain ⟨h1, h2⟩ := R1.fresh np
  exact ⟨s, R1.laid np (.inr ⟨vs, rfl⟩), .inr rfl, .dct upd_same nd (rv.step s), R1.bare (R1.new np), h1, h2⟩
theorem lstPF {es : List Expr} {ws : List View} (h : SVs X c ec es ws) : PE X (.List es pos) (tF c (listE (esV ws))) := PE.imp (pe_lst h.pa) fun σ H Q ⟨O, r, d, r', R0, em, q⟩ => by
  unfold listE at em
  obtain ⟨⟨ds, r1⟩, e1, em⟩ := Option.bind_eq_some_iff.mp em
  simp only at em
  split at em
  · rename_i hz
    cases em
    refine ⟨O, r, ds, _, R0, e1, fun vs H1 O1 s1 R1 rv => ⟨by rw [rv.length]; exact hz, fun p np => ?_⟩⟩
    obtain ⟨k1, k2, k3, k4, k5, k6, k7⟩ := new_lst R1 np rv
    exact q _ _ _ (s1.trans k1) k2 k3 k4 k5 k6 k7
  · cases em
theorem lstSV (hK : X.K = c.K) {es : List Expr} {ws : List View} (h : SVs X c ec es ws) : SV X c ec (.List es pos) { plainV (listE (esV ws)) with l := some (esV ws) } := by
  have he := PE.ofF (lstPF (pos := pos) h)
  exact ⟨he, po_val he, pt_bool he fun _ => rfl, pi_val he hK, fun l q => (by cases q; exact lstPF h), fun _ q => (by cases q), fun _ _ => rfl, rfl, fun _ _ => rfl⟩
end
end Mp

/-! built-in functions, subscripts, methods, dict displays, targets -/
namespace Mp
open PySem PySem.Spec PyProof.Rows L2

theorem boot_pr {p : Pr} {pv : Bool × String} (h : prV p = some pv) : bootBuiltins (Str.ofString pv.2) = some (prVal pv) ∧ Str.ofString pv.2 ≠ "__name__" ∧ (Str.ofString pv.2 == ("__debug__" : Str)) = false := by
  cases p <;> first | (cases h; done) | (cases h; exact ⟨by decide +kernel, by decide +kernel, by decide +kernel⟩)

section
variable {X : Cx} {c : Cf} {ec : Ec} {O O' : Addr → Prop} {r r' : Env} {σ : L2.St} {H H' : Hp} {e a b d0 : Expr} {m : EM} {w wa wb wd : View} {pos : Pos}

theorem primPE (hK : X.K = c.K) (hgd : X.A.guards = some []) (hu : X.A.units + 500 < cLine) (hc : X.calm = true) {p : Pr} {pv : Bool × String} (hp : prV p = some pv) (hg : Gl X (Str.ofString pv.2)) (hm : X.mg (Str.ofString pv.2) = none)
    {e : Expr} {es : List Expr} {w : View} {ws : List View} (h : SVs X c ec (e :: es) (w :: ws)) {p0 : Pos} : PE X (.Call (.Name (Str.ofString pv.2) p0) (e :: es) [] pos) (tD c (primE ec p (w :: ws))) := by
  obtain ⟨b1, b2, b3⟩ := boot_pr hp
  have st := h.stars
  refine PE.pick fun σ H Q ⟨O, r, d, r', R0, em, q⟩ => ?_
  unfold primE at em
  obtain ⟨⟨os, r1⟩, e1, em⟩ := Option.bind_eq_some_iff.mp em
  obtain ⟨ds, e2, em⟩ := Option.bind_eq_some_iff.mp em
  obtain ⟨z, e3, em⟩ := Option.map_eq_some_iff.mp em
  cases em
  obtain ⟨rr, hr, sm⟩ := prim_sem (X := X) hgd hu hc hp e3
  rw [hK] at sm
  have rd : tCB rr (tOs c (osV ec (w :: ws))) σ H Q := ⟨O, r, os, _, R0, e1, fun vs H1 O1 s1 R1 rv => sm vs H1 O1 Q R1.alive (rv.res R1 e2) fun u H' g ru => q u H' O1 (s1.trans (Step.grow g)) (R1.grow g) ru⟩
  obtain ⟨ty, id⟩ := pv
  cases ty with
  | false => exact ⟨_, pe_callB hr hg hm b1 h.pao b2 b3 (st e List.mem_cons_self _ _) (noStars fun e' he => st e' (List.mem_cons_of_mem _ he)), rd⟩
  | true => exact ⟨_, pe_callTy hr hg hm b1 h.pao b2 b3 (st e List.mem_cons_self _ _) (noStars fun e' he => st e' (List.mem_cons_of_mem _ he)), rd⟩
theorem callSV (hK : X.K = c.K) {f : Expr} {as : List Expr} {ks : List Keyword} {m : EM} (h : PE X (.Call f as ks pos) (tD c m)) : SV X c ec (.Call f as ks pos) (plainV m) := plainSV hK h (fun _ => rfl) (fun _ _ => rfl) fun _ _ => rfl

/-! isinstance(x, T) -/
def tyD : D → String
  | .none => "NoneType"
  | .bool _ => "bool"
  | .int _ => "int"
  | .str _ => "str"
  | .list _ => "list"
  | .tuple _ => "tuple"
  | .dict _ => "dict"
theorem ty_of {v : V} {d : D} {K : PySem.W.Frag} (h : RepX K H O v d) : TyX K H v (.type (tyD d)) := by
  cases d with
  | none => rw [h.none]; exact .base .non
  | bool x => rw [h.bool]; exact .base (.bl x)
  | int x => rw [h.int]; exact .base (.int x)
  | str x => rw [h.str]; exact .base (.str x)
  | list x =>
    obtain ⟨a, xs, rfl, sx, _⟩ := h.list
    rcases sx with (sx | ⟨o, sx⟩) | ⟨its, n, sx, _⟩
    · exact .base (.lst sx)
    · exact .base (.frz sx)
    · exact .kList sx rfl
  | tuple x =>
    obtain ⟨a, xs, rfl, sx, _⟩ := h.tuple
    rcases sx with (sx | ⟨o, sx⟩) | ⟨o, its, n, h1, h2, _⟩
    · exact .base (.tup sx)
    · exact .fTuple sx
    · exact .kTuple h1 h2
  | dict x =>
    obtain ⟨a, xs, rfl, sx, _⟩ := h.dict
    rcases sx with sx | ⟨o, sx⟩
    · exact .base (.dK sx)
    · exact .fDict sx
def isiTys : List String := ["str", "tuple", "list", "dict", "int", "bool"]
theorem isi_boot {t : String} (h : t ∈ isiTys) : bootBuiltins (Str.ofString t) = some (.type t) ∧ Str.ofString t ≠ "__name__" ∧ (Str.ofString t == ("__debug__" : Str)) = false := by
  simp only [isiTys, List.mem_cons, List.not_mem_nil, or_false] at h
  rcases h with rfl | rfl | rfl | rfl | rfl | rfl <;> exact ⟨by decide +kernel, by decide +kernel, by decide +kernel⟩
theorem kit_all : isiTys.all (fun t => ["NoneType", "bool", "int", "str", "list", "tuple", "dict"].all fun u => kitB u t == some (u == t || (t == "int" && u == "bool"))) = true := by decide +kernel
theorem isi_eq {t : String} {d : D} {k : Bool} (h : isi t d = some k) : t ∈ isiTys ∧ k = (tyD d == t || (t == "int" && tyD d == "bool")) := by
  unfold isi at h
  split at h <;> first | (cases h; done) | (cases h; exact ⟨by decide, by first | rfl | (cases d <;> first | rfl | (rename_i h1; exact absurd rfl (h1 _)) | (rename_i h1 h2; first | exact absurd rfl (h1 _) | exact absurd rfl (h2 _)))⟩)
theorem isi_kit {K : PySem.W.Frag} {t : String} {d : D} {k : Bool} (h : isi t d = some k) : PySem.W.kitOne K (.type (tyD d)) (.type t) = some k := by
  obtain ⟨h1, rfl⟩ := isi_eq h
  refine kit_ty ?_
  have := List.all_eq_true.mp (List.all_eq_true.mp kit_all t h1) (tyD d) (by cases d <;> simp [tyD])
  exact eq_of_beq this
theorem isiPE (hK : X.K = c.K) {t : String} (ht : t ∈ isiTys) (hg : Gl X "isinstance") (hm : X.mg "isinstance" = none) (hgt : Gl X (Str.ofString t)) (hmt : X.mg (Str.ofString t) = none)
    (ha : SV X c ec a wa) {p0 p1 : Pos} : PE X (.Call (.Name "isinstance" p0) [a, .Name (Str.ofString t) p1] [] pos) (tD c (primE ec (.isi t) [wa])) := by
  have ht := isi_boot ht
  have pa : PA X [a, .Name (Str.ofString t) p1] (tCons (tO c (wa.o ec)) (tCons (tC (.ty t)) tNil)) := pa_cons ha.po (pa_cons (pe_bltn hgt hmt ht.1 rfl ht.2.1 ht.2.2) pa_nil rfl) (ha.st _ _)
  refine PE.imp (pe_callB call_isi hg hm (by decide +kernel) pa (by decide) (by decide) (ha.st _ _) rfl) fun σ H Q ⟨O, r, d, r', R0, em, q⟩ => ?_
  unfold primE at em
  obtain ⟨⟨os, r1⟩, e1, em⟩ := Option.bind_eq_some_iff.mp em
  obtain ⟨ds, e2, em⟩ := Option.bind_eq_some_iff.mp em
  obtain ⟨z, e3, em⟩ := Option.map_eq_some_iff.mp em
  cases em
  obtain ⟨⟨o, r2⟩, f1, f2⟩ := Option.bind_eq_some_iff.mp e1
  obtain ⟨⟨os', r3⟩, f3, f4⟩ := Option.map_eq_some_iff.mp f2
  cases f3
  cases f4
  obtain ⟨x, g1, g2⟩ := Option.bind_eq_some_iff.mp e2
  obtain ⟨xs, g3, g4⟩ := Option.bind_eq_some_iff.mp g2
  cases g3
  cases g4
  obtain ⟨k, k1, rfl⟩ := Option.map_eq_some_iff.mp (show (isi t x).map PyData.bool = some _ from e3)
  refine ⟨O, r, o, _, R0, f1, fun v H1 O1 s1 R1 p1 => ?_⟩
  have h1 := ty_of (p1.res R1 g1)
  refine ⟨v, .ty t, _, .type t, k, rfl, .ty t, ?_, isi_kit k1, q _ H1 O1 s1 R1 (.bl _)⟩
  rw [hK]
  exact h1

/-! subscripts -/
theorem idxPE (hK : X.K = c.K) (hu : X.A.units + 500 < cLine) (ha : SV X c ec a wa) (hb : SV X c ec b wb) (hp : PlainIx b) : PE X (.Subscript a b pos) (tD c (idxE ec wa wb)) := by
  refine PE.pick fun σ H Q ⟨O, r, d, r', R0, em, q⟩ => ?_
  unfold idxE at em
  obtain ⟨⟨o1, r1⟩, e1, em⟩ := Option.bind_eq_some_iff.mp em
  obtain ⟨⟨y, r2⟩, e2, em⟩ := Option.bind_eq_some_iff.mp em
  obtain ⟨x, e3, em⟩ := Option.bind_eq_some_iff.mp em
  obtain ⟨z, e5, em⟩ := Option.map_eq_some_iff.mp em
  cases em
  rcases idx_sem (X := X) hu e5 with ⟨rr, ho, sm⟩ | ⟨es, k, rfl, rfl, e6⟩
  · rw [hK] at sm
    refine ⟨_, pe_ix ho ha.po hb.pe hp, O, r, o1, r1, R0, e1, fun v H1 O1 s1 R1 p1 => ⟨O1, r1, y, _, R1, e2, fun w H2 O2 s2 R2 p2 => ?_⟩⟩
    refine sm v w H2 O2 Q R2.alive ((p1.step s2).res R2 e3) (.inl p2) fun u H' g ru => ?_
    exact q u H' O2 ((s1.trans s2).trans (Step.grow g)) (R2.grow g) ru
  · refine ⟨_, pe_dget (by omega) ha.po hb.pe hp, O, r, o1, r1, R0, e1, fun v H1 O1 s1 R1 p1 => ⟨O1, r1, _, _, R1, e2, fun w H2 O2 s2 R2 p2 => ?_⟩⟩
    obtain ⟨a, o, rfl, ew, g, _, h3⟩ := dget_of ((p1.step s2).res R2 e3) (.inl p2)
    obtain ⟨u, rfl, ru⟩ := h3 _ e6
    exact ⟨a, u, rfl, g, q u H2 O2 (s1.trans s2) R2 ru⟩
end
/-- a part of a slice: an expression, or none -/
inductive PV (X : Cx) (c : Cf) (ec : Ec) : Option Expr → View → Prop
  | non {v : View} : (∀ r, v.p r = some (none, r)) → PV X c ec none v
  | som {x : Expr} {v : View} : SV X c ec x v → PV X c ec (some x) v
section
variable {X : Cx} {c : Cf} {ec : Ec} {O O' : Addr → Prop} {r r' : Env} {σ : L2.St} {H H' : Hp} {e a b d0 : Expr} {m : EM} {w wa wb wd : View} {pos : Pos}
def tPd (c : Cf) (m : Env → Option (Option Int × Env)) : TO := fun σ H Q => ∃ O r x r', R c O r σ H ∧ m r = some (x, r') ∧ ∀ H' O', Step O H O' H' → R c O' r' σ H' → Q x H'
theorem PV.po {oe : Option Expr} (h : PV X c ec oe w) : PO X oe (tPd c w.p) := by
  cases h with
  | non hw => exact ⟨fun pins s σ H Q I ⟨O, r, x, r', R0, em, q⟩ => po_none.run pins s σ H Q I (by rw [hw] at em; cases em; exact q H O Step.refl R0)⟩
  | som hw =>
    refine ⟨fun pins s σ H Q I ⟨O, r, x, r', R0, em, q⟩ => (po_some hw.pe).run pins s σ H Q I ?_⟩
    rw [hw.pp] at em
    obtain ⟨i, rfl, em2⟩ := asP_some em
    exact ⟨O, r, _, r', R0, em2, fun v H1 O1 s1 R1 rv => ⟨i, RepX.int (.inl rv), q H1 O1 s1 R1⟩⟩
theorem slcPE (hK : X.K = c.K) (ha : SV X c ec a wa) {lo hi : Option Expr} {wl wh : View} (hl : PV X c ec lo wl) (hh : PV X c ec hi wh) {p2 : Pos} : PE X (.Subscript a (.Slice lo hi none p2) pos) (tD c (slcE ec wa wl wh)) := by
  refine PE.pick fun σ H Q ⟨O, r, d, r', R0, em, q⟩ => ?_
  unfold slcE at em
  obtain ⟨⟨o1, r1⟩, e1, em⟩ := Option.bind_eq_some_iff.mp em
  obtain ⟨⟨l, r2⟩, e2, em⟩ := Option.bind_eq_some_iff.mp em
  obtain ⟨⟨h, r3⟩, e3, em⟩ := Option.bind_eq_some_iff.mp em
  obtain ⟨x, e4, em⟩ := Option.bind_eq_some_iff.mp em
  obtain ⟨z, e5, em⟩ := Option.map_eq_some_iff.mp em
  cases em
  obtain ⟨rr, ho, sm⟩ := slice_sem (X := X) e5
  rw [hK] at sm
  refine ⟨_, pe_slice ho ha.po hl.po hh.po, O, r, o1, r1, R0, e1, fun v H1 O1 s1 R1 p1 => ⟨O1, r1, l, r2, R1, e2, fun H2 O2 s2 R2 => ⟨O2, r2, h, _, R2, e3, fun H3 O3 s3 R3 => ?_⟩⟩⟩
  refine sm v H3 O3 Q R3.alive (((p1.step s2).step s3).res R3 e4) fun u H' g ru => ?_
  exact q u H' O3 (((s1.trans s2).trans s3).trans (Step.grow g)) (R3.grow g) ru
end
/-! ### e[::-1] -/
section
variable {prog : Program} {w : World} {A : Around} {E : Value → Shared → Prop} {s : Shared}
theorem places_rev (n : Nat) : Builtin.Slice.slicePlaces ((n : Int) - 1) (-1) (-1) = n := by
  unfold Builtin.Slice.slicePlaces
  rw [if_neg (by omega)]
  have e : -(-1 : Int) = 1 := rfl
  rw [e, Int.ediv_one]
  split <;> omega
theorem adjust_rev (n : Nat) : Builtin.Slice.sliceAdjust none none (-1) (n : Int) = ((n : Int) - 1, -1) := by
  unfold Builtin.Slice.sliceAdjust
  simp
theorem sliceApplied_rev {sl : Addr} {vl vu vs : Value} {n : Nat} {Q : Int × Int × Nat → Shared → Prop} (hs : s.heap.IsSliceOf sl vl vu vs) (pl : IsPart vl none) (pu : IsPart vu none) (ps : IsPart vs (some (-1)))
    (h : Q ((n : Int) - 1, -1, n) s) : wpAny (model prog w) A (Builtin.Slice.sliceApplied (.ref sl) (pure (n : Int))) Q E s := by
  obtain ⟨os, hos, hcs, hds⟩ := id hs
  unfold Builtin.Slice.sliceApplied Builtin.Slice.sliceFields
  refine wpAny_bind (wpAny_bind (wpAny_field hos hds (x := vl) rfl (wpAny_bind (wpAny_field hos hds (x := vu) rfl (wpAny_bind (wpAny_field hos hds (x := vs) rfl (wpAny_pure ?_)))))))
  refine wpAny_bind (HT.slicePart_ ps ?_)
  show wpAny _ _ (if ((-1 : Int) == 0) = true then _ else _) _ _ s
  rw [if_neg (by decide)]
  refine wpAny_bind (HT.slicePart_ pl (wpAny_bind (HT.slicePart_ pu (wpAny_bind (wpAny_pure ?_)))))
  show wpAny _ _ (match Builtin.Slice.sliceAdjust none none (-1) (n : Int) with | (lo, hi) => pure (lo, (-1 : Int), Builtin.Slice.slicePlaces lo hi (-1))) _ _ s
  rw [adjust_rev n]
  show wpAny _ _ (pure ((n : Int) - 1, (-1 : Int), Builtin.Slice.slicePlaces ((n : Int) - 1) (-1) (-1))) _ _ s
  rw [places_rev]
  exact wpAny_pure h
theorem pick_rev (xs : Array Value) : ((List.range xs.size).filterMap fun (m : Nat) => xs[(((xs.size : Nat) : Int) - 1 + (m : Int) * (-1)).toNat]?).toArray = xs.toList.reverse.toArray := by
  have e : (List.range xs.size).filterMap (fun (m : Nat) => xs[(((xs.size : Nat) : Int) - 1 + (m : Int) * (-1)).toNat]?) = ((List.range xs.size).map fun k => xs.size - 1 - k).filterMap (xs[·]?) := by
    rw [List.filterMap_map]
    have key : ∀ l : List Nat, (∀ m ∈ l, m < xs.size) → l.filterMap (fun (m : Nat) => xs[(((xs.size : Nat) : Int) - 1 + (m : Int) * (-1)).toNat]?) = l.filterMap ((xs[·]?) ∘ fun k => xs.size - 1 - k) := fun l => by
      induction l with
      | nil => intro _; rfl
      | cons m l ih =>
        intro h
        have h1 := h m List.mem_cons_self
        have e : (((xs.size : Nat) : Int) - 1 + (m : Int) * (-1)).toNat = xs.size - 1 - m := by omega
        rw [List.filterMap_cons, List.filterMap_cons, ih fun y hy => h y (List.mem_cons_of_mem _ hy), e]
        rfl
    exact key _ fun m hm => List.mem_range.mp hm
  rw [e, PySem.W.krv_range, List.filterMap_reverse, PySem.W.krv_all]
theorem getItem_tuple_rev {t sl : Addr} {items : Array Value} {vl vu vs : Value} {Q : Value → Shared → Prop} (ht : IsTup s.heap t items) (hs : s.heap.IsSliceOf sl vl vu vs) (pl : IsPart vl none) (pu : IsPart vu none) (ps : IsPart vs (some (-1)))
    (h : Q (.ref s.heap.objs.size) { s with heap := s.heap.push { cls := .type "tuple", data := .seq items.toList.reverse.toArray } })
    (hsz : items.size ≤ sizeLine) : wpAny (model prog w) A (getItem (.ref t) (.ref sl)) Q E s := by
  have htake : sizeOk (.seq items.toList.reverse.toArray) := by
    show items.toList.reverse.toArray.size ≤ sizeLine
    rw [List.size_toArray, List.length_reverse, Array.length_toList]
    exact hsz
  obtain ⟨os, hos, hcs, hds⟩ := id hs
  have hTs : s.TypeIs (.ref sl) "slice" := ⟨os, hos, hcs⟩
  unfold getItem
  try with_reducible refine wpAny_holding ?_
  first | refine wpAny_bind (wpAny_pure ?_) | skip
  refine wpAny_bind (wpAny_sequenceKey ht.typeIs (by decide) ?_)
  refine wpAny_bind (wpAny_callSpecial?_slot (name := Str.ofString "__getitem__") ht.typeIs PyProof.Rows.slot_tuple_getitem
    (wpAny_call_entry PyProof.Rows.slot_tuple_getitem ht.typeIs PyProof.Rows.entry_tuple_getitem ?_ (PyProof.Rows.args_tuple_getitem _ _)))
  show wpAny _ _ (Builtin.Tuple.tupleItemsOf (.ref t) >>= _) _ _ s
  refine wpAny_bind (PyProof.Rows.tupleItemsOf_ ht ?_)
  refine wpAny_bind (wpAny_typeOf hTs ?_)
  rw [if_pos (by decide)]
  refine wpAny_bind (sliceApplied_rev hs pl pu ps ?_)
  have hno : ¬ ((((items.size : Nat) : Int) - 1 == 0 && (-1 : Int) == 1 && items.size == items.size) = true) := by
    intro q
    rw [Bool.and_eq_true, Bool.and_eq_true] at q
    exact absurd q.1.2 (by decide)
  show wpAny _ _ (if ((((items.size : Nat) : Int) - 1) == 0 && (-1 : Int) == 1 && items.size == items.size) = true then _ else _) _ _ s
  rw [if_neg hno, pick_rev]
  first
    | exact wpAny_bind (m := Builtin.Tuple.tupleExact _) (wpAny_newObj_type (wpAny_pure ⟨_, rfl, wpAny_pure h⟩) htake)
    | exact wpAny_bind (m := Builtin.Tuple.tupleExact _) (wpAny_newObj_type (wpAny_bind (wpAny_pure (wpAny_pure ⟨_, rfl, wpAny_pure h⟩))) htake)
    | exact wpAny_bind (wpAny_bind (m := Builtin.Tuple.tupleExact _) (wpAny_newObj_type (wpAny_pure (wpAny_pure ⟨_, rfl, wpAny_pure h⟩)) htake))
    | exact wpAny_bind (wpAny_bind (m := Builtin.Tuple.tupleExact _) (wpAny_newObj_type (wpAny_pure ⟨_, rfl, wpAny_pure h⟩) htake))
end
section
variable {X : Cx} {c : Cf} {ec : Ec} {O O' : Addr → Prop} {r r' : Env} {σ : L2.St} {H H' : Hp} {e a : Expr} {w wa : View} {pos : Pos}
def tRevG (K : PySem.W.Frag) (te : TE) : TE := fun σ H Q => te σ H fun x H1 => ∃ a xs, x = .ref a ∧ ((LsT K H1 a xs ∧ ∀ p, H1 p = none → Q (.ref p) (upd H1 p (.lst xs.reverse))) ∨ (SqT K H1 a xs ∧ ∀ p o, H1 p = none → o.dict = none → Q (.ref p) (upd H1 p (.frz o (.tup xs.reverse)))))
theorem pe_revG {e : Expr} {te : TE} {k : Nat} {p1 p2 p3 pos : Pos} (he : PE X e te) : PE X (.Subscript e (.Slice none none (some (.UnaryOp .USub (.Constant (.int 1) k p1) p2)) p3) pos) (tRevG X.K te) := by
  refine ⟨fun pins s σ H Q I h => ?_⟩
  refine Subscript_ (thn (he.run pins s σ H _ I h) fun v s1 ⟨x, H1, I1, r1, q1⟩ => ?_)
  obtain ⟨a, xs, ex, q⟩ := q1
  subst ex
  cases r1
  have hst : PO X (some (.UnaryOp .USub (.Constant (.int 1) k p1) p2)) (tPart (tUn (rU fun i => .int (-i)) (tC (.int 1)))) := po_some (pe_un un_neg pe_int)
  refine wpAny_Slice (thn (po_none.run pins s1 σ H1 (fun o H2 => o = none ∧ H2 = H1) I1 ⟨rfl, rfl⟩) fun vl s2 ⟨l, H2, I2, pl, el, e2⟩ => ?_)
  subst el e2
  refine thn (po_none.run pins s2 σ H2 (fun o H3 => o = none ∧ H3 = H2) I2 ⟨rfl, rfl⟩) fun vu s3 ⟨u, H3, I3, pu, eu, e3⟩ => ?_
  subst eu e3
  refine thn (hst.run pins s3 σ H3 (fun o H4 => o = some (-1) ∧ H4 = H3) I3 ⟨1, rfl, -1, rfl, rfl, rfl⟩) fun vs s4 ⟨o, H4, I4, ps, eo, e4⟩ => ?_
  subst eo e4
  have I5 : Inv X pins σ H4 { s4 with heap := s4.heap.push { cls := .type "slice", data := .fields #[vl, vu, vs] } } := I4.kept (t' := s4.toks) fun b ob q => Heap.get?_push_of_some _ q
  show wpAny (model X.prog X.w) X.A (subscriptTail e (.Slice none none (some (.UnaryOp .USub (.Constant (.int 1) k p1) p2)) p3) (.ref a) (.ref s4.heap.objs.size)) (EP X pins σ Q) X.xe { s4 with heap := s4.heap.push { cls := .type "slice", data := .fields #[vl, vu, vs] } }
  rcases q with ⟨hx, q⟩ | ⟨hx, q⟩
  · obtain ⟨its, n, r, he, hz⟩ := lst_ok I5 hx
    have hlen := r.length
    have ht : Heap.IsList (s4.heap.push { cls := .type "slice", data := .fields #[vl, vu, vs] }) a its.toArray := ⟨_, he, rfl, n, rfl⟩
    refine tail_any (ops := [.ref a, .ref s4.heap.objs.size]) ht.typeIs (PySem.slot_list_getitem.lookup) ?_ (by with_unfolding_all rfl)
    refine wpAny_getItem_list_slice ht (Heap.IsSliceOf.new _ vl vu vs) pl pu ps (by decide) ?_ (by rw [List.size_toArray, ← hlen]; exact hz)
    rw [PySem.W.krv_pick]
    refine ⟨.ref _, _, I5.laid (t' := s4.toks) (o := .lst xs.reverse) (fun b ob q => Heap.get?_push_of_some _ q) (Nat.le_refl _) ?_, rfl, q _ (I5.hok.fresh (Nat.le_refl _))⟩
    exact ⟨by rw [List.length_reverse]; exact hz, _, 0, r.reverse, Heap.get?_push_size _ rfl⟩
  · obtain ⟨its, r, ht, hz⟩ := I5.tuple hx
    refine tail_any (ops := [.ref a, .ref s4.heap.objs.size]) ht.typeIs (PyProof.Rows.slot_tuple_getitem.lookup) ?_ (by with_unfolding_all rfl)
    refine getItem_tuple_rev ht (Heap.IsSliceOf.new _ vl vu vs) pl pu ps ?_ (by rw [List.size_toArray, ← r.length]; exact hz)
    exact ⟨.ref _, _, tup_laid I5 r.reverse (by rw [List.length_reverse]; exact hz), rfl, q _ _ (I5.hok.fresh (Nat.le_refl _)) rfl⟩
theorem RepA.reverse {K : PySem.W.Frag} {H : Hp} {O : Addr → Prop} : ∀ {vs : List V} {ds : List D}, RepA K H O vs ds → RepA K H O vs.reverse ds.reverse
  | _, _, .nil => .nil
  | _, _, .cons r t => by
    rw [List.reverse_cons, List.reverse_cons]
    exact (RepA.reverse t).append (.cons r .nil)
theorem revPE (hK : X.K = c.K) (ha : SV X c ec a wa) {k : Nat} {p1 p2 p3 : Pos} : PE X (.Subscript a (.Slice none none (some (.UnaryOp .USub (.Constant (.int 1) k p1) p2)) p3) pos) (tD c (revE ec wa)) := by
  refine PE.imp (pe_revG ha.po) fun σ H Q ⟨O, r, d, r', R0, em, q⟩ => ?_
  unfold revE at em
  obtain ⟨⟨o1, r1⟩, e1, em⟩ := Option.bind_eq_some_iff.mp em
  obtain ⟨x, e3, em⟩ := Option.bind_eq_some_iff.mp em
  obtain ⟨z, e5, em⟩ := Option.map_eq_some_iff.mp em
  cases em
  refine ⟨O, r, o1, r1, R0, e1, fun v H1 O1 s1 R1 p1 => ?_⟩
  have rx := p1.res R1 e3
  cases x <;> simp only [revD] at e5 <;> first | (cases e5; done) | skip
  · cases e5
    obtain ⟨b, xs, rfl, sx, qx⟩ := rx.list
    refine ⟨b, xs, rfl, .inl ⟨by rw [hK]; exact sx, fun p np => ?_⟩⟩
    have g : Same H1 (upd H1 p (.lst xs.reverse)) := same_upd' np
    exact q _ _ O1 (s1.trans (Step.grow g)) (R1.grow g) (rep_new_lst R1.alive np qx.reverse)
  · cases e5
    obtain ⟨b, xs, rfl, sx, qx, _⟩ := rx.tuple
    refine ⟨b, xs, rfl, .inr ⟨by rw [hK]; exact sx, fun p o np hd => ?_⟩⟩
    have g : Same H1 (upd H1 p (.frz o (.tup xs.reverse))) := same_upd' np
    exact q _ _ O1 (s1.trans (Step.grow g)) (R1.grow g) (rep_new_tup R1.alive np hd qx.reverse)
end
end Mp

/-! targets; holding; comprehensions -/
namespace Mp
open PySem PySem.Spec PyProof.Rows L2

/-! ### an address held beside the slots -/
def Cf.hold (c : Cf) (a : Addr) (o : HO) : Cf := { c with H0 := upd c.H0 a o, O0 := add c.O0 a }
section
variable {c : Cf} {O O' : Addr → Prop} {r r' : Env} {σ σ' : L2.St} {H H' : Hp} {i j : Nat} {d : D} {v : V} {a : Addr} {o : HO}
theorem R.holdUp (R0 : R c O r σ H) (oa : O a) (b : Bare c r σ a) (e : H a = some o) : R (c.hold a o) O r σ H := by
  refine ⟨R0.len, R0.fz, fun i d h m => ?_, R0.sep, R0.io, fun i b' h m e' z => ?_, fun b' u h n => ?_, fun b' z => z.elim (R0.sub b') fun z => z ▸ oa, R0.alive, fun b' z => .inl (R0.i0 b' z)⟩
  · obtain ⟨b', e1, e2, e3, e4⟩ := R0.ow i d h m
    refine ⟨b', e1, e2, e3.imp id fun z => ?_, e4⟩
    have : b' ≠ a := fun z => b i (by rw [h]; rfl) m (z ▸ e1)
    exact (upd_ne this).trans z
  · rcases z with z | z
    · exact R0.own i b' h m e' z
    · subst z
      exact b i h (by rw [show c.mode i = .ow from m]; decide) e'
  · by_cases z : b' = a
    · subst z
      have h : upd c.H0 b' o b' = some u := h
      rw [upd_same] at h
      rw [← h]; exact e
    · exact R0.frame b' u ((upd_ne z).symm.trans h) n
theorem R.holdDown (R0 : R (c.hold a o) O r σ H) (h0 : c.H0 a = none) (n0 : ¬ c.O0 a) (i0 : ∀ b, c.I0 b → c.O0 b) : R c O r σ H ∧ O a ∧ Bare c r σ a ∧ H a = some o := by
  have nI : ¬ c.I0 a := fun z => n0 (i0 a z)
  refine ⟨⟨R0.len, R0.fz, fun i d h m => ?_, R0.sep, R0.io, fun i b h m e z => R0.own i b h m e (.inl z), fun b u h n => ?_, fun b z => R0.sub b (.inl z), R0.alive, i0⟩, R0.sub a (.inr rfl), fun i h m e => ?_, R0.frame a o upd_same nI⟩
  · obtain ⟨b, e1, e2, e3, e4⟩ := R0.ow i d h m
    refine ⟨b, e1, e2, e3.imp id fun z => ?_, e4⟩
    by_cases q : b = a
    · subst q; exact h0
    · exact (upd_ne q).symm.trans z
  · have q : b ≠ a := fun z => by subst z; rw [h0] at h; cases h
    exact R0.frame b u ((upd_ne q).trans h) n
  · obtain ⟨d, q⟩ := isSome_get h
    obtain ⟨b, e1, e2, e3, e4⟩ := R0.ow i d q m
    rw [e] at e1
    cases e1
    rcases e3 with z | z
    · exact nI z
    · have z : upd c.H0 a o a = none := z
      rw [upd_same] at z; cases z
/-- what is held is written -/
theorem R.rewrite (R0 : R c O r σ H) (oa : O a) (b : Bare c r σ a) (h0 : c.H0 a = none) (mo : (∃ xs, o = .lst xs) ∨ ∃ kvs, o = .dK kvs) : R c O r σ (upd H a o) := by
  have h := R0.write oa (.inr h0) mo r.length fun j h1 h2 h3 => absurd h3 (b j h1 h2)
  have e : r.set r.length none = r := by
    rw [List.set_eq_of_length_le (Nat.le_refl _)]
  rw [e] at h
  exact h
theorem Step.rewrite {O1 : Addr → Prop} {H1 : Hp} (s : Step O1 H1 O H) (e : H1 a = none) : Step O1 H1 O (upd H a o) := ⟨s.new, fun b u h n => by rw [upd_ne (ne_of_none h e)]; exact s.keep b u h n⟩

/-! ### slots wiped, and back -/
theorem wipe_get : ∀ {vs : List Nat} {σ : L2.St} {j : Nat}, (L2.wipe σ vs)[j]? = if j ∈ vs ∧ j < σ.length then some none else σ[j]?
  | [], σ, j => by simp [L2.wipe]
  | v :: vs, σ, j => by
    unfold L2.wipe
    have ih := @wipe_get vs σ j
    by_cases e : v = j
    · subst e
      by_cases l : v < σ.length
      · rw [List.getElem?_set_self (by rw [wipe_length]; exact l), if_pos ⟨List.mem_cons_self, l⟩]
      · rw [List.getElem?_eq_none (by rw [List.length_set, wipe_length]; omega), if_neg (fun z => l z.2), List.getElem?_eq_none (by omega)]
    · rw [List.getElem?_set_ne e, ih]
      have : (j ∈ v :: vs) ↔ j ∈ vs := by simp [Ne.symm e]
      simp only [this]
theorem wipe_eq {vs : List Nat} (hl : σ'.length = σ.length) (h : ∀ j, j ∉ vs → σ'[j]? = σ[j]?) : L2.wipe σ' vs = L2.wipe σ vs := by
  refine List.ext_getElem? fun j => ?_
  rw [wipe_get, wipe_get, hl]
  by_cases hj : j ∈ vs
  · by_cases l : j < σ.length
    · rw [if_pos ⟨hj, l⟩, if_pos ⟨hj, l⟩]
    · rw [if_neg (fun z => l z.2), if_neg (fun z => l z.2), List.getElem?_eq_none (by omega), List.getElem?_eq_none (by omega)]
  · rw [if_neg (fun z => hj z.1), if_neg (fun z => hj z.1), h j hj]
theorem wipe_wipe {vs : List Nat} : L2.wipe (L2.wipe σ vs) vs = L2.wipe σ vs := wipe_eq (wipe_length _ _) fun j hj => by rw [wipe_get, if_neg (fun z => hj z.1)]
theorem wipe_keep {vs : List Nat} (hv : ∀ j ∈ vs, c.mode j = .fz) : ∀ j, c.mode j ≠ .fz → (L2.wipe σ vs)[j]? = σ[j]? := fun j h => by
  rw [wipe_get, if_neg (fun z => h (hv j z.1))]
theorem R.wipeS (R0 : R c O r σ H) {vs : List Nat} (hv : ∀ j ∈ vs, c.mode j = .fz) : R c O (Mp.wipe r vs) (L2.wipe σ vs) H := by
  have R1 := R0.wipe vs
  have k := wipe_keep (σ := σ) hv
  refine ⟨R1.len.trans (wipe_length _ _).symm, fun i d h m => ?_, fun i d h m => ?_, fun i j a h1 h2 m1 m2 e1 e2 => ?_, fun i m => ?_, fun i a h m e => ?_, R1.frame, R1.sub, R1.alive, R1.i0⟩
  · obtain ⟨v, e1, e2⟩ := R1.fz i d h m
    obtain ⟨_, h2⟩ := get_wipe h
    exact ⟨v, by rw [wipe_get, if_neg (fun z => h2 z.1)]; exact e1, e2⟩
  · rw [k i m]
    exact R1.ow i d h m
  · rw [k i m1] at e1
    rw [k j m2] at e2
    exact R1.sep i j a h1 h2 m1 m2 e1 e2
  · rw [k i (by rw [m]; decide)]
    exact R1.io i m
  · rw [k i (by rw [m]; decide)] at e
    exact R1.own i a h m e
theorem R.back {O1 : Addr → Prop} {H1 : Hp} {r0 ρ : Env} {vs : List Nat} (R0 : R c O1 r0 σ H1) (s : Step O1 H1 O H) (R1 : R c O ρ (L2.wipe σ vs) H) (hv : ∀ j ∈ vs, c.mode j = .fz) : R c O (Mp.back r0 ρ vs) σ H := by
  have k := wipe_keep (σ := σ) hv
  have nf : ∀ {i d}, get (Mp.back r0 ρ vs) i = some d → c.mode i ≠ .fz → get ρ i = some d := fun {i d} h m => by
    rcases get_back h with ⟨h1, _⟩ | ⟨_, h2⟩
    · exact absurd (hv i h1) m
    · exact h2
  refine ⟨(back_len _ _ _).trans (R1.len.trans (wipe_length _ _)), fun i d h m => ?_, fun i d h m => ?_, fun i j a h1 h2 m1 m2 e1 e2 => ?_, fun i m => ?_, fun i a h m e => ?_, R1.frame, R1.sub, R1.alive, R1.i0⟩
  · rcases get_back h with ⟨h1, h2⟩ | ⟨h1, h2⟩
    · obtain ⟨v, e1, e2⟩ := R0.fz i d h2 m
      exact ⟨v, e1, e2.step s⟩
    · obtain ⟨v, e1, e2⟩ := R1.fz i d h2 m
      rw [wipe_get, if_neg (fun z => h1 z.1)] at e1
      exact ⟨v, e1, e2⟩
  · rw [← k i m]
    exact R1.ow i d (nf h m) m
  · obtain ⟨_, q1⟩ := isSome_get h1
    obtain ⟨_, q2⟩ := isSome_get h2
    rw [← k i m1] at e1
    rw [← k j m2] at e2
    exact R1.sep i j a (by rw [nf q1 m1]; rfl) (by rw [nf q2 m2]; rfl) m1 m2 e1 e2
  · rw [← k i (by rw [m]; decide)]
    exact R1.io i m
  · obtain ⟨_, q1⟩ := isSome_get h
    rw [← k i (by rw [m]; decide)] at e
    exact R1.own i a (by rw [nf q1 (by rw [m]; decide)]; rfl) m e
end

/-! ### targets -/
mutual
def slotsT : Tg → List Nat
  | .nm i => [i]
  | .tup ts => slotsTs ts
def slotsTs : List Tg → List Nat
  | [] => []
  | t :: ts => slotsT t ++ slotsTs ts
end
def tG (c : Cf) (ec : Ec) (t : Tg) : TG := fun v σ H Q => ∃ O r d r', R c O r σ H ∧ Rep c.K H O v d ∧ assign ec t d r = some r' ∧ ∀ σ', R c O r' σ' H → σ'.length = σ.length → (∀ j, j ∉ slotsT t → σ'[j]? = σ[j]?) → Q σ' H
def tGs (c : Cf) (ec : Ec) (ts : List Tg) : TGs := fun vs σ H Q => ∃ O r ds r', R c O r σ H ∧ RepA c.K H O vs ds ∧ assign.go ec ts ds r = some r' ∧ ∀ σ', R c O r' σ' H → σ'.length = σ.length → (∀ j, j ∉ slotsTs ts → σ'[j]? = σ[j]?) → Q σ' H
theorem PG.imp {X : Cx} {e : Expr} {t t' : TG} (h : PG X e t) (g : ∀ v σ H Q, t' v σ H Q → t v σ H Q) : PG X e t' := ⟨fun pins s σ H v u Q I r q => h.run pins s σ H v u Q I r (g v σ H Q q)⟩
theorem PG.pick {X : Cx} {e : Expr} {t' : TG} (g : ∀ v σ H Q, t' v σ H Q → ∃ t, PG X e t ∧ t v σ H Q) : PG X e t' := ⟨fun pins s σ H v u Q I r q => by
  obtain ⟨t, h, z⟩ := g v σ H Q q
  exact h.run pins s σ H v u Q I r z⟩
abbrev NoStarT (e : Expr) : Prop := ∀ (es : List Expr) (env : PySem.Env), assignEach (e :: es) env = (false, PySem.assign e env) :: assignEach es env
structure GV (X : Cx) (c : Cf) (ec : Ec) (e : Expr) (t : Tg) : Prop where
  pg : PG X e (tG c ec t)
  st : NoStarT e
inductive GVs (X : Cx) (c : Cf) (ec : Ec) : List Expr → List Tg → Prop
  | nil : GVs X c ec [] []
  | cons {e t es ts} : GV X c ec e t → GVs X c ec es ts → GVs X c ec (e :: es) (t :: ts)
section
variable {X : Cx} {c : Cf} {ec : Ec} {O O' : Addr → Prop} {r r' : Env} {σ σ' : L2.St} {H H' : Hp} {e : Expr} {pos : Pos}
theorem nmGV (hm : ec.md = c.md) (nd : X.N.Nodup) {i : Nat} {x : Str} (hi : X.N[i]? = some x) (hx : Loc X.env.scope x) (hf : X.fn x = true ∨ X.env.scope.names.lookup x = some .local) : GV X c ec (.Name x pos) (.nm i) := by
  refine ⟨PG.imp (pg_name nd hi hx hf) fun v σ H Q ⟨O, r, d, r', R0, rv, em, q⟩ => ?_, fun _ _ => rfl⟩
  unfold assign at em
  split at em
  · rename_i hh
    cases em
    have mi : c.mode i = .fz := by
      have := hh.1
      unfold Ec.mode at this
      unfold Cf.mode
      rw [← hm]; exact this
    refine q _ (R0.put mi hh.2 rv) (by simp) fun j hj => ?_
    have : j ≠ i := by simpa [slotsT] using hj
    rw [List.getElem?_set_ne (Ne.symm this)]
  · cases em
theorem GVs.pgs : ∀ {es : List Expr} {ts : List Tg}, GVs X c ec es ts → PGs X es (tGs c ec ts)
  | _, _, .nil => ⟨fun pins s σ H vs us Q I rv ⟨O, r, ds, r', R0, rvs, em, q⟩ => pgs_nil.run pins s σ H vs us Q I rv (by
      cases ds with
      | nil =>
        cases rvs
        cases em
        exact ⟨rfl, q _ R0 rfl fun _ _ => rfl⟩
      | cons d ds => cases em)⟩
  | _, _, .cons (t := t) (ts := ts) h hs => ⟨fun pins s σ H vs us Q I rv ⟨O, r, ds, r', R0, rvs, em, q⟩ => by
      refine (pgs_cons h.pg (GVs.pgs hs) (by rw [h.st]; rfl)).run pins s σ H vs us Q I rv ?_
      cases ds with
      | nil => cases em
      | cons d ds =>
        cases rvs with
        | cons r1 rr =>
          obtain ⟨r2, e1, e2⟩ := Option.bind_eq_some_iff.mp (show ((assign ec t d r).bind fun r1 => assign.go ec ts ds r1) = some r' from em)
          refine ⟨_, _, rfl, O, r, d, r2, R0, r1, e1, fun σ1 R1 l1 k1 => ⟨O, r2, ds, r', R1, rr, e2, fun σ2 R2 l2 k2 => q σ2 R2 (l2.trans l1) fun j hj => ?_⟩⟩
          simp only [slotsTs, List.mem_append, not_or] at hj
          rw [k2 j hj.2, k1 j hj.1]⟩
theorem GVs.each : ∀ {es : List Expr} {ts : List Tg} {env : PySem.Env}, GVs X c ec es ts → assignEach es env = es.map fun e => (false, PySem.assign e env)
  | _, _, _, .nil => rfl
  | _, _, env, .cons h hs => by rw [h.st, GVs.each hs]; rfl
theorem GVs.len : ∀ {es : List Expr} {ts : List Tg}, GVs X c ec es ts → es.length = ts.length
  | _, _, .nil => rfl
  | _, _, .cons h hs => by rw [List.length_cons, List.length_cons, GVs.len hs]
theorem go_len {ec : Ec} : ∀ {ts : List Tg} {ds : List D} {r r' : Env}, assign.go ec ts ds r = some r' → ts.length = ds.length
  | [], [], _, _, _ => rfl
  | [], _ :: _, _, _, h => by cases h
  | _ :: _, [], _, _, h => by cases h
  | t :: ts, d :: ds, r, r', h => by
    obtain ⟨r2, e1, e2⟩ := Option.bind_eq_some_iff.mp (show ((assign ec t d r).bind fun r1 => assign.go ec ts ds r1) = some r' from h)
    rw [List.length_cons, List.length_cons, go_len e2]
theorem tupGV (hK : X.K = c.K) (hc : X.calm = true) {es : List Expr} {ts : List Tg} (h : GVs X c ec es ts) {k : Nat} : GV X c ec (.Tuple es k pos) (.tup ts) := by
  have l1 : (assignEach es X.env).length = es.length := by rw [h.each, List.length_map]
  have l2 : (assignEach es X.env).findIdx? (·.1) = none := by
    rw [h.each]
    induction es with
    | nil => rfl
    | cons e es ih => simp [List.findIdx?_eq_none_iff]
  refine ⟨PG.pick fun v σ H Q ⟨O, r, d, r', R0, rv, em, q⟩ => ?_, fun _ _ => rfl⟩
  unfold assign at em
  obtain ⟨ds, e1, e2⟩ := Option.bind_eq_some_iff.mp em
  have lg := go_len e2
  cases d with
  | list ds' =>
    cases e1
    obtain ⟨a, xs, rfl, sx, qx⟩ := RepX.list (.inl rv)
    refine ⟨_, pg_unl hc h.pgs l1 l2, a, xs, rfl, (by rw [hK]; exact sx.sq), ?_, O, r, _, r', R0, qx, e2, q⟩
    rw [qx.length, ← lg, h.len]
  | tuple ds' =>
    cases e1
    obtain ⟨a, xs, rfl, sx, qx, _⟩ := RepX.tuple (.inl rv)
    refine ⟨_, pg_tup hc h.pgs l1 l2, a, xs, rfl, by rw [hK]; exact sx, ?_, O, r, _, r', R0, qx, e2, q⟩
    rw [qx.length, ← lg, h.len]
  | _ => cases e1
end
end Mp

/-! comprehensions -/
namespace Mp
open PySem PySem.Spec PyProof.Rows L2

def tGA (c : Cf) (ec : Ec) (t : Tg) : TG := fun v σ H Q => ∃ c', c'.K = c.K ∧ c'.md = c.md ∧ tG c' ec t v σ H Q
def tTA (c : Cf) (m : Env → Option (Bool × Env)) : TT := fun σ H Q => ∃ c', c'.K = c.K ∧ c'.md = c.md ∧ tTm c' m σ H Q
def tDA (c : Cf) (m : EM) : TE := fun σ H Q => ∃ c', c'.K = c.K ∧ c'.md = c.md ∧ tD c' m σ H Q
def tIA (c : Cf) (m : Env → Option (Its × Env)) : TI := fun σ H Q => ∃ c', c'.K = c.K ∧ c'.md = c.md ∧ tI c' m σ H Q
/-- shown in every block -/
abbrev Blk (X : Cx) (c : Cf) (scope : Scope) (P : Cx → Cf → Prop) : Prop := ∀ (c' : Cf), c'.K = c.K → c'.md = c.md → ∀ (s : Shared) (H : Hp) (C : Addr) (cl : List (Str × Addr)) (fp : List Addr), P (X.blk s H scope (compEnvC scope cl C X.env) fp) c'
theorem SVs.pts {X : Cx} {c : Cf} {ec : Ec} : ∀ {es : List Expr} {ws : List View}, SVs X c ec es ws → PTs X es (tTm c (tsV ws))
  | _, _, .nil => ⟨fun pins s σ H Q I ⟨O, r, b, r', R0, em, q⟩ => pts_nil.run pins s σ H Q I (by cases em; exact q H O Step.refl R0)⟩
  | _, _, .cons h .nil => pts_one h.pt
  | _, _, .cons h (.cons h2 t) => ⟨fun pins s σ H Q I ⟨O, r, b, r', R0, em, q⟩ => by cases em⟩

section
variable {X : Cx} {c : Cf} {ec : Ec} {O O' : Addr → Prop} {r r' : Env} {σ σ' : L2.St} {H H' : Hp} {D0 : Addr}
theorem Bare.wipeS {vs : List Nat} (b : Bare c r σ D0) (hv : ∀ j ∈ vs, c.mode j = .fz) : Bare c (Mp.wipe r vs) (L2.wipe σ vs) D0 := fun i h m e => by
  obtain ⟨d, q⟩ := isSome_get h
  rw [wipe_keep hv i m] at e
  exact b i (by rw [(get_wipe q).1]; rfl) m e
theorem Bare.back {r0 ρ : Env} {vs : List Nat} (b : Bare c ρ (L2.wipe σ vs) D0) (hv : ∀ j ∈ vs, c.mode j = .fz) : Bare c (Mp.back r0 ρ vs) σ D0 := fun i h m e => by
  obtain ⟨d, q⟩ := isSome_get h
  rcases get_back q with ⟨h1, _⟩ | ⟨_, h2⟩
  · exact m (hv i h1)
  · exact b i (by rw [h2]; rfl) m (by rw [wipe_keep hv i m]; exact e)
theorem Bare.wipe (b : Bare c r σ D0) (vs : List Nat) : Bare c (Mp.wipe r vs) σ D0 := fun i h m e => by
  obtain ⟨d, q⟩ := isSome_get h
  exact b i (by rw [(get_wipe q).1]; rfl) m e
theorem Bare.ofW {vs : List Nat} (b : Bare c r σ D0) : Bare c (Mp.wipe r vs) σ D0 := b.wipe vs
/-- the state of a comprehension's loop: the list so far stands at D0 -/
structure CL (c : Cf) (O1 : Addr → Prop) (H1 : Hp) (σ : L2.St) (D0 : Addr) (H : Hp) (ρ : Env) (acc : List D) : Prop where
  ex : ∃ O xs, Step O1 H1 O H ∧ R c O ρ σ H ∧ O D0 ∧ H D0 = some (.lst xs) ∧ RepA c.K H O xs acc ∧ Bare c ρ σ D0
structure CD (c : Cf) (O1 : Addr → Prop) (H1 : Hp) (σ : L2.St) (D0 : Addr) (H : Hp) (ρ : Env) (acc : List (D × D)) : Prop where
  ex : ∃ O xs, Step O1 H1 O H ∧ R c O ρ σ H ∧ O D0 ∧ H D0 = some (.dK xs) ∧ (xs.map (·.1)).Nodup ∧ RepK c.K H O xs acc ∧ Bare c ρ σ D0
/-- a step that leaves D0's object, behind it D0's object is changed -/
theorem Step.chg {O2 O4 : Addr → Prop} {H2 H4 : Hp} {o : HO} (s : Step O2 H2 O4 H4) (oD : O2 D0) : Step O2 H2 O4 (upd H4 D0 o) := ⟨s.new, fun a u h n => by
  rw [upd_ne (fun z : a = D0 => n (by rw [z]; exact oD))]
  exact s.keep a u h n⟩
/-- ONE TURN of a comprehension over a list: from the state at the turn's start (the item yielded) to the next state -/
theorem lc_turn {O1 : Addr → Prop} {H1 : Hp} {ρ : Env} {acc : List D} {vs : List Nat} {t : Tg} {cond : Env → Option (Bool × Env)} {elt : EM} {d : D} {x : V}
    (h0 : c.H0 D0 = none) (n0 : ¬ c.O0 D0) (i0 : ∀ b, c.I0 b → c.O0 b) (hv : ∀ j ∈ vs, c.mode j = .fz) (ht : ∀ j ∈ slotsT t, j ∈ vs) (hD1 : H1 D0 = none)
    {O : Addr → Prop} {xs : List V} (s : Step O1 H1 O H) (R2 : R c O ρ (L2.wipe σ vs) H) (oD : O D0) (eD : H D0 = some (.lst xs)) (ra : RepA c.K H O xs acc) (bD : Bare c ρ (L2.wipe σ vs) D0) (rx : Rep c.K H O x d)
    {ρ1 ρ2 : Env} {b : Bool} (e1 : assign ec t d (Mp.wipe ρ vs) = some ρ1) (e2 : cond ρ1 = some (b, ρ2))
    {Nx : Hp → Prop} (hN : ∀ H' ρ3 acc', CL c O1 H1 (L2.wipe σ vs) D0 H' (Mp.wipe ρ3 vs) acc' → (if b = true then ∃ y, elt ρ2 = some (y, ρ3) ∧ acc' = acc ++ [y] else ρ3 = ρ2 ∧ acc' = acc) → Nx H')
    (hE : b = true → ∃ y ρ3, elt ρ2 = some (y, ρ3) ∧ acc.length < sizeLine) :
    tGA c ec t x (L2.wipe σ vs) H fun σ2 H2 => L2.wipe σ2 vs = L2.wipe σ vs ∧ tTA c cond σ2 H2 fun b H3 =>
      if b = true then tDA c elt σ2 H3 fun y H4 => ∃ acc, H4 D0 = some (.lst acc) ∧ acc.length < sizeLine ∧ Nx (upd H4 D0 (.lst (acc ++ [y]))) else Nx H3 := by
  have Rh := R2.holdUp oD bD eD
  refine ⟨c.hold D0 (.lst xs), rfl, rfl, O, Mp.wipe ρ vs, d, ρ1, Rh.wipe vs, rx, e1, fun σ2 R3 l3 k3 => ?_⟩
  have w2 : L2.wipe σ2 vs = L2.wipe σ vs := by
    rw [wipe_eq (σ := L2.wipe σ vs) l3 fun j hj => k3 j fun z => hj (ht j z), wipe_wipe]
  refine ⟨w2, c.hold D0 (.lst xs), rfl, rfl, O, ρ1, b, ρ2, R3, e2, fun H3 O3 s3 R4 => ?_⟩
  cases b with
  | false =>
    rw [if_neg Bool.false_ne_true]
    obtain ⟨R5, oD5, bD5, eD5⟩ := R4.holdDown h0 n0 i0
    refine hN H3 ρ2 acc ⟨O3, xs, s.trans s3, ?_, oD5, eD5, ra.step s3, ?_⟩ (by rw [if_neg Bool.false_ne_true]; exact ⟨rfl, rfl⟩)
    · rw [← w2]; exact R5.wipeS hv
    · rw [← w2]; exact bD5.wipeS hv
  | true =>
    rw [if_pos rfl]
    obtain ⟨y, ρ3, e3, hz⟩ := hE rfl
    refine ⟨c.hold D0 (.lst xs), rfl, rfl, O3, ρ2, y, ρ3, R4, e3, fun u H4 O4 s4 R5 ru => ?_⟩
    obtain ⟨R6, oD6, bD6, eD6⟩ := R5.holdDown h0 n0 i0
    refine ⟨xs, eD6, by rw [ra.length]; exact hz, hN _ ρ3 _ ⟨O4, xs ++ [u], ((s.trans s3).trans s4).rewrite hD1, ?_, oD6, upd_same, ?_, ?_⟩ (by rw [if_pos rfl]; exact ⟨y, e3, rfl⟩)⟩
    · rw [← w2]
      exact (R6.rewrite oD6 bD6 h0 (.inl ⟨_, rfl⟩)).wipeS hv
    · exact (ra.step ((s3.trans s4).chg oD)).append (.cons (ru.step (Step.refl.chg oD6)) .nil)
    · rw [← w2]
      exact bD6.wipeS hv
theorem compL_some {ok : Env → Bool} {w : Env → Env} {tg : D → Env → Option Env} {cond : Env → Option (Bool × Env)} {elt : EM} {ds acc out : List D} {ρ rE : Env} {i : Nat} {d : D} (hd : ds[i]? = some d)
    (e : compL ok w tg cond elt (ds.drop i) acc ρ = some (out, rE)) : ok ρ = true ∧ ∃ ρ1 b ρ2, tg d (w ρ) = some ρ1 ∧ cond ρ1 = some (b, ρ2) ∧
      (b = true → ∃ y ρ3, elt ρ2 = some (y, ρ3) ∧ acc.length < sizeLine ∧ compL ok w tg cond elt (ds.drop (i + 1)) (acc ++ [y]) (w ρ3) = some (out, rE)) ∧ (b = false → compL ok w tg cond elt (ds.drop (i + 1)) acc (w ρ2) = some (out, rE)) := by
  obtain ⟨hi, hd'⟩ := List.getElem?_eq_some_iff.mp hd
  rw [List.drop_eq_getElem_cons hi, hd'] at e
  unfold compL at e
  split at e
  · rename_i hok
    obtain ⟨ρ1, e1, e⟩ := Option.bind_eq_some_iff.mp e
    obtain ⟨⟨b, ρ2⟩, e2, e⟩ := Option.bind_eq_some_iff.mp e
    refine ⟨hok, ρ1, b, ρ2, e1, e2, fun hb => ?_, fun hb => ?_⟩
    · subst hb
      simp only [if_true] at e
      obtain ⟨⟨y, ρ3⟩, e3, e⟩ := Option.bind_eq_some_iff.mp e
      split at e
      · rename_i hz
        exact ⟨y, ρ3, e3, hz, e⟩
      · cases e
    · subst hb
      simpa using e
  · cases e
theorem compL_end {ok : Env → Bool} {w : Env → Env} {tg : D → Env → Option Env} {cond : Env → Option (Bool × Env)} {elt : EM} {ds acc out : List D} {ρ rE : Env} {i : Nat} (hi : ds.length ≤ i)
    (e : compL ok w tg cond elt (ds.drop i) acc ρ = some (out, rE)) : ok ρ = true ∧ out = acc ∧ rE = ρ := by
  rw [List.drop_eq_nil_of_le hi] at e
  unfold compL at e
  split at e
  · rename_i hok
    cases e
    exact ⟨hok, rfl, rfl⟩
  · cases e
/-- a comprehension with one for -/
theorem comp_rd {vs : List Nat} {t : Tg} {ws : View} {wifs : List View} {welt : View} {Q : VK} (hv : ∀ j ∈ vs, c.mode j = .fz) (ht : ∀ j ∈ slotsT t, j ∈ vs) (h : tF c (compE ec vs t ws wifs welt) σ H Q) :
    tLc (tI c ws.i) (tGA c ec t) (tTA c (tsV wifs)) (tDA c welt.e) vs σ H Q := by
  obtain ⟨O, r, d, r', R0, em, q⟩ := h
  unfold compE at em
  obtain ⟨⟨T, r1⟩, e1, em⟩ := Option.bind_eq_some_iff.mp em
  obtain ⟨⟨out, rE⟩, e2, em⟩ := Option.map_eq_some_iff.mp em
  cases em
  refine ⟨O, r, T, r1, R0, e1, fun J H1 O1 s1 R1 wk D0 nD => ?_⟩
  obtain ⟨n0, h0⟩ := R1.fresh nD
  obtain ⟨k1, k2, k3, k4, k5, _, _⟩ := new_lst R1 nD (RepA.nil)
  refine ⟨fun i m H => m = T.ds.length - i ∧ i ≤ T.ds.length ∧ ∃ ρ acc, CL c O1 H1 (L2.wipe σ vs) D0 H ρ acc ∧ compL T.ok (fun e => Mp.wipe e vs) (assign ec t) (tsV wifs) welt.e (T.ds.drop i) acc ρ = some (out, rE),
    ⟨T.ds.length, by simp, Nat.zero_le _, _, [], ⟨_, [], k1, k2.wipeS hv, k3, upd_same, .nil, k5.wipeS hv⟩, by simpa using e2⟩, ?_⟩
  rintro i m H2 ⟨rfl, hi, ρ, acc, ⟨O2, xs, s2, R2, oD, eD, ra, bD⟩, eC⟩
  by_cases hlt : i < T.ds.length
  · have hd : T.ds[i]? = some T.ds[i] := List.getElem?_eq_getElem hlt
    obtain ⟨ok, ρ1, b, ρ2, f1, f2, f3, f4⟩ := compL_some hd eC
    obtain ⟨w1, w2, w3⟩ := wk c rfl rfl i O2 H2 ρ (L2.wipe σ vs) s2 R2 (fun j _ _ h => wipe_keep hv j h) ok
    refine .inr ⟨w1 hlt, _, fun H' nx => ⟨T.ds.length - (i + 1), by omega, nx⟩, fun x H' y => ?_⟩
    obtain ⟨g, rx⟩ := w3 x H' y _ hd
    refine lc_turn (O1 := O1) (H1 := H1) (acc := acc) h0 n0 R1.i0 hv ht nD (s2.trans (Step.grow g)) (R2.grow g) oD (g _ _ eD) (ra.step (Step.grow g)) bD rx f1 f2 (fun H3 ρ3 acc' cl hh => ⟨rfl, hlt, Mp.wipe ρ3 vs, acc', cl, ?_⟩) fun hb => ?_
    · cases b with
      | true =>
        rw [if_pos rfl] at hh
        obtain ⟨y, g1, rfl⟩ := hh
        obtain ⟨y', ρ3', g2, _, g3⟩ := f3 rfl
        rw [g1] at g2
        cases g2
        exact g3
      | false =>
        rw [if_neg Bool.false_ne_true] at hh
        obtain ⟨rfl, rfl⟩ := hh
        exact f4 rfl
    · obtain ⟨y, ρ3, g1, g2, _⟩ := f3 hb
      exact ⟨y, ρ3, g1, g2⟩
  · have hi' : T.ds.length ≤ i := by omega
    obtain ⟨ok, rfl, rfl⟩ := compL_end hi' eC
    obtain ⟨w1, w2, w3⟩ := wk c rfl rfl i O2 H2 _ (L2.wipe σ vs) s2 R2 (fun j _ _ h => wipe_keep hv j h) ok
    exact .inl ⟨w2 hi', q D0 H2 O2 (s1.trans s2) (R1.back s2 R2 hv) oD (.lst eD ra) (bD.back hv) n0 h0⟩
theorem GV.all {scope : Scope} {tg : Expr} {t : Tg} (h : Blk X c scope fun X c => GV X c ec tg t) : ∀ (s : Shared) (H : Hp) (C : Addr) (cl : List (Str × Addr)) (fp : List Addr), PG (X.blk s H scope (compEnvC scope cl C X.env) fp) tg (tGA c ec t) :=
  fun s H C cl fp => PG.pick fun v σ H Q ⟨c', h1, h2, q⟩ => ⟨_, (h c' h1 h2 s _ C cl fp).pg, q⟩
theorem SVs.all {scope : Scope} {es : List Expr} {ws : List View} (h : Blk X c scope fun X c => SVs X c ec es ws) : ∀ (s : Shared) (H : Hp) (C : Addr) (cl : List (Str × Addr)) (fp : List Addr), PTs (X.blk s H scope (compEnvC scope cl C X.env) fp) es (tTA c (tsV ws)) :=
  fun s H C cl fp => ⟨fun pins s1 σ H Q I ⟨c', h1, h2, q⟩ => (h c' h1 h2 s _ C cl fp).pts.run pins s1 σ H Q I q⟩
theorem SV.all {scope : Scope} {e : Expr} {w : View} (h : Blk X c scope fun X c => SV X c ec e w) : ∀ (s : Shared) (H : Hp) (C : Addr) (cl : List (Str × Addr)) (fp : List Addr), PE (X.blk s H scope (compEnvC scope cl C X.env) fp) e (tDA c w.e) :=
  fun s H C cl fp => PE.pick fun σ H Q ⟨c', h1, h2, q⟩ => ⟨_, (h c' h1 h2 s _ C cl fp).pe, q⟩
theorem SV.allI {scope : Scope} {tg e : Expr} {w : View} (h : Blk X c scope fun X c => SV X c ec e w) : ∀ (s : Shared) (H : Hp) (C : Addr) (cl : List (Str × Addr)) (fp : List Addr), PI (X.blk s H scope (compEnvC scope cl C X.env) fp) tg e (tIA c w.i) :=
  fun s H C cl fp => PI.pick fun σ H Q ⟨c', h1, h2, q⟩ => ⟨_, (h c' h1 h2 s _ C cl fp).pi tg, q⟩
/-- what a comprehension's parts show -/
structure LcOk (X : Cx) (c : Cf) (ec : Ec) (scope : Scope) (own : List (Str × Nat)) (vs : List Nat) (tg iter : Expr) (ifs : List Expr) (elt : Expr) (t : Tg) (ws : View) (wifs : List View) (welt : View) : Prop where
  calm : X.calm = true
  nd : X.N.Nodup
  blk : BlkOk X.N X.env.scope scope own
  ev : own.map (·.2) = vs
  hv : ∀ j ∈ vs, c.mode j = .fz
  ht : ∀ j ∈ slotsT t, j ∈ vs
  src : SV X c ec iter ws
  tgt : Blk X c scope fun X c => GV X c ec tg t
  tst : Blk X c scope fun X c => SVs X c ec ifs wifs
  elt : Blk X c scope fun X c => SV X c ec elt welt
theorem compPF {scope : Scope} {own : List (Str × Nat)} {vs : List Nat} {tg iter : Expr} {ifs : List Expr} {elt : Expr} {t : Tg} {ws : View} {wifs : List View} {welt : View} {pos : Pos} (h : LcOk X c ec scope own vs tg iter ifs elt t ws wifs welt) :
    PE X (.ListComp elt [⟨tg, iter, ifs, 0⟩] scope pos) (tF c (compE ec vs t ws wifs welt)) :=
  PE.imp (pe_lc h.calm h.nd (h.src.pi tg) h.blk (GV.all h.tgt) (SVs.all h.tst) (SV.all h.elt) (h.src.nf _)) fun σ H Q q => by
    rw [h.ev]
    exact comp_rd h.hv h.ht q

theorem comp2L_some {α : Type} {ok : Env → Bool} {w : Env → Env} {tg : D → Env → Option Env} {inner : α → Env → Option (α × Env)} {ds : List D} {acc out : α} {ρ rE : Env} {i : Nat} {d : D} (hd : ds[i]? = some d)
    (e : comp2L ok w tg inner (ds.drop i) acc ρ = some (out, rE)) : ok ρ = true ∧ ∃ ρ1 acc' ρ2, tg d (w ρ) = some ρ1 ∧ inner acc ρ1 = some (acc', ρ2) ∧ comp2L ok w tg inner (ds.drop (i + 1)) acc' (w ρ2) = some (out, rE) := by
  obtain ⟨hi, hd'⟩ := List.getElem?_eq_some_iff.mp hd
  rw [List.drop_eq_getElem_cons hi, hd'] at e
  unfold comp2L at e
  split at e
  · rename_i hok
    obtain ⟨ρ1, e1, e⟩ := Option.bind_eq_some_iff.mp e
    obtain ⟨⟨acc', ρ2⟩, e2, e⟩ := Option.bind_eq_some_iff.mp e
    exact ⟨hok, ρ1, acc', ρ2, e1, e2, e⟩
  · cases e
theorem comp2L_end {α : Type} {ok : Env → Bool} {w : Env → Env} {tg : D → Env → Option Env} {inner : α → Env → Option (α × Env)} {ds : List D} {acc out : α} {ρ rE : Env} {i : Nat} (hi : ds.length ≤ i)
    (e : comp2L ok w tg inner (ds.drop i) acc ρ = some (out, rE)) : ok ρ = true ∧ out = acc ∧ rE = ρ := by
  rw [List.drop_eq_nil_of_le hi] at e
  unfold comp2L at e
  split at e
  · rename_i hok
    cases e
    exact ⟨hok, rfl, rfl⟩
  · cases e
theorem wipe_sub {vs vs1 : List Nat} (h : ∀ j ∈ vs1, j ∈ vs) : L2.wipe (L2.wipe σ vs1) vs = L2.wipe σ vs := wipe_eq (wipe_length _ _) fun j hj => by rw [wipe_get, if_neg (fun z => hj (h j z.1))]
/-- a comprehension with two fors -/
theorem comp2_rd {vs vs1 : List Nat} {t t1 : Tg} {ws ws1 : View} {welt : View} {Q : VK} (hv : ∀ j ∈ vs, c.mode j = .fz) (hv1 : ∀ j ∈ vs1, j ∈ vs) (ht : ∀ j ∈ slotsT t, j ∈ vs) (ht1 : ∀ j ∈ slotsT t1, j ∈ vs1) (h : tF c (comp2E ec vs vs1 t ws t1 ws1 welt) σ H Q) :
    tLc2 (tI c ws.i) (tGA c ec t) (tTA c (tsV [])) (tIA c ws1.i) (tGA c ec t1) (tTA c (tsV [])) (tDA c welt.e) vs vs1 σ H Q := by
  have hvf : ∀ j ∈ vs1, c.mode j = .fz := fun j hj => hv j (hv1 j hj)
  obtain ⟨O, r, d, r', R0, em, q⟩ := h
  unfold comp2E at em
  obtain ⟨⟨T, r1⟩, e1, em⟩ := Option.bind_eq_some_iff.mp em
  obtain ⟨⟨out, rE⟩, e2, em⟩ := Option.map_eq_some_iff.mp em
  cases em
  refine ⟨O, r, T, r1, R0, e1, fun J H1 O1 s1 R1 wk D0 nD => ?_⟩
  obtain ⟨n0, h0⟩ := R1.fresh nD
  have i0 := R1.i0
  obtain ⟨k1, k2, k3, k4, k5, _, _⟩ := new_lst R1 nD (RepA.nil)
  refine ⟨fun i m H => m = T.ds.length - i ∧ i ≤ T.ds.length ∧ ∃ ρ acc, CL c O1 H1 (L2.wipe σ vs) D0 H ρ acc ∧ comp2L T.ok (fun e => Mp.wipe e vs) (assign ec t) (fun acc r1 => (ws1.i r1).bind fun s =>
      (compL s.1.ok (fun e => Mp.wipe e vs1) (assign ec t1) (fun e => some (true, e)) welt.e s.1.ds acc (Mp.wipe s.2 vs1))) (T.ds.drop i) acc ρ = some (out, rE),
    ⟨T.ds.length, by simp, Nat.zero_le _, _, [], ⟨_, [], k1, k2.wipeS hv, k3, upd_same, .nil, k5.wipeS hv⟩, by simpa using e2⟩, ?_⟩
  rintro i m H2 ⟨rfl, hi, ρ, acc, ⟨O2, xs, s2, R2, oD, eD, ra, bD⟩, eC⟩
  by_cases hlt : i < T.ds.length
  · have hd : T.ds[i]? = some T.ds[i] := List.getElem?_eq_getElem hlt
    obtain ⟨ok, ρ1, acc1, ρ2, f1, f2, f3⟩ := comp2L_some hd eC
    obtain ⟨w1, w2, w3⟩ := wk c rfl rfl i O2 H2 ρ (L2.wipe σ vs) s2 R2 (fun j _ _ h => wipe_keep hv j h) ok
    refine .inr ⟨w1 hlt, _, fun H' nx => ⟨T.ds.length - (i + 1), by omega, nx⟩, fun x H' y => ?_⟩
    obtain ⟨g, rx⟩ := w3 x H' y _ hd
    obtain ⟨⟨S, ρs⟩, g1, g2⟩ := Option.bind_eq_some_iff.mp f2
    have R3 := R2.grow g
    have Rh := R3.holdUp oD bD (g _ _ eD)
    refine ⟨c.hold D0 (.lst xs), rfl, rfl, O2, Mp.wipe ρ vs, _, ρ1, Rh.wipe vs, rx, f1, fun σ2 R4 l4 k4 => ?_⟩
    have wz : L2.wipe σ2 vs = L2.wipe σ vs := by
      rw [wipe_eq (σ := L2.wipe σ vs) l4 fun j hj => k4 j fun z => hj (ht j z), wipe_wipe]
    refine ⟨wz, c.hold D0 (.lst xs), rfl, rfl, O2, ρ1, true, ρ1, R4, rfl, fun H3 O3 s3 R5 => ?_⟩
    show (if true = true then _ else _)
    rw [if_pos rfl]
    refine ⟨c.hold D0 (.lst xs), rfl, rfl, O3, ρ1, S, ρs, R5, g1, fun J1 H4 O4 s4 R6 wk1 => ?_⟩
    obtain ⟨R7, oD7, bD7, eD7⟩ := R6.holdDown h0 n0 i0
    have sA : Step O2 H' O4 H4 := s3.trans s4
    have sB : Step O1 H1 O4 H4 := (s2.trans (Step.grow g)).trans sA
    have ra7 := (ra.step (Step.grow g)).step sA
    -- the inner loop
    refine ⟨fun j m H => m = S.ds.length - j ∧ j ≤ S.ds.length ∧ ∃ ρ acc, Step O4 H4 O4 H4 ∧ CL c O1 H1 (L2.wipe σ2 vs1) D0 H ρ acc ∧ (∃ O xs, Step O4 H4 O H ∧ R c O ρ (L2.wipe σ2 vs1) H ∧ O D0 ∧ H D0 = some (.lst xs) ∧ RepA c.K H O xs acc ∧ Bare c ρ (L2.wipe σ2 vs1) D0 ∧ Step O1 H1 O H) ∧
        compL S.ok (fun e => Mp.wipe e vs1) (assign ec t1) (fun e => some (true, e)) welt.e (S.ds.drop j) acc ρ = some (acc1, ρ2),
      ⟨S.ds.length, by simp, Nat.zero_le _, Mp.wipe ρs vs1, acc, Step.refl, ⟨O4, xs, sB, R7.wipeS hvf, oD7, eD7, ra7, bD7.wipeS hvf⟩, ⟨O4, xs, Step.refl, R7.wipeS hvf, oD7, eD7, ra7, bD7.wipeS hvf, sB⟩, by simpa using g2⟩, ?_⟩
    rintro j m H5 ⟨rfl, hj, ρj, accj, _, _, ⟨O5, xs5, s5, R8, oD8, eD8, ra8, bD8, sC⟩, eJ⟩
    by_cases hlt1 : j < S.ds.length
    · have hd1 : S.ds[j]? = some S.ds[j] := List.getElem?_eq_getElem hlt1
      obtain ⟨ok1, σ1, b1, σ2', a1, a2, a3, _⟩ := compL_some hd1 eJ
      obtain ⟨v1, v2, v3⟩ := wk1 c rfl rfl j O5 H5 ρj (L2.wipe σ2 vs1) s5 R8 (fun j _ _ h => wipe_keep hvf j h) ok1
      refine .inr ⟨v1 hlt1, _, fun H' nx => ⟨S.ds.length - (j + 1), by omega, nx⟩, fun x1 H6 y1 => ?_⟩
      obtain ⟨gg, rx1⟩ := v3 x1 H6 y1 _ hd1
      cases a2
      obtain ⟨y, ρ3, b2, b3, b4⟩ := a3 rfl
      -- as lc_turn, with both steps kept
      have Rj := (R8.grow gg).holdUp oD8 bD8 (gg _ _ eD8)
      refine ⟨c.hold D0 (.lst xs5), rfl, rfl, O5, Mp.wipe ρj vs1, _, σ1, Rj.wipe vs1, rx1, a1, fun σ3 Rk lk kk => ?_⟩
      have wk3 : L2.wipe σ3 vs1 = L2.wipe σ2 vs1 := by
        rw [wipe_eq (σ := L2.wipe σ2 vs1) lk fun j hj => kk j fun z => hj (ht1 j z), wipe_wipe]
      refine ⟨wk3, c.hold D0 (.lst xs5), rfl, rfl, O5, σ1, true, σ1, Rk, rfl, fun H7 O7 s7 Rl => ?_⟩
      show (if true = true then _ else _)
      rw [if_pos rfl]
      refine ⟨c.hold D0 (.lst xs5), rfl, rfl, O7, σ1, y, ρ3, Rl, b2, fun u H8 O8 s8 Rm ru => ?_⟩
      obtain ⟨R9, oD9, bD9, eD9⟩ := Rm.holdDown h0 n0 i0
      have sD : Step O5 H5 O8 H8 := ((Step.grow gg).trans s7).trans s8
      have hH4 : H4 D0 ≠ none := by rw [eD7]; simp
      have R10 : R c O8 (Mp.wipe ρ3 vs1) (L2.wipe σ2 vs1) (upd H8 D0 (.lst (xs5 ++ [u]))) := by
        rw [← wk3]
        exact (R9.rewrite oD9 bD9 h0 (.inl ⟨_, rfl⟩)).wipeS hvf
      have b10 : Bare c (Mp.wipe ρ3 vs1) (L2.wipe σ2 vs1) D0 := by
        rw [← wk3]
        exact bD9.wipeS hvf
      have ra10 : RepA c.K (upd H8 D0 (.lst (xs5 ++ [u]))) O8 (xs5 ++ [u]) (accj ++ [y]) := (ra8.step (sD.chg oD8)).append (.cons (ru.step (Step.refl.chg oD9)) .nil)
      have sE : Step O1 H1 O8 (upd H8 D0 (.lst (xs5 ++ [u]))) := (sC.trans sD).rewrite nD
      have sF : Step O4 H4 O8 (upd H8 D0 (.lst (xs5 ++ [u]))) := (s5.trans sD).chg oD7
      exact ⟨xs5, eD9, by rw [ra8.length]; exact b3, rfl, hlt1, Mp.wipe ρ3 vs1, accj ++ [y], Step.refl, ⟨O8, _, sE, R10, oD9, upd_same, ra10, b10⟩, ⟨O8, _, sF, R10, oD9, upd_same, ra10, b10, sE⟩, b4⟩
    · have hj' : S.ds.length ≤ j := by omega
      obtain ⟨ok1, rfl, rfl⟩ := compL_end hj' eJ
      obtain ⟨v1, v2, v3⟩ := wk1 c rfl rfl j O5 H5 _ (L2.wipe σ2 vs1) s5 R8 (fun j _ _ h => wipe_keep hvf j h) ok1
      have wq : L2.wipe (L2.wipe σ2 vs1) vs = L2.wipe σ vs := by rw [wipe_sub hv1, wz]
      refine .inl ⟨v2 hj', rfl, hlt, Mp.wipe ρ2 vs, acc1, ⟨O5, xs5, sC, ?_, oD8, eD8, ra8, ?_⟩, f3⟩
      · rw [← wq]; exact R8.wipeS hv
      · rw [← wq]; exact bD8.wipeS hv
  · have hi' : T.ds.length ≤ i := by omega
    obtain ⟨ok, rfl, rfl⟩ := comp2L_end hi' eC
    obtain ⟨w1, w2, w3⟩ := wk c rfl rfl i O2 H2 _ (L2.wipe σ vs) s2 R2 (fun j _ _ h => wipe_keep hv j h) ok
    exact .inl ⟨w2 hi', q D0 H2 O2 (s1.trans s2) (R1.back s2 R2 hv) oD (.lst eD ra) (bD.back hv) n0 h0⟩
structure Lc2Ok (X : Cx) (c : Cf) (ec : Ec) (scope : Scope) (own : List (Str × Nat)) (vs vs1 : List Nat) (tg iter tg1 iter1 elt : Expr) (t : Tg) (ws : View) (t1 : Tg) (ws1 welt : View) : Prop where
  calm : X.calm = true
  nd : X.N.Nodup
  blk : BlkOk X.N X.env.scope scope own
  ev : own.map (·.2) = vs
  hv : ∀ j ∈ vs, c.mode j = .fz
  hv1 : ∀ j ∈ vs1, j ∈ vs
  ht : ∀ j ∈ slotsT t, j ∈ vs
  ht1 : ∀ j ∈ slotsT t1, j ∈ vs1
  src : SV X c ec iter ws
  tgt : Blk X c scope fun X c => GV X c ec tg t
  src1 : Blk X c scope fun X c => SV X c ec iter1 ws1
  tgt1 : Blk X c scope fun X c => GV X c ec tg1 t1
  elt : Blk X c scope fun X c => SV X c ec elt welt
theorem comp2PF {scope : Scope} {own : List (Str × Nat)} {vs vs1 : List Nat} {tg iter tg1 iter1 elt : Expr} {t t1 : Tg} {ws ws1 welt : View} {pos : Pos} (h : Lc2Ok X c ec scope own vs vs1 tg iter tg1 iter1 elt t ws t1 ws1 welt) :
    PE X (.ListComp elt [⟨tg, iter, [], 0⟩, ⟨tg1, iter1, [], 0⟩] scope pos) (tF c (comp2E ec vs vs1 t ws t1 ws1 welt)) :=
  PE.imp (pe_lc2 h.calm h.nd (h.src.pi tg) h.blk (by rw [h.ev]; exact h.hv1) (GV.all h.tgt) (SVs.all (c := c) (ec := ec) (ws := []) fun _ _ _ _ _ _ _ _ => .nil) (SV.allI h.src1) (GV.all h.tgt1) (SVs.all (c := c) (ec := ec) (ws := []) fun _ _ _ _ _ _ _ _ => .nil) (SV.all h.elt) (h.src.nf _)
    (fun env x => (h.src1 c rfl rfl X.s_0 X.H_0 0 [] []).nf env x)) fun σ H Q q => by
    rw [h.ev]
    exact comp2_rd h.hv h.hv1 h.ht h.ht1 q
end
end Mp

/-! methods, displays of dicts, iterables -/
namespace Mp
open PySem PySem.Spec PyProof.Rows L2

section
variable {X : Cx} {c : Cf} {ec : Ec} {O O' : Addr → Prop} {r r' : Env} {σ σ' : L2.St} {H H' : Hp} {D0 a : Addr} {i : Nat} {d0 d : D} {pos apos cpos p0 : Pos} {e e1 e2 e3 : Expr} {w w1 w2 w3 : View}
/-- a slot's own list or dict is changed -/
theorem R.mut (R0 : R c O r σ H) (m : c.mode i ≠ .fz) (g : get r i = some d0) (e : σ[i]? = some (some (.ref a))) {o : HO} (mo : (∃ xs, o = .lst xs) ∨ ∃ kvs, o = .dK kvs) (q : OwnC c.K (upd H a o) O a d) :
    R c O (Mp.put r i d) σ (upd H a o) ∧ Step O H O (upd H a o) := by
  obtain ⟨a', e1, oa, hi, _⟩ := R0.ow i d0 g m
  rw [e] at e1
  cases e1
  have gs : (get r i).isSome = true := by rw [g]; rfl
  have R1 := R0.write oa hi mo i fun j hj mj ej => R0.sep j i a hj gs mj m ej e
  have hl := get_lt g
  have R2 := R1.hold m e (by simpa using hl) oa hi (fun mw => R0.own i a gs mw e) (fun j hj mj ej => by
    obtain ⟨w, hw⟩ := isSome_get hj
    exact R0.sep j i a (by rw [(get_set_none hw).1]; rfl) gs mj m ej e) q
  have e2 : Mp.put (r.set i none) i d = Mp.put r i d := by unfold Mp.put; rw [List.set_set]
  rw [e2] at R2
  exact ⟨R2, fun b h => .inl h, fun b u h n => by rw [upd_ne (fun z : b = a => n (by rw [z]; exact oa))]; exact h⟩
theorem R.at_list (R0 : R c O r σ H) (m : c.mode i ≠ .fz) {ds : List D} (g : get r i = some (.list ds)) : ∃ a xs, σ[i]? = some (some (.ref a)) ∧ O a ∧ H a = some (.lst xs) ∧ RepA c.K H O xs ds := by
  obtain ⟨a, e, oa, _, q⟩ := R0.ow i _ g m
  cases q with
  | lst h q => exact ⟨a, _, e, oa, h, q⟩
theorem R.at_dict (R0 : R c O r σ H) (m : c.mode i ≠ .fz) {es : List (D × D)} (g : get r i = some (.dict es)) : ∃ a kvs, σ[i]? = some (some (.ref a)) ∧ O a ∧ H a = some (.dK kvs) ∧ (kvs.map (·.1)).Nodup ∧ RepK c.K H O kvs es := by
  obtain ⟨a, e, oa, _, q⟩ := R0.ow i _ g m
  cases q with
  | dct h n q => exact ⟨a, _, e, oa, h, n, q⟩
theorem isLst_some {o : Option D} (h : isLst o = true) : ∃ ds, o = some (.list ds) := by
  unfold isLst at h
  split at h
  · exact ⟨_, rfl⟩
  · cases h
theorem isDct_some {o : Option D} (h : isDct o = true) : ∃ ds, o = some (.dict ds) := by
  unfold isDct at h
  split at h
  · exact ⟨_, rfl⟩
  · cases h
theorem mode_eq (hm : ec.md = c.md) (i : Nat) : ec.mode i = c.mode i := by unfold Ec.mode Cf.mode; rw [hm]
theorem starOk1 (h : NoStar e) {cpos : Pos} : (backTo cpos (starEach [e] X.env)).all (fun x => !x.1) = true := by
  rw [starEach_eq (es := [e]) (fun x hx => by rw [List.mem_singleton.mp hx]; exact h)]
  rfl
theorem appPE (hm : ec.md = c.md) {x : Str} (hv : PE X (.Name x p0) (tVar i)) (ha : SV X c ec e w) (hl : (apos.endLine == cpos.line) = true) :
    PE X (.Call (.Attribute (.Name x p0) "append" apos) [e] [] cpos) (tD c (appE ec i w)) := by
  refine PE.imp (pe_bm PySem.F.plainAttrs_list PySem.F.slot_list_append PySem.F.type_list_append mt_append hv (pa_cons ha.pe pa_nil (ha.st _ _)) rfl ?_ hl (ha.st _ _) rfl) fun σ H Q ⟨O, r, d, r', R0, em, q⟩ => ?_
  · rw [starOk1 ha.st]; rfl
  · unfold appE at em
    split at em
    · cases em
    · rename_i h1
      rw [not_or, mode_eq hm] at h1
      obtain ⟨h1, h2⟩ := h1
      obtain ⟨ds0, g0⟩ := isLst_some (by simpa using h2)
      obtain ⟨⟨d1, r1⟩, f1, em⟩ := Option.bind_eq_some_iff.mp em
      simp only at em
      split at em
      · rename_i ds g1
        split at em
        · rename_i hz
          cases em
          obtain ⟨a, xs, e1, oa, eH, ra⟩ := R0.at_list h1 g0
          refine ⟨_, e1, .inl ⟨rfl, xs, .inl (.inl eH)⟩, ?_⟩
          refine ⟨O, r, d1, r1, R0, f1, fun v H1 O1 s1 R1 rv => ?_⟩
          obtain ⟨a', xs1, e1', oa1, eH1, ra1⟩ := R1.at_list h1 g1
          rw [e1] at e1'
          cases e1'
          refine ⟨a, xs1, v, rfl, rfl, eH1, by rw [ra1.length]; exact hz, ?_⟩
          have s2 : Step O1 H1 O1 (upd H1 a (.lst (xs1 ++ [v]))) := Step.refl.chg oa1
          obtain ⟨R2, s3⟩ := R1.mut h1 g1 e1 (.inl ⟨xs1 ++ [v], rfl⟩) (.lst upd_same ((ra1.append (.cons rv .nil)).step s2))
          exact q _ _ O1 (s1.trans s3) R2 .non
        · cases em
      · cases em
def rExtR (K : PySem.W.Frag) : V → List V → Hp → VK → Prop := fun x vs H Q => ∃ l b xs zs, x = .ref l ∧ vs = [.ref b] ∧ H l = some (.lst xs) ∧ LsT K H b zs ∧ xs.length + zs.length ≤ sizeLine ∧ Q .non (upd H l (.lst (xs ++ zs)))
theorem mt_extR : MtR X "list.extend" (rExtR X.K) := by
  intro pins s σ H x vs v us Q I rx rv h
  obtain ⟨l, b, xs, zs, rfl, rfl, hH, hB, hz, q⟩ := h
  cases rx
  obtain ⟨u, rfl, ru⟩ := rv.one
  cases ru
  obtain ⟨z, its, n, r, hl, e⟩ := I.lstM hH
  obtain ⟨its2, n2, r2, e2, hz2⟩ := lst_ok I hB
  have hl2 : zs.length = its2.length := r2.length
  have hsz : its.toArray.size + its2.toArray.size ≤ sizeLine := by rw [List.size_toArray, List.size_toArray]; omega
  have hlong : ¬ (!its.toArray.isEmpty && Builtin.List.listTooLong (its.toArray.size + its2.toArray.size)) = true := by
    rw [notLongL hsz, Bool.and_false]
    exact Bool.false_ne_true
  refine call_meets F.slot_list_extend ⟨_, e, rfl⟩ F.entry_list_extend (F.args_list_extend_2 _ _)
    (AutoSeq1.list_extend_list_list_0 l its.toArray n b its2.toArray n2 hlong (by rw [List.size_toArray]; omega) (by omega)) ⟨e, e2, ?_⟩
  refine ⟨.non, _, I.lset (its' := its ++ its2) hH e (by simp) (r.append r2) ?_, rfl, q⟩
  rw [List.length_append]
  omega
theorem extPE (hK : X.K = c.K) (hm : ec.md = c.md) {x : Str} (hv : PE X (.Name x p0) (tVar i)) (ha : SV X c ec e w) (hl : (apos.endLine == cpos.line) = true) :
    PE X (.Call (.Attribute (.Name x p0) "extend" apos) [e] [] cpos) (tD c (extE ec i w)) := by
  refine PE.imp (pe_bm PySem.F.plainAttrs_list PySem.F.slot_list_extend PySem.F.type_list_extend mt_extR hv (pa_cons ha.pe pa_nil (ha.st _ _)) rfl ?_ hl (ha.st _ _) rfl) fun σ H Q ⟨O, r, d, r', R0, em, q⟩ => ?_
  · rw [starOk1 ha.st]; rfl
  · unfold extE at em
    split at em
    · cases em
    · rename_i h1
      rw [not_or, mode_eq hm] at h1
      obtain ⟨h1, h2⟩ := h1
      obtain ⟨ds0, g0⟩ := isLst_some (by simpa using h2)
      obtain ⟨⟨d1, r1⟩, f1, em⟩ := Option.bind_eq_some_iff.mp em
      simp only at em
      split at em
      · rename_i ds es g1
        split at em
        · rename_i hz
          cases em
          obtain ⟨a, xs, e1, oa, eH, ra⟩ := R0.at_list h1 g0
          refine ⟨_, e1, .inl ⟨rfl, xs, .inl (.inl eH)⟩, ?_⟩
          refine ⟨O, r, _, r1, R0, f1, fun v H1 O1 s1 R1 rv => ?_⟩
          obtain ⟨a', xs1, e1', oa1, eH1, ra1⟩ := R1.at_list h1 g1
          rw [e1] at e1'
          cases e1'
          obtain ⟨b, zs, rfl, rb, rz⟩ := RepX.list (.inl rv)
          refine ⟨a, b, xs1, zs, rfl, rfl, eH1, (by rw [hK]; exact rb), by rw [ra1.length, rz.length]; exact hz, ?_⟩
          have s2 : Step O1 H1 O1 (upd H1 a (.lst (xs1 ++ zs))) := Step.refl.chg oa1
          obtain ⟨R2, s3⟩ := R1.mut h1 g1 e1 (.inl ⟨xs1 ++ zs, rfl⟩) (.lst upd_same ((ra1.append rz).step s2))
          exact q _ _ O1 (s1.trans s3) R2 .non
        · cases em
      · cases em
def rUpdR (K : PySem.W.Frag) : V → List V → Hp → VK → Prop := fun x vs H Q => ∃ a b kvs more, x = .ref a ∧ vs = [.ref b] ∧ H a = some (.dK kvs) ∧ Rd H b (.dK more) ∧ a ≠ b ∧ kvs.length + more.length ≤ sizeLine ∧ Q .non (upd H a (.dK (mergeK kvs more)))
theorem mt_updR : MtR X "dict.update" (rUpdR X.K) := by
  intro pins s σ H x vs v us Q I rx rv h
  obtain ⟨a, b, kvs, more, rfl, rfl, hH, hB, hab, hz, q⟩ := h
  cases rx
  obtain ⟨u, rfl, ru⟩ := rv.one
  cases ru
  obtain ⟨z1, y1, vs1, rel1, d1⟩ := dk_of I.hok hH
  obtain ⟨z2, y2, vs2, rel2, d2⟩ := dk_rd I.hok hB
  have l1 := rel1.length
  have l2 := rel2.length
  refine call_meetsIn PySem.F.slot_dict_update d1.typeIs PySem.F.entry_dict_update (PySem.F.args_dict_update_2 _ _) (meets_dict_update (mixKind X.prog X.w) a b hab y2) ⟨vs1, vs2, d1, d2, by omega, fun h' e1 e2 sb => ?_⟩
  have hl : (mergeK kvs more).length ≤ sizeLine := Nat.le_trans (length_mergeK more kvs) hz
  exact ⟨.non, _, d_write (t' := s.toks) I (by rw [hH]; trivial) sb (by obtain ⟨o, _, _, h, _⟩ := e1; exact ⟨o, h⟩) (dk_new hl y1 (rel2.merge rel1) e1), rfl, q⟩
theorem strKs_rep {K : PySem.W.Frag} {H : Hp} {O : Addr → Prop} : ∀ {kvs : List (Key × V)} {es : List (D × D)}, RepK K H O kvs es → strKs es = true → ∃ ps, RepP K H O kvs ps ∧ ∀ acc, mergeD acc es = ps.foldl (fun kvs p => dput kvs p.1 p.2) acc
  | _, _, .nil, _ => ⟨[], .nil, fun _ => rfl⟩
  | (.inl i, v) :: kvs, _, .cons r t, h => by cases h
  | (.inr x, v) :: kvs, _, .cons (d := d) r t, h => by
    obtain ⟨ps, h1, h2⟩ := strKs_rep t h
    exact ⟨(x, d) :: ps, .cons r h1, fun acc => h2 _⟩
theorem updPE (hK : X.K = c.K) (hm : ec.md = c.md) {x : Str} (hv : PE X (.Name x p0) (tVar i)) (ha : SV X c ec e w) (hl : (apos.endLine == cpos.line) = true) :
    PE X (.Call (.Attribute (.Name x p0) "update" apos) [e] [] cpos) (tD c (updE ec i w)) := by
  refine PE.imp (pe_bm PySem.F.plainAttrs_dict PySem.F.slot_dict_update PySem.F.type_dict_update mt_updR hv (pa_cons ha.pe pa_nil (ha.st _ _)) rfl ?_ hl (ha.st _ _) rfl) fun σ H Q ⟨O, r, d, r', R0, em, q⟩ => ?_
  · rw [starOk1 ha.st]; rfl
  · unfold updE at em
    split at em
    · cases em
    · rename_i h1
      rw [not_or, mode_eq hm] at h1
      obtain ⟨h1, h2⟩ := h1
      obtain ⟨ds0, g0⟩ := isDct_some (by simpa using h2)
      obtain ⟨⟨d1, r1⟩, f1, em⟩ := Option.bind_eq_some_iff.mp em
      simp only at em
      split at em
      · rename_i ds es g1
        split at em
        · rename_i hz
          cases em
          obtain ⟨a, xs, e1, oa, eH, _, ra⟩ := R0.at_dict h1 g0
          refine ⟨_, e1, .inr (.inr (.inl ⟨rfl, .inl ⟨xs, eH⟩⟩)), ?_⟩
          refine ⟨O, r, _, r1, R0, f1, fun v H1 O1 s1 R1 rv => ?_⟩
          obtain ⟨a', xs1, e1', oa1, eH1, nd1, ra1⟩ := R1.at_dict h1 g1
          rw [e1] at e1'
          cases e1'
          obtain ⟨b, zs, rfl, rb, nb, nz, rz⟩ : ∃ b zs, v = .ref b ∧ Rd H1 b (.dK zs) ∧ ¬ O1 b ∧ (zs.map (·.1)).Nodup ∧ RepK c.K H1 O1 zs es := by
            cases rv with
            | dct h n nd q => exact ⟨_, _, rfl, .inr h, n, nd, q⟩
          have hab : a ≠ b := fun z => nb (z ▸ oa1)
          obtain ⟨ps, hp, hm'⟩ := strKs_rep rz hz.2
          obtain ⟨m1, m2⟩ := merge_rep hp ra1 nd1
          rw [← hm'] at m1
          refine ⟨a, b, xs1, zs, rfl, rfl, eH1, rb, hab, by rw [repk_len ra1, repk_len rz]; exact hz.1, ?_⟩
          have s2 : Step O1 H1 O1 (upd H1 a (.dK (mergeK xs1 zs))) := Step.refl.chg oa1
          obtain ⟨R2, s3⟩ := R1.mut h1 g1 e1 (.inr ⟨mergeK xs1 zs, rfl⟩) (.dct upd_same m2 (m1.step s2))
          exact q _ _ O1 (s1.trans s3) R2 .non
        · cases em
      · cases em
theorem popPE (hm : ec.md = c.md) {x : Str} (hv : PE X (.Name x p0) (tVar i)) (hl : (apos.endLine == cpos.line) = true) :
    PE X (.Call (.Attribute (.Name x p0) "pop" apos) [] [] cpos) (tD c (popE ec i)) := by
  refine PE.imp (pe_bm0 PySem.F.plainAttrs_list PySem.F.slot_list_pop PySem.F.type_list_pop mt_pop hv rfl hl) fun σ H Q ⟨O, r, d, r', R0, em, q⟩ => ?_
  unfold popE at em
  split at em
  · cases em
  · rename_i h1
    rw [mode_eq hm] at h1
    split at em
    · rename_i ds g0
      obtain ⟨y, hy, em⟩ := Option.map_eq_some_iff.mp em
      cases em
      obtain ⟨a, xs, e1, oa, eH, ra⟩ := R0.at_list h1 g0
      have hl2 := ra.length
      have hy' : ds[xs.length - 1]? = some d := by rw [hl2, ← List.getLast?_eq_getElem?]; exact hy
      obtain ⟨v, g1, rv⟩ := ra.get hy'
      refine ⟨_, e1, .inl ⟨rfl, xs, .inl (.inl eH)⟩, a, xs, v, rfl, rfl, eH, g1, ?_⟩
      have s2 : Step O H O (upd H a (.lst xs.dropLast)) := Step.refl.chg oa
      have rd : RepA c.K H O xs.dropLast ds.dropLast := by
        rw [List.dropLast_eq_take, List.dropLast_eq_take, hl2]
        exact ra.take _
      obtain ⟨R2, s3⟩ := R0.mut h1 g0 e1 (.inl ⟨xs.dropLast, rfl⟩) (.lst upd_same (rd.step s2))
      exact q _ _ O s3 R2 (rv.step s2)
    · cases em
theorem dgetPE (hu : X.A.units + 500 < cLine) (ho : SV X c ec e1 w1) (hk : SV X c ec e2 w2) (hx : SV X c ec e3 w3) (hb : attributeBase e1 "get" X.env (eval e1 X.env) = eval e1 X.env) (hl : (apos.endLine == cpos.line) = true) :
    PE X (.Call (.Attribute e1 "get" apos) [e2, e3] [] cpos) (tD c (dgetE ec w1 w2 w3)) := by
  have hs : starEach [e2, e3] X.env = [(false, eval e2 X.env), (false, eval e3 X.env)] := starEach_eq (es := [e2, e3]) fun x h => by
    rcases List.mem_cons.mp h with rfl | h
    · exact hk.st
    · rw [List.mem_singleton.mp h]; exact hx.st
  refine PE.imp (pe_dget2 (by omega) ho.po hk.pe hx.pe ⟨hb, ?_, hl, ?_⟩) fun σ H Q ⟨O, r, d, r', R0, em, q⟩ => ?_
  · rw [hs]; rfl
  · rw [hs]; rfl
  · unfold dgetE at em
    obtain ⟨⟨o1, r1⟩, f1, em⟩ := Option.bind_eq_some_iff.mp em
    simp only at em
    split at em
    · rename_i hd
      obtain ⟨es0, g0⟩ := isDct_some hd
      obtain ⟨⟨dk, r2⟩, f2, em⟩ := Option.bind_eq_some_iff.mp em
      obtain ⟨⟨dx, r3⟩, f3, em⟩ := Option.bind_eq_some_iff.mp em
      obtain ⟨dd, f4, em⟩ := Option.bind_eq_some_iff.mp em
      simp only at em
      split at em
      · rename_i kvs k hk2 hk4
        cases em
        refine ⟨O, r, o1, r1, R0, f1, fun v H1 O1 s1 R1 p1 => ?_⟩
        obtain ⟨a, kvs0, rfl, rd0, _, _⟩ := (p1.res R1 g0).dict
        refine ⟨a, rfl, .inl ⟨_, rd0⟩, O1, r1, _, r2, R1, f2, fun y H2 O2 s2 R2 ry => ⟨O2, r2, dx, _, R2, f3, fun z H3 O3 s3 R3 rz => ?_⟩⟩
        obtain ⟨a', o, ea, ek, dg, hs, hg⟩ := dget_of (((p1.step s2).step s3).res R3 f4) (.inl (ry.step s3))
        cases ea
        refine ⟨o, dg, q _ _ O3 ((s1.trans s2).trans s3) R3 ?_⟩
        cases hk3 : dget kvs k with
        | none =>
          rw [hk3] at hs
          cases o with
          | none => exact rz
          | some u => cases hs
        | some d1 =>
          obtain ⟨u, e1, e2⟩ := hg d1 hk3
          rw [e1]
          exact e2
      · cases em
    · cases em
/-! ### displays of dicts -/
theorem RepP.step (s : Step O H O' H') {K : PySem.W.Frag} : ∀ {kvs : List (Key × V)} {ps : List (Str × D)}, RepP K H O kvs ps → RepP K H' O' kvs ps
  | _, _, .nil => .nil
  | _, _, .cons r t => .cons (r.step s) (RepP.step s t)
theorem RepP.len {K : PySem.W.Frag} : ∀ {kvs : List (Key × V)} {ps : List (Str × D)}, RepP K H O kvs ps → kvs.length = ps.length
  | _, _, .nil => rfl
  | _, _, .cons _ t => by rw [List.length_cons, List.length_cons, RepP.len t]
abbrev SVsA (X : Cx) (c : Cf) (ec : Ec) (es : List Expr) (ws : List View) : Prop := ∀ (c' : Cf), c'.K = c.K → c'.md = c.md → SVs X c' ec es ws
def trsV (c : Cf) : List View → List View → List (TE × TE)
  | k :: ks, v :: vs => (tDA c k.e, tDA c v.e) :: trsV c ks vs
  | _, _ => []
theorem SV.peA {X : Cx} {c : Cf} {e : Expr} {w : View} (h : ∀ (c' : Cf), c'.K = c.K → c'.md = c.md → SV X c' ec e w) : PE X e (tDA c w.e) :=
  PE.pick fun σ H Q ⟨c', h1, h2, q⟩ => ⟨_, (h c' h1 h2).pe, q⟩
theorem SVs.cons_inv {es : List Expr} {ws : List View} {w : View} (h : SVs X c ec (e :: es) (w :: ws)) : SV X c ec e w ∧ SVs X c ec es ws := by
  cases h with
  | cons a b => exact ⟨a, b⟩
theorem SVs.len : ∀ {es : List Expr} {ws : List View}, SVs X c ec es ws → es.length = ws.length
  | _, _, .nil => rfl
  | _, _, .cons _ t => by rw [List.length_cons, List.length_cons, SVs.len t]
theorem pps_of : ∀ {ks vs : List Expr} {wk wv : List View}, SVsA X c ec ks wk → SVsA X c ec vs wv → ks.length = vs.length → PPs X pos (ks.map some) vs (trsV c wk wv)
  | [], [], wk, wv, hk, hv, _ => by
    cases hk c rfl rfl
    cases hv c rfl rfl
    exact pps_nil
  | k :: ks, v :: vs, wk, wv, hk, hv, hl => by
    cases wk with
    | nil => cases hk c rfl rfl
    | cons a wk =>
      cases wv with
      | nil => cases hv c rfl rfl
      | cons b wv =>
        exact pps_cons (SV.peA fun c' h1 h2 => (hk c' h1 h2).cons_inv.1) (SV.peA fun c' h1 h2 => (hv c' h1 h2).cons_inv.1)
          (pps_of (fun c' h1 h2 => (hk c' h1 h2).cons_inv.2) (fun c' h1 h2 => (hv c' h1 h2).cons_inv.2) (by simpa using hl))
  | [], _ :: _, _, _, _, _, hl => by simp at hl
  | _ :: _, [], _, _, _, _, hl => by simp at hl
theorem pairs_rd {c0 : Cf} (hK : c.K = c0.K) (hm : c.md = c0.md) : ∀ {wk wv : List View} {O : Addr → Prop} {r r' : Env} {H : Hp} {ps : List (Str × D)} {Q : List (V × V) → Hp → Prop}, R c O r σ H → kvV wk wv r = some (ps, r') →
    (∀ kvs H' O', Step O H O' H' → R c O' r' σ H' → RepP c.K H' O' kvs ps → Q (kvs.map fun kv => (kV kv.1, kv.2)) H') → tPairs (trsV c0 wk wv) σ H Q
  | [], [], O, r, r', H, ps, Q, R0, em, q => by
    cases em
    exact q [] H O Step.refl R0 .nil
  | k :: wk, v :: wv, O, r, r', H, ps, Q, R0, em, q => by
    unfold kvV at em
    obtain ⟨⟨dk, r1⟩, f1, em⟩ := Option.bind_eq_some_iff.mp em
    obtain ⟨⟨dv, r2⟩, f2, em⟩ := Option.bind_eq_some_iff.mp em
    simp only at em
    split at em
    · rename_i x h1
      obtain ⟨⟨ps', r3⟩, f3, em⟩ := Option.map_eq_some_iff.mp em
      cases em
      refine ⟨c, hK, hm, O, r, _, r1, R0, f1, fun y H1 O1 s1 R1 ry => ⟨c, hK, hm, O1, r1, dv, r2, R1, f2, fun z H2 O2 s2 R2 rz => pairs_rd hK hm R2 f3 fun kvs H3 O3 s3 R3 rk => ?_⟩⟩
      have ey : y = .str x := RepX.str (.inl ry)
      subst ey
      exact q ((.inr x, z) :: kvs) H3 O3 ((s1.trans s2).trans s3) R3 (.cons (rz.step s3) rk)
    · cases em
  | [], _ :: _, _, _, _, _, _, _, _, em, _ => by cases em
  | _ :: _, [], _, _, _, _, _, _, _, em, _ => by cases em
def dicM (wk wv : List View) : EM := fun r => (kvV wk wv r).bind fun q => if q.1.length ≤ 15 then some (.dict (mkDict q.1), q.2) else none
theorem kvV_len : ∀ {wk wv : List View} {r r' : Env} {ps : List (Str × D)}, kvV wk wv r = some (ps, r') → ps.length = wk.length
  | [], [], r, r', ps, em => by cases em; rfl
  | k :: wk, v :: wv, r, r', ps, em => by
    unfold kvV at em
    obtain ⟨⟨dk, r1⟩, f1, em⟩ := Option.bind_eq_some_iff.mp em
    obtain ⟨⟨dv, r2⟩, f2, em⟩ := Option.bind_eq_some_iff.mp em
    simp only at em
    split at em
    · obtain ⟨⟨ps', r3⟩, f3, em⟩ := Option.map_eq_some_iff.mp em
      cases em
      rw [List.length_cons, List.length_cons, kvV_len f3]
    · cases em
  | [], _ :: _, _, _, _, em => by cases em
  | _ :: _, [], _, _, _, em => by cases em
theorem dicPF {ks vs : List Expr} {wk wv : List View} (hk : SVsA X c ec ks wk) (hv : SVsA X c ec vs wv) (hl : ks.length = vs.length) : PE X (.Dict (ks.map some) vs pos) (tF c (dicM wk wv)) := by
  by_cases h0 : ks = []
  · subst h0
    cases vs with
    | cons _ _ => simp at hl
    | nil =>
      refine PE.imp pe_dnewK fun σ H Q ⟨O, r, d, r', R0, em, q⟩ p np => ?_
      cases hk c rfl rfl
      cases hv c rfl rfl
      unfold dicM kvV at em
      cases em
      obtain ⟨k1, k2, k3, k4, k5, k6, k7⟩ := new_dct R0 np (vs := []) (by simp) .nil
      exact q _ _ _ k1 k2 k3 k4 k5 k6 k7
  · by_cases h15 : ks.length ≤ 15
    · refine PE.imp (pe_disp (pps_of hk hv hl) (by simp [List.all_eq_true]) (by simpa using hl) (by simpa using h0) (by simpa using h15)) fun σ H Q ⟨O, r, d, r', R0, em, q⟩ p np => ?_
      unfold dicM at em
      obtain ⟨⟨ps, r1⟩, f1, em⟩ := Option.bind_eq_some_iff.mp em
      simp only at em
      split at em
      · rename_i hz
        cases em
        obtain ⟨n0, h00⟩ := R0.fresh np
        obtain ⟨k1, k2, k3, k4, k5, _, _⟩ := new_dct R0 np (vs := []) (by simp) .nil
        refine pairs_rd (c0 := c) (c := c.hold p (.dK [])) rfl rfl (k2.holdUp k3 k5 upd_same) f1 fun kvs H2 O2 s2 R2 rk => ?_
        obtain ⟨R3, o3, b3, e3⟩ := R2.holdDown h00 n0 R0.i0
        refine ⟨e3, kvs, rfl, by rw [rk.len]; exact hz, ?_⟩
        have s3 : Step O2 H2 O2 (upd H2 p (.dK (mergeK [] kvs))) := Step.refl.chg o3
        obtain ⟨m1, m2⟩ := merge_rep (rk.step s3) (acc := []) (es := []) .nil (by simp)
        exact q p _ O2 ((k1.trans s2).rewrite np) (R3.rewrite o3 b3 h00 (.inr ⟨_, rfl⟩)) o3 (.dct upd_same m2 m1) b3 n0 h00
      · cases em
    · refine PE.pick fun σ H Q ⟨O, r, d, r', R0, em, q⟩ => ?_
      unfold dicM at em
      obtain ⟨⟨ps, r1⟩, f1, em⟩ := Option.bind_eq_some_iff.mp em
      simp only at em
      split at em
      · rename_i hz
        have := kvV_len f1
        have := (hk c rfl rfl).len
        omega
      · cases em
theorem dicSV (hK : X.K = c.K) {ks vs : List Expr} {wk wv : List View} (hk : SVsA X c ec ks wk) (hv : SVsA X c ec vs wv) (hl : ks.length = vs.length) : SV X c ec (.Dict (ks.map some) vs pos) (plainV (dicM wk wv)) :=
  plainSV hK (PE.ofF (dicPF hk hv hl)) (fun _ => rfl) (fun _ _ => rfl) fun _ _ => rfl
end
end Mp

/-! dict comprehensions -/
namespace Mp
open PySem PySem.Spec PyProof.Rows L2

section
variable {X : Cx} {c : Cf} {ec : Ec} {O O' : Addr → Prop} {r r' : Env} {σ σ' : L2.St} {H H' : Hp} {D0 : Addr} {pos : Pos}
theorem dcompL_some {ok : Env → Bool} {w : Env → Env} {tg : D → Env → Option Env} {kf vf : EM} {ds : List D} {acc out : List (D × D)} {ρ rE : Env} {i : Nat} {d : D} (hd : ds[i]? = some d)
    (e : dcompL ok w tg kf vf (ds.drop i) acc ρ = some (out, rE)) : ok ρ = true ∧ ∃ ρ1 k ρ2 y ρ3, tg d (w ρ) = some ρ1 ∧ kf ρ1 = some (.str k, ρ2) ∧ vf ρ2 = some (y, ρ3) ∧ acc.length < sizeLine ∧
      dcompL ok w tg kf vf (ds.drop (i + 1)) (dput acc k y) (w ρ3) = some (out, rE) := by
  obtain ⟨hi, hd'⟩ := List.getElem?_eq_some_iff.mp hd
  rw [List.drop_eq_getElem_cons hi, hd'] at e
  unfold dcompL at e
  split at e
  · rename_i hok
    obtain ⟨ρ1, e1, e⟩ := Option.bind_eq_some_iff.mp e
    obtain ⟨⟨dk, ρ2⟩, e2, e⟩ := Option.bind_eq_some_iff.mp e
    obtain ⟨⟨y, ρ3⟩, e3, e⟩ := Option.bind_eq_some_iff.mp e
    simp only at e
    split at e
    · split at e
      · rename_i k hz
        exact ⟨hok, ρ1, _, ρ2, y, ρ3, e1, e2, e3, hz, e⟩
      · cases e
    · cases e
  · cases e
theorem dcompL_end {ok : Env → Bool} {w : Env → Env} {tg : D → Env → Option Env} {kf vf : EM} {ds : List D} {acc out : List (D × D)} {ρ rE : Env} {i : Nat} (hi : ds.length ≤ i)
    (e : dcompL ok w tg kf vf (ds.drop i) acc ρ = some (out, rE)) : ok ρ = true ∧ out = acc ∧ rE = ρ := by
  rw [List.drop_eq_nil_of_le hi] at e
  unfold dcompL at e
  split at e
  · rename_i hok
    cases e
    exact ⟨hok, rfl, rfl⟩
  · cases e
/-- what ONE TURN of a dict comprehension comes to: from the state that the item was yielded in -/
theorem dc_turn {O1 : Addr → Prop} {H1 : Hp} {ρ : Env} {acc : List (D × D)} {vs : List Nat} {t : Tg} {kf vf : EM} {d : D} {x : V}
    (h0 : c.H0 D0 = none) (n0 : ¬ c.O0 D0) (i0 : ∀ b, c.I0 b → c.O0 b) (hv : ∀ j ∈ vs, c.mode j = .fz) (ht : ∀ j ∈ slotsT t, j ∈ vs) (hD1 : H1 D0 = none)
    {O : Addr → Prop} {xs : List (Key × V)} (s : Step O1 H1 O H) (R2 : R c O ρ (L2.wipe σ vs) H) (oD : O D0) (eD : H D0 = some (.dK xs)) (nd : (xs.map (·.1)).Nodup) (ra : RepK c.K H O xs acc) (bD : Bare c ρ (L2.wipe σ vs) D0) (rx : Rep c.K H O x d)
    {ρ1 ρ2 ρ3 : Env} {k : Str} {y : D} (e1 : assign ec t d (Mp.wipe ρ vs) = some ρ1) (e2 : kf ρ1 = some (.str k, ρ2)) (e3 : vf ρ2 = some (y, ρ3)) (hz : acc.length < sizeLine)
    {Nx : Hp → Prop} (hN : ∀ H' O' xs', Step O H O' H' → Step O1 H1 O' H' → R c O' (Mp.wipe ρ3 vs) (L2.wipe σ vs) H' → O' D0 → H' D0 = some (.dK xs') → (xs'.map (·.1)).Nodup → RepK c.K H' O' xs' (dput acc k y) → Bare c (Mp.wipe ρ3 vs) (L2.wipe σ vs) D0 → Nx H') :
    tGA c ec t x (L2.wipe σ vs) H fun σ2 H2 => L2.wipe σ2 vs = L2.wipe σ vs ∧ tTA c (tsV []) σ2 H2 fun b H3 =>
      if b = true then tDA c kf σ2 H3 fun y H4 => tDA c vf σ2 H4 fun z H5 => ∃ kvs k, y = kV k ∧ H5 D0 = some (.dK kvs) ∧ kvs.length < sizeLine ∧ Nx (upd H5 D0 (.dK (putK kvs k z))) else Nx H3 := by
  have Rh := R2.holdUp oD bD eD
  refine ⟨c.hold D0 (.dK xs), rfl, rfl, O, Mp.wipe ρ vs, d, ρ1, Rh.wipe vs, rx, e1, fun σ2 R3 l3 k3 => ?_⟩
  have w2 : L2.wipe σ2 vs = L2.wipe σ vs := by
    rw [wipe_eq (σ := L2.wipe σ vs) l3 fun j hj => k3 j fun z => hj (ht j z), wipe_wipe]
  refine ⟨w2, c.hold D0 (.dK xs), rfl, rfl, O, ρ1, true, ρ1, R3, rfl, fun H3 O3 s3 R4 => ?_⟩
  show (if true = true then _ else _)
  rw [if_pos rfl]
  refine ⟨c.hold D0 (.dK xs), rfl, rfl, O3, ρ1, _, ρ2, R4, e2, fun u H4 O4 s4 R5 ru => ⟨c.hold D0 (.dK xs), rfl, rfl, O4, ρ2, y, ρ3, R5, e3, fun z H5 O5 s5 R6 rz => ?_⟩⟩
  have eu : u = .str k := RepX.str (.inl ru)
  subst eu
  obtain ⟨R7, oD7, bD7, eD7⟩ := R6.holdDown h0 n0 i0
  have sA : Step O H O5 H5 := (s3.trans s4).trans s5
  have hl : xs.length = acc.length := repk_len ra
  have s6 : Step O5 H5 O5 (upd H5 D0 (.dK (putK xs (.inr k) z))) := Step.refl.chg oD7
  refine ⟨xs, .inr k, rfl, eD7, by rw [hl]; exact hz, hN _ O5 (putK xs (.inr k) z) (sA.chg oD) ((s.trans sA).rewrite hD1) ?_ oD7 upd_same (put_keys nd) ?_ ?_⟩
  · rw [← w2]
    exact (R7.rewrite oD7 bD7 h0 (.inr ⟨_, rfl⟩)).wipeS hv
  · exact put_rep (rz.step s6) ((ra.step sA).step s6) nd
  · rw [← w2]
    exact bD7.wipeS hv
/-- a dict comprehension with one for -/
theorem dcomp_rd {vs : List Nat} {t : Tg} {ws wk wv : View} {Q : VK} (hv : ∀ j ∈ vs, c.mode j = .fz) (ht : ∀ j ∈ slotsT t, j ∈ vs) (h : tF c (dcompE ec vs t ws wk wv) σ H Q) :
    tDc (tI c ws.i) (tGA c ec t) (tTA c (tsV [])) (tDA c wk.e) (tDA c wv.e) vs σ H Q := by
  obtain ⟨O, r, d, r', R0, em, q⟩ := h
  unfold dcompE at em
  obtain ⟨⟨T, r1⟩, e1, em⟩ := Option.bind_eq_some_iff.mp em
  obtain ⟨⟨out, rE⟩, e2, em⟩ := Option.map_eq_some_iff.mp em
  cases em
  refine ⟨O, r, T, r1, R0, e1, fun J H1 O1 s1 R1 wk' D0 nD => ?_⟩
  obtain ⟨n0, h0⟩ := R1.fresh nD
  obtain ⟨k1, k2, k3, k4, k5, _, _⟩ := new_dct R1 nD (vs := []) (by simp) .nil
  refine ⟨fun i m H => m = T.ds.length - i ∧ i ≤ T.ds.length ∧ ∃ ρ acc, (∃ O xs, Step O1 H1 O H ∧ R c O ρ (L2.wipe σ vs) H ∧ O D0 ∧ H D0 = some (.dK xs) ∧ (xs.map (·.1)).Nodup ∧ RepK c.K H O xs acc ∧ Bare c ρ (L2.wipe σ vs) D0) ∧
      dcompL T.ok (fun e => Mp.wipe e vs) (assign ec t) wk.e wv.e (T.ds.drop i) acc ρ = some (out, rE),
    ⟨T.ds.length, by simp, Nat.zero_le _, _, [], ⟨_, [], k1, k2.wipeS hv, k3, upd_same, by simp, .nil, k5.wipeS hv⟩, by simpa using e2⟩, ?_⟩
  rintro i m H2 ⟨rfl, hi, ρ, acc, ⟨O2, xs, s2, R2, oD, eD, nd, ra, bD⟩, eC⟩
  by_cases hlt : i < T.ds.length
  · have hd : T.ds[i]? = some T.ds[i] := List.getElem?_eq_getElem hlt
    obtain ⟨ok, ρ1, k, ρ2, y, ρ3, f1, f2, f3, f4, f5⟩ := dcompL_some hd eC
    obtain ⟨w1, w2, w3⟩ := wk' c rfl rfl i O2 H2 ρ (L2.wipe σ vs) s2 R2 (fun j _ _ h => wipe_keep hv j h) ok
    refine .inr ⟨w1 hlt, _, fun H' nx => ⟨T.ds.length - (i + 1), by omega, nx⟩, fun x H' yd => ?_⟩
    obtain ⟨g, rx⟩ := w3 x H' yd _ hd
    refine dc_turn (O1 := O1) (H1 := H1) (acc := acc) h0 n0 R1.i0 hv ht nD (s2.trans (Step.grow g)) (R2.grow g) oD (g _ _ eD) nd (ra.step (Step.grow g)) bD rx f1 f2 f3 f4 (fun H3 O3 xs' _ t1 t2 t3 t4 t5 t6 t7 => ?_)
    exact ⟨rfl, hlt, Mp.wipe ρ3 vs, _, ⟨O3, xs', t1, t2, t3, t4, t5, t6, t7⟩, f5⟩
  · have hi' : T.ds.length ≤ i := by omega
    obtain ⟨ok, rfl, rfl⟩ := dcompL_end hi' eC
    obtain ⟨w1, w2, w3⟩ := wk' c rfl rfl i O2 H2 _ (L2.wipe σ vs) s2 R2 (fun j _ _ h => wipe_keep hv j h) ok
    exact .inl ⟨w2 hi', q D0 H2 O2 (s1.trans s2) (R1.back s2 R2 hv) oD (.dct eD nd ra) (bD.back hv) n0 h0⟩
/-- what a dict comprehension's parts show -/
structure DcOk (X : Cx) (c : Cf) (ec : Ec) (scope : Scope) (own : List (Str × Nat)) (vs : List Nat) (tg iter kx vx : Expr) (t : Tg) (ws wk wv : View) : Prop where
  calm : X.calm = true
  nd : X.N.Nodup
  blk : BlkOk X.N X.env.scope scope own
  ev : own.map (·.2) = vs
  hv : ∀ j ∈ vs, c.mode j = .fz
  ht : ∀ j ∈ slotsT t, j ∈ vs
  src : SV X c ec iter ws
  tgt : Blk X c scope fun X c => GV X c ec tg t
  key : Blk X c scope fun X c => SV X c ec kx wk
  val : Blk X c scope fun X c => SV X c ec vx wv
theorem dcompPF {scope : Scope} {own : List (Str × Nat)} {vs : List Nat} {tg iter kx vx : Expr} {t : Tg} {ws wk wv : View} (h : DcOk X c ec scope own vs tg iter kx vx t ws wk wv) :
    PE X (.DictComp kx vx [⟨tg, iter, [], 0⟩] scope pos) (tF c (dcompE ec vs t ws wk wv)) :=
  PE.imp (pe_dc h.calm h.nd (h.src.pi tg) h.blk (GV.all h.tgt) (SVs.all (c := c) (ec := ec) (ws := []) fun _ _ _ _ _ _ _ _ => .nil) (SV.all h.key) (SV.all h.val) (h.src.nf _)) fun σ H Q q => by
    rw [h.ev]
    exact dcomp_rd h.hv h.ht q
end
end Mp

/-! dict comprehensions with two fors -/
namespace Mp
open PySem PySem.Spec PyProof.Rows L2

section
variable {kx vx t0 i0 t1 i1 : Expr} {sc : Scope} {p : Pos}
abbrev dx2 (kx vx t0 i0 t1 i1 : Expr) (sc : Scope) (p : Pos) : Expr := .DictComp kx vx [⟨t0, i0, [], 0⟩, ⟨t1, i1, [], 0⟩] sc p
theorem dturn0 {it acc : Value} {env : PySem.Env} : compTurn (dx2 kx vx t0 i0 t1 i1 sc p) 0 it acc env = (do
    standAt i0.pos
    let r ← pyNext it
    match r with
    | none => pure (.done .next)
    | some v =>
      letOwnedTupleGo t0 it v
      PySem.assign t0 env v
      let x ← eval i1 env
      standAt i1.pos
      let x ← foldedSetIterable i1 env x
      let _ ← runOwn (.compStart (dx2 kx vx t0 i0 t1 i1 sc p) 1 (← holding [x] (pyIter x)) acc env) env
      again (.compLoop (dx2 kx vx t0 i0 t1 i1 sc p) 0 it acc env)) := by rfl
theorem dturn1 {it : Value} {D : Addr} {env : PySem.Env} : compTurn (dx2 kx vx t0 i0 t1 i1 sc p) 1 it (.ref D) env = (do
    standAt i1.pos
    let r ← pyNext it
    match r with
    | none => pure (.done .next)
    | some v =>
      letOwnedTupleGo t1 it v
      PySem.assign t1 env v
      (do
        let kv ← eval kx env
        let vv ← holding [kv] (eval vx env)
        standAt { kx.pos with endLine := vx.pos.endLine, endCol := vx.pos.endCol }
        holding [kv, vv] (dictSet D kv vv))
      again (.compLoop (dx2 kx vx t0 i0 t1 i1 sc p) 1 it (.ref D) env)) := by rfl
section
variable {P : Program} {w : World} {A : Around} {R : Result → Shared → Prop} {s : Shared} {kx vx t0 i0 t1 i1 : Expr} {sc : Scope} {p : Pos} {it acc : Value} {env : PySem.Env}
/-- where an exception goes -/
abbrev erOf (P : Program) (w : World) (A : Around) (env : PySem.Env) (R : Result → Shared → Prop) : Value → Shared → Prop := notedBy (model P w) A env fun e s' => R (.error e) s'
/-- the turn of either clause up to the store -/
theorem dstep {tg ie : Expr} {rest : Value → Sem PySem.Fin} {E : Value → Shared → Prop} {Qe : PySem.Fin → Shared → Prop}
    (h : wpAny (model P w) A (pyNext it) (fun r s1 => match r with
      | none => Qe (.done .next) s1
      | some v => wpAny (model P w) A (letOwnedTupleGo tg it v) (fun _ s2 => wpAny (model P w) A (PySem.assign tg env v) (fun _ s3 => wpAny (model P w) A (rest v) Qe E s3) E s2) E s1) E s) :
    wpAny (model P w) A (do
      standAt ie.pos
      let r ← pyNext it
      match r with
      | none => pure (.done .next)
      | some v =>
        letOwnedTupleGo tg it v
        PySem.assign tg env v
        rest v) Qe E s := by
  refine wpAny_bind (wpAny_standAt (wpAny_bind (wpAny_mono h (fun r s1 h1 => ?_) fun _ _ z => z)))
  cases r with
  | none => exact wpAny_pure h1
  | some v => exact wpAny_bind (wpAny_mono h1 (fun _ s2 h2 => wpAny_bind (wpAny_mono h2 (fun _ s3 h3 => h3) fun _ _ z => z)) fun _ _ z => z)
theorem dloop0 (hs : ∀ x, foldedSetIterable i1 env x = pure x) (I : Nat → Shared → Prop)
    (turn : ∀ n s, I n s → wpAny (model P w) A (pyNext it) (fun r s1 => match r with
      | none => R (.ok .next) s1
      | some v => wpAny (model P w) A (letOwnedTupleGo t0 it v) (fun _ s2 => wpAny (model P w) A (PySem.assign t0 env v) (fun _ s3 => wpAny (model P w) A (eval i1 env) (fun x s4 => wpAny (model P w) A (pyIter x) (fun y s5 =>
          codeAny (model P w) A (.compStart (dx2 kx vx t0 i0 t1 i1 sc p) 1 y acc env) (fun r s' => ∃ f, r = .ok f ∧ ∃ m, m < n ∧ I m s') s5) (erOf P w A env R) s4) (erOf P w A env R) s3) (erOf P w A env R) s2) (erOf P w A env R) s1) (erOf P w A env R) s)
    (n : Nat) (h : I n s) : codeAny (model P w) A (.compLoop (dx2 kx vx t0 i0 t1 i1 sc p) 0 it acc env) R s := by
  refine codeAny_loop rfl I (fun n s hI => ?_) n h
  show wpAny _ A ((compTurn (dx2 kx vx t0 i0 t1 i1 sc p) 0 it acc env).onRaise (fun x => do noteFrame x env; theTreesLotGoes x)) _ _ s
  refine wpAny_noted ?_
  rw [dturn0]
  refine dstep (wpAny_mono (turn n s hI) (fun r s1 h1 => ?_) fun _ _ z => z)
  cases r with
  | none => exact h1
  | some v =>
    refine wpAny_mono h1 (fun _ s2 h2 => wpAny_mono h2 (fun _ s3 h3 => ?_) fun _ _ z => z) fun _ _ z => z
    refine wpAny_bind (wpAny_mono h3 (fun x s4 h4 => wpAny_bind (wpAny_standAt (wpAny_bind (wpAny_of_eq (hs x) (wpAny_bind (wpAny_holding (wpAny_mono h4 (fun y s5 h5 => ?_) fun _ _ z => z))))))) fun _ _ z => z)
    refine wpAny_bind (wpAny_runOwn ?_)
    rw [Around.mark_none]
    refine codeAny_mono h5 fun r s' hr => ?_
    obtain ⟨f, rfl, hr⟩ := hr
    exact wpAny_pure ⟨rfl, hr⟩
theorem dloop1 {D : Addr} (I : Nat → Shared → Prop)
    (turn : ∀ n s, I n s → wpAny (model P w) A (pyNext it) (fun r s1 => match r with
      | none => R (.ok .next) s1
      | some v => wpAny (model P w) A (letOwnedTupleGo t1 it v) (fun _ s2 => wpAny (model P w) A (PySem.assign t1 env v) (fun _ s3 => wpAny (model P w) A (eval kx env) (fun a s4 => wpAny (model P w) A (eval vx env) (fun b s5 =>
          wpAny (model P w) A (dictSet D a b) (fun _ s' => ∃ m, m < n ∧ I m s') (erOf P w A env R) s5) (erOf P w A env R) s4) (erOf P w A env R) s3) (erOf P w A env R) s2) (erOf P w A env R) s1) (erOf P w A env R) s)
    (n : Nat) (h : I n s) : codeAny (model P w) A (.compLoop (dx2 kx vx t0 i0 t1 i1 sc p) 1 it (.ref D) env) R s := by
  refine codeAny_loop rfl I (fun n s hI => ?_) n h
  show wpAny _ A ((compTurn (dx2 kx vx t0 i0 t1 i1 sc p) 1 it (.ref D) env).onRaise (fun x => do noteFrame x env; theTreesLotGoes x)) _ _ s
  refine wpAny_noted ?_
  rw [dturn1]
  refine dstep (wpAny_mono (turn n s hI) (fun r s1 h1 => ?_) fun _ _ z => z)
  cases r with
  | none => exact h1
  | some v =>
    refine wpAny_mono h1 (fun _ s2 h2 => wpAny_mono h2 (fun _ s3 h3 => ?_) fun _ _ z => z) fun _ _ z => z
    exact wpAny_bind (wpAny_bind (wpAny_mono h3 (fun a s4 h4 => wpAny_bind (wpAny_holding (wpAny_mono h4 (fun b s5 h5 => wpAny_bind (wpAny_standAt (wpAny_holding (wpAny_mono h5 (fun _ s6 h6 => wpAny_pure ⟨rfl, h6⟩) fun _ _ z => z)))) fun _ _ z => z))) fun _ _ z => z))
/-- the start of the second clause -/
theorem dstart1 (h0 : codeAny (model P w) A (.compLoop (dx2 kx vx t0 i0 t1 i1 sc p) 1 it acc env) R s)
    (h : wpAny (model P w) A (pyIter it) (fun y s' => codeAny (model P w) A (.compLoop (dx2 kx vx t0 i0 t1 i1 sc p) 1 y acc env) R s') (erOf P w A env R) s) :
    codeAny (model P w) A (.compStart (dx2 kx vx t0 i0 t1 i1 sc p) 1 it acc env) R s := by
  refine codeAny_of_tree ?_
  show wpAny _ _ ((compStart (dx2 kx vx t0 i0 t1 i1 sc p) 1 it acc env).onRaise (fun x => do noteFrame x env; standAt theWindowsPlace)) _ _ s
  refine wpAny_notedAt ?_
  unfold compStart
  show wpAny _ _ (ask >>= _) _ _ s
  refine wpAny_bind (wpAny_askSetting (wpAny_ite ?_))
  split
  · first
      | exact wpAny_pure ⟨rfl, h0⟩
      | exact wpAny_bind (wpAny_pure (wpAny_pure ⟨rfl, h0⟩))
  · refine wpAny_bind (wpAny_rule ?_)
    show wpAny _ _ (standAt i1.pos >>= _) _ _ s
    exact wpAny_bind (wpAny_standAt (wpAny_bind (wpAny_mono h (fun y s' h' => wpAny_pure ⟨rfl, h'⟩) fun _ _ z => z)))
end

section
variable {X : Cx}
/-- one turn's key and value -/
def tKV (D : Addr) (tk tv : TE) (σ : L2.St) (H : Hp) (Nx : Hp → Prop) : Prop :=
  tk σ H fun y H1 => tv σ H1 fun z H2 => ∃ kvs k, y = kV k ∧ H2 D = some (.dK kvs) ∧ kvs.length < sizeLine ∧ Nx (upd H2 D (.dK (putK kvs k z)))
/-- the turns of the inner loop over J, each by g, then key and value; at its end Nx -/
def tIn (D : Addr) (g : TG) (tk tv : TE) (vs : List Nat) (Nx : Hp → Prop) (σ : L2.St) (J : It) (H : Hp) : Prop :=
  ∃ W : Nat → Nat → Hp → Prop, (∃ m, W 0 m H) ∧ ∀ j k H, W j k H → (J.stop j H ∧ Nx H) ∨ (J.go j H ∧ ∃ Nx1 : Hp → Prop, (∀ H', Nx1 H' → ∃ k', k' < k ∧ W (j + 1) k' H') ∧
    ∀ x H', J.yld j H x H' → g x (L2.wipe σ vs) H' fun σ3 H5 => L2.wipe σ3 vs = L2.wipe σ vs ∧ tKV D tk tv σ3 H5 Nx1)
def tDc2 (wi : TI) (g : TG) (wi1 : TI) (g1 : TG) (tk tv : TE) (vs vs1 : List Nat) : TE := fun σ H Q => wi σ H fun J H1 => ∀ D, H1 D = none → ∃ W : Nat → Nat → Hp → Prop, (∃ m, W 0 m (upd H1 D (.dK []))) ∧ ∀ i m H, W i m H →
  (J.stop i H ∧ Q (.ref D) H) ∨ (J.go i H ∧ ∃ Nx : Hp → Prop, (∀ H', Nx H' → ∃ m', m' < m ∧ W (i + 1) m' H') ∧ ∀ x H', J.yld i H x H' → g x (L2.wipe σ vs) H' fun σ2 H2 => L2.wipe σ2 vs = L2.wipe σ vs ∧ wi1 σ2 H2 fun J1 H4 => tIn D g1 tk tv vs1 Nx σ2 J1 H4)
/-- the inner loop, in the block's context -/
theorem dinner {kx vx t0 i0 t1 i1 : Expr} {sc : Scope} {p : Pos} {s3 : Shared} {H3 : Hp} {scope : Scope} {ce : PySem.Env} {fp fp1 : List Addr} {D it1 : Addr} {tn1 : Nat → Heap → Prop} {J1 : It} {g1 : TG} {tk tv : TE} {vs1 : List Nat} {Nx : Hp → Prop} {σ2 : L2.St} {pins : List (Addr × Obj)} {R : Result → Shared → Prop}
    (hc : X.calm = true) (T1 : Turn X.prog X.w X.K t1 J1 fp1 it1 tn1) (pg1 : PG (X.blk s3 H3 scope ce fp) t1 g1) (pk : PE (X.blk s3 H3 scope ce fp) kx tk) (pv : PE (X.blk s3 H3 scope ce fp) vx tv)
    (stat : ∀ {H' : Hp}, (∀ b ∈ fp1, H' b = none) → ∀ b ∈ fp1, FpOk (X.blk s3 H3 scope ce fp) pins H' b)
    (hR : ∀ H s, Inv (X.blk s3 H3 scope ce fp) pins (L2.wipe σ2 vs1) H s → Nx H → R (.ok .next) s)
    {s : Shared} {H : Hp} (I : Inv (X.blk s3 H3 scope ce fp) pins (L2.wipe σ2 vs1) H s) (st : tn1 0 s.heap) (nn : ∀ b ∈ fp1, H b = none) (q : tIn D g1 tk tv vs1 Nx σ2 J1 H) :
    codeAny (model X.prog X.w) X.A (.compLoop (dx2 kx vx t0 i0 t1 i1 sc p) 1 (.ref it1) (.ref D) ce) R s := by
  obtain ⟨W, ⟨m, w0⟩, turn⟩ := q
  refine dloop1 (fun k s => ∃ j H, Inv (X.blk s3 H3 scope ce fp) pins (L2.wipe σ2 vs1) H s ∧ tn1 j s.heap ∧ (∀ b ∈ fp1, H b = none) ∧ W j k H) ?_ m ⟨0, H, I, st, nn, w0⟩
  rintro k s ⟨j, H, I, st, nn, w0⟩
  rcases turn j k H w0 with ⟨stop, nx⟩ | ⟨go, Nx1, hN, step⟩
  · refine thnF (T1.done (X.blk s3 H3 scope ce fp) rfl rfl rfl hc j _ s _ H (fun _ _ => False) I (stat nn) st stop) fun r s' ⟨hr, I'⟩ => ?_
    subst hr
    exact hR _ _ I' nx
  · refine thnF (T1.item (X.blk s3 H3 scope ce fp) rfl rfl rfl hc j _ s _ H (fun _ _ => False) I (stat nn) st go) fun r s1 ⟨u, hr, h1⟩ => ?_
    subst hr
    refine thnF h1 fun _ s2 ⟨x, Ha, I2, rx, yx, st2, n2⟩ => ?_
    refine thnF (pg1.run _ s2 _ Ha x u _ (I2.pinned (stat n2) (T1.obj _ _ st2)) rx (step x Ha yx)) fun _ s3' ⟨σ3, Hb, I3, hw, q3⟩ => ?_
    refine thnF (pk.run _ s3' σ3 Hb _ I3 q3) fun a s4 ⟨ya, Hc, I4, ra, q4⟩ => ?_
    refine thnF (pv.run _ s4 σ3 Hc _ I4 q4) fun b s5 ⟨yb, Hd, I5, rb, kvs, ky, ek, hD, hz, nx⟩ => ?_
    subst ek
    refine d_dictSet (X := X.blk s3 H3 scope ce fp) I5 hD hz ra rb fun s6 I6 => ?_
    obtain ⟨k', hk, w'⟩ := hN _ nx
    have pin' : ∀ b ∈ fp1, ∀ o, s2.heap.get? b = some o → s6.heap.get? b = some o ∧ (upd Hd D (.dK (putK kvs ky yb))) b = none := fun b hb o e =>
      let z := I6.pin (b, o) (List.mem_append_right _ (List.mem_append_right _ (mem_pinsAt hb e)))
      ⟨z.1, z.2.1⟩
    refine ⟨k', hk, j + 1, _, I6.unpinned.weak (by rw [← hw, wipe_length]) (fun l v e => by rw [← hw] at e; exact (wipe_some e).1), T1.keep _ _ _ st2 fun b hb o e => (pin' b hb o e).1, fun b hb => ?_, w'⟩
    obtain ⟨o, e, _⟩ := T1.obj _ _ st2 b hb
    exact (pin' b hb o e).2
/-- {k: v for t0 in i0 for t1 in i1} -/
theorem pe_dc2 {kx vx t0 i0 t1 i1 : Expr} {scope : Scope} {own : List (Str × Nat)} {vs1 : List Nat} {pos : Pos} {wi wi1 : TI} {g g1 : TG} {tk tv : TE} (hc : X.calm = true) (hN : X.N.Nodup) (hi : PI X t0 i0 wi) (ok : BlkOk X.N X.env.scope scope own) (hv : ∀ i ∈ vs1, i ∈ own.map (·.2))
    (hg : ∀ (s : Shared) (H : Hp) (C : Addr) (cl : List (Str × Addr)) (fp : List Addr), PG (X.blk s H scope (compEnvC scope cl C X.env) fp) t0 g)
    (hi1 : ∀ (s : Shared) (H : Hp) (C : Addr) (cl : List (Str × Addr)) (fp : List Addr), PI (X.blk s H scope (compEnvC scope cl C X.env) fp) t1 i1 wi1)
    (hg1 : ∀ (s : Shared) (H : Hp) (C : Addr) (cl : List (Str × Addr)) (fp : List Addr), PG (X.blk s H scope (compEnvC scope cl C X.env) fp) t1 g1)
    (hk : ∀ (s : Shared) (H : Hp) (C : Addr) (cl : List (Str × Addr)) (fp : List Addr), PE (X.blk s H scope (compEnvC scope cl C X.env) fp) kx tk)
    (he : ∀ (s : Shared) (H : Hp) (C : Addr) (cl : List (Str × Addr)) (fp : List Addr), PE (X.blk s H scope (compEnvC scope cl C X.env) fp) vx tv) (hs : ∀ x, foldedSetIterable i0 X.env x = pure x) (hs1 : ∀ env x, foldedSetIterable i1 env x = pure x) :
    PE X (dx2 kx vx t0 i0 t1 i1 scope pos) (tDc2 wi g wi1 g1 tk tv (own.map (·.2)) vs1) := by
  refine ⟨fun pins s σ H Q I h => ?_⟩
  rw [arm_eval_DictComp]
  have hfree : ∀ y ∈ scope.names, y.2 = .free → ∃ c, X.env.cells.lookup y.1 = some c := fun y hy e => by
    rcases ok.free y hy e with z | z
    · exact I.ok.has _ (.inl z)
    · exact I.ok.has _ (.inr z)
  refine wpAny_comprehension_free (use := none) rfl hs (closure_ok hfree) ok.kind (fun y hy e => by rw [ok.uniq y hy, e])
    (thn (hi.run pins s σ H _ I h) fun xv s1 hx => thn hx fun itv s2 h2 => ?_)
  obtain ⟨it, fp, tn, J, Hj, e, I2, T, st2, f2, q⟩ := h2
  subst e
  refine wpAny_newObj_type (newEnv_comp ?_)
  obtain ⟨D, hD⟩ : ∃ D, s2.heap.objs.size = D := ⟨_, rfl⟩
  rw [hD]
  have hDn : Hj D = none := I2.hok.fresh (Nat.le_of_eq hD)
  obtain ⟨W, ⟨m0, w0⟩, turn⟩ := q D hDn
  obtain ⟨s3, hs3⟩ : ∃ s3 : Shared, ({ s2 with heap := s2.heap.push { cls := .type "dict", data := .dict #[] } } : Shared) = s3 := ⟨_, rfl⟩
  rw [hs3]
  have I3 : Inv X pins σ (upd Hj D (.dK [])) s3 := by
    rw [← hs3]
    refine I2.laid (t' := s2.toks) (fun b o e => Heap.get?_push_of_some _ e) (Nat.le_of_eq hD) ?_
    rw [← hD]
    exact dk_empty s2.heap I2.big
  have h3 : s3.heap = s2.heap.push { cls := .type "dict", data := .dict #[] } := by rw [← hs3]
  obtain ⟨H3, hH3⟩ : ∃ H3, upd Hj D (.dK []) = H3 := ⟨_, rfl⟩
  rw [hH3] at I3 w0
  have f3 : ∀ b ∈ fp, FpOk X pins H3 b ∧ b < s3.heap.objs.size := fun b hb => by
    obtain ⟨o, eo, _⟩ := T.obj _ _ st2 b hb
    have hlt := Heap.lt_size eo
    refine ⟨⟨?_, (f2 b hb).2⟩, by rw [h3, Heap.size_push]; exact Nat.lt_succ_of_lt hlt⟩
    rw [← hH3, upd_ne (by rw [← hD]; exact Nat.ne_of_lt hlt)]
    exact (f2 b hb).1
  have nfp : ∀ b ∈ fp, H3 b = none := fun b hb => (f3 b hb).1.1
  have I4 := block_start I3 ok hN f3
  obtain ⟨cl, hcl⟩ : ∃ cl, cellsFrom (s3.heap.objs.size + 1) scope.names (cloFrom X.env.cells scope.names []) = cl := ⟨_, rfl⟩
  rw [hcl] at I4
  have pg := hg s3 H3 s3.heap.objs.size cl fp
  have pi1 := hi1 s3 H3 s3.heap.objs.size cl fp
  have pg1 := hg1 s3 H3 s3.heap.objs.size cl fp
  have pk := hk s3 H3 s3.heap.objs.size cl fp
  have pv := he s3 H3 s3.heap.objs.size cl fp
  show codeAny _ _ (.compStart (dx2 kx vx t0 i0 t1 i1 scope pos) 0 (.ref it) (.ref D) (compEnvC scope (cellsFrom (s3.heap.objs.size + 1) scope.names (cloFrom X.env.cells scope.names [])) s3.heap.objs.size X.env)) (compPost (model X.prog X.w) X.A X.xe none _ (.ref D) s3.heap.objs.size) { s3 with heap := pushCells (s3.heap.push { cls := .type "dict", data := .dict #[] }) scope.names }
  rw [hcl]
  obtain ⟨ce, hce⟩ : ∃ ce, compEnvC scope cl s3.heap.objs.size X.env = ce := ⟨_, rfl⟩
  have cL : ce.locals = s3.heap.objs.size := by rw [← hce]; rfl
  rw [hce] at I4 pg pi1 pg1 pk pv ⊢
  obtain ⟨s4, hs4⟩ : ∃ s4 : Shared, ({ s3 with heap := pushCells (s3.heap.push { cls := .type "dict", data := .dict #[] }) scope.names } : Shared) = s4 := ⟨_, rfl⟩
  rw [hs4] at I4 ⊢
  have st4 : tn 0 s4.heap := T.keep _ _ _ st2 fun b _ o e => by rw [← hs4]; exact pushCells_keeps _ _ _ _ (Heap.get?_push_of_some _ (by rw [h3]; exact Heap.get?_push_of_some _ e))
  have stat : ∀ {σ' : L2.St} {H' : Hp} {s' : Shared}, Inv (X.blk s3 H3 scope ce fp) [] σ' H' s' → (∀ b ∈ fp, H' b = none) → ∀ b ∈ fp, FpOk (X.blk s3 H3 scope ce fp) [] H' b := fun {σ' H' s'} I' hn b hb =>
    ⟨hn b hb, (I'.ok.exf b hb).1, I'.ok.exfs b hb, .inl hb, fun x c e => (I'.ok.exf b hb).2 x c e, fun p hp => absurd (show p ∈ ([] : List (Addr × Obj)) ++ [] from hp) (by simp)⟩
  have loop : codeAny (model X.prog X.w) X.A (.compLoop (dx2 kx vx t0 i0 t1 i1 scope pos) 0 (.ref it) (.ref D) ce) (compPost (model X.prog X.w) X.A X.xe none (EP X pins σ Q) (.ref D) s3.heap.objs.size) s4 := by
    refine dloop0 (hs1 ce) (fun n s' => ∃ i H', Inv (X.blk s3 H3 scope ce fp) [] (L2.wipe σ (own.map (·.2))) H' s' ∧ tn i s'.heap ∧ (∀ b ∈ fp, H' b = none) ∧ W i n H') ?_ m0 ⟨0, H3, I4, st4, nfp, w0⟩
    rintro n s5 ⟨i, H5, I5, st5, n5, w5⟩
    rcases turn i n H5 w5 with ⟨stop, qq⟩ | ⟨go, Nx, hNx, step⟩
    · refine thnF (T.done (X.blk s3 H3 scope ce fp) rfl rfl rfl hc i [] s5 _ H5 (fun _ _ => False) I5 (stat I5 n5) st5 stop) fun r s6 ⟨hr, I6⟩ => ?_
      subst hr
      have I7 : Inv X pins σ H5 s6 := I3.call' (ch := fp) I6.os I6.base I6.hok I6.bare fun b hb => ⟨(f3 b hb).1.2.2.2.1, (f3 b hb).1.2.1, (f3 b hb).1.2.2.2.2.1, (f3 b hb).1.2.2.2.2.2⟩
      have nC : H5 s3.heap.objs.size = none := by
        have z : H5 ce.locals = none := I6.free
        rwa [cL] at z
      obtain ⟨m, hn, _⟩ := I6.loc
      have hn : s6.heap.Ns ce.locals m := hn
      rw [cL] at hn
      obtain ⟨f0, f1, f2', f3', f4, f5⟩ := I3.fpOk (Nat.le_refl _) nC
      exact ⟨m, hn, fun h'' sb => ⟨.ref D, H5, I7.turned (t' := s6.toks) (fun b o hb e => (sb.2 b hb).trans e) f0 f1 f3' f4 f5, rfl, qq⟩⟩
    · refine thnF (T.item (X.blk s3 H3 scope ce fp) rfl rfl rfl hc i [] s5 _ H5 (fun _ _ => False) I5 (stat I5 n5) st5 go) fun r s6 ⟨u, hr, h6⟩ => ?_
      subst hr
      refine thnF h6 fun _ s7 ⟨x, H7, I7, r7, y7, st7, n7⟩ => ?_
      refine thnF (pg.run _ s7 _ H7 x u _ (I7.pinned (stat I7 n7) (T.obj _ _ st7)) r7 (step x H7 y7)) fun _ s8 ⟨σ8, H8, I8, hw8, q8⟩ => ?_
      refine thnF (pi1.run _ s8 σ8 H8 _ I8 q8) fun xv s10 hx => thnF hx fun itv s11 h11 => ?_
      obtain ⟨it1, fp1, tn1, J1, H11, e1, I11, T1, st11, f11, qin⟩ := h11
      subst e1
      -- the turn's end, from the inner loop's
      have fin : ∀ (H' : Hp) (s' : Shared), Inv (X.blk s3 H3 scope ce fp) ([] ++ pinsAt fp s7.heap) (L2.wipe σ8 vs1) H' s' → Nx H' → ∃ f, (Except.ok .next : Result) = .ok f ∧ ∃ m, m < n ∧ ∃ i H', Inv (X.blk s3 H3 scope ce fp) [] (L2.wipe σ (own.map (·.2))) H' s' ∧ tn i s'.heap ∧ (∀ b ∈ fp, H' b = none) ∧ W i m H' := fun H' s' I' nx => by
        obtain ⟨m', hm, w'⟩ := hNx H' nx
        have pin' : ∀ b ∈ fp, ∀ o, s7.heap.get? b = some o → s'.heap.get? b = some o ∧ H' b = none := fun b hb o e =>
          let z := I'.pin (b, o) (List.mem_append_right _ (List.mem_append_right _ (mem_pinsAt hb e)))
          ⟨z.1, z.2.1⟩
        refine ⟨_, rfl, m', hm, i + 1, H', (I'.unpinned (pins := [])).weak (by rw [← hw8, wipe_length, wipe_length]) (fun j v e => ?_), T.keep _ _ _ st7 fun b hb o e => (pin' b hb o e).1, fun b hb => ?_, w'⟩
        · rw [← hw8] at e
          obtain ⟨e1, e2⟩ := wipe_some e
          rw [wipe_out fun z => e2 (hv j z)]
          exact e1
        · obtain ⟨o, e, _⟩ := T.obj _ _ st7 b hb
          exact (pin' b hb o e).2
      have lp := dinner (σ2 := σ8) (R := fun r s' => ∃ f, r = .ok f ∧ ∃ m, m < n ∧ ∃ i H', Inv (X.blk s3 H3 scope ce fp) [] (L2.wipe σ (own.map (·.2))) H' s' ∧ tn i s'.heap ∧ (∀ b ∈ fp, H' b = none) ∧ W i m H') (i0 := i0) (t0 := t0) (i1 := i1) (sc := scope) (p := pos) hc T1 pg1 pk pv (fun hn b hb => ⟨hn b hb, (f11 b hb).2⟩) fin (I11.weak (wipe_length _ _) (fun j v e => (wipe_some e).1)) st11 (fun b hb => (f11 b hb).1) qin
      exact dstart1 lp (T1.self X.A 0 _ _ _ st11 lp)
  exact codeAny_compStart_dict loop (T.self X.A 0 _ _ _ st4 loop)
end
end
end Mp

/-! dict comprehensions with two fors, by the machine -/
namespace Mp
open PySem PySem.Spec PyProof.Rows L2

section
variable {X : Cx} {c : Cf} {ec : Ec} {O O' : Addr → Prop} {r r' : Env} {σ σ' : L2.St} {H H' : Hp} {D0 : Addr} {pos : Pos}
/-- one turn of the inner clause -/
theorem dc_turn2 {O1 : Addr → Prop} {H1 : Hp} {ρ : Env} {acc : List (D × D)} {vs : List Nat} {t : Tg} {kf vf : EM} {d : D} {x : V}
    (h0 : c.H0 D0 = none) (n0 : ¬ c.O0 D0) (i0 : ∀ b, c.I0 b → c.O0 b) (hv : ∀ j ∈ vs, c.mode j = .fz) (ht : ∀ j ∈ slotsT t, j ∈ vs) (hD1 : H1 D0 = none)
    {O : Addr → Prop} {xs : List (Key × V)} (s : Step O1 H1 O H) (R2 : R c O ρ (L2.wipe σ vs) H) (oD : O D0) (eD : H D0 = some (.dK xs)) (nd : (xs.map (·.1)).Nodup) (ra : RepK c.K H O xs acc) (bD : Bare c ρ (L2.wipe σ vs) D0) (rx : Rep c.K H O x d)
    {ρ1 ρ2 ρ3 : Env} {k : Str} {y : D} (e1 : assign ec t d (Mp.wipe ρ vs) = some ρ1) (e2 : kf ρ1 = some (.str k, ρ2)) (e3 : vf ρ2 = some (y, ρ3)) (hz : acc.length < sizeLine)
    {Nx : Hp → Prop} (hN : ∀ H' O' xs', Step O H O' H' → Step O1 H1 O' H' → R c O' (Mp.wipe ρ3 vs) (L2.wipe σ vs) H' → O' D0 → H' D0 = some (.dK xs') → (xs'.map (·.1)).Nodup → RepK c.K H' O' xs' (dput acc k y) → Bare c (Mp.wipe ρ3 vs) (L2.wipe σ vs) D0 → Nx H') :
    tGA c ec t x (L2.wipe σ vs) H fun σ2 H2 => L2.wipe σ2 vs = L2.wipe σ vs ∧ tKV D0 (tDA c kf) (tDA c vf) σ2 H2 Nx := by
  have Rh := R2.holdUp oD bD eD
  refine ⟨c.hold D0 (.dK xs), rfl, rfl, O, Mp.wipe ρ vs, d, ρ1, Rh.wipe vs, rx, e1, fun σ2 R3 l3 k3 => ?_⟩
  have w2 : L2.wipe σ2 vs = L2.wipe σ vs := by
    rw [wipe_eq (σ := L2.wipe σ vs) l3 fun j hj => k3 j fun z => hj (ht j z), wipe_wipe]
  refine ⟨w2, c.hold D0 (.dK xs), rfl, rfl, O, ρ1, _, ρ2, R3, e2, fun u H4 O4 s4 R5 ru => ⟨c.hold D0 (.dK xs), rfl, rfl, O4, ρ2, y, ρ3, R5, e3, fun z H5 O5 s5 R6 rz => ?_⟩⟩
  have eu : u = .str k := RepX.str (.inl ru)
  subst eu
  obtain ⟨R7, oD7, bD7, eD7⟩ := R6.holdDown h0 n0 i0
  have sA : Step O H O5 H5 := s4.trans s5
  have hl : xs.length = acc.length := repk_len ra
  have s6 : Step O5 H5 O5 (upd H5 D0 (.dK (putK xs (.inr k) z))) := Step.refl.chg oD7
  refine ⟨xs, .inr k, rfl, eD7, by rw [hl]; exact hz, hN _ O5 (putK xs (.inr k) z) (sA.chg oD) ((s.trans sA).rewrite hD1) ?_ oD7 upd_same (put_keys nd) ?_ ?_⟩
  · rw [← w2]
    exact (R7.rewrite oD7 bD7 h0 (.inr ⟨_, rfl⟩)).wipeS hv
  · exact put_rep (rz.step s6) ((ra.step sA).step s6) nd
  · rw [← w2]
    exact bD7.wipeS hv
/-- the inner loop -/
theorem tIn_rd {O1 : Addr → Prop} {H1 : Hp} {ρ ρ2 : Env} {acc acc1 : List (D × D)} {vs1 : List Nat} {t1 : Tg} {kf vf : EM} {S : Mp.Its} {J1 : It} {xs : List (Key × V)}
    (h0 : c.H0 D0 = none) (n0 : ¬ c.O0 D0) (i0 : ∀ b, c.I0 b → c.O0 b) (hv : ∀ j ∈ vs1, c.mode j = .fz) (ht : ∀ j ∈ slotsT t1, j ∈ vs1) (hD1 : H1 D0 = none)
    (sB : Step O1 H1 O H) (R0 : R c O ρ σ H) (oD : O D0) (eD : H D0 = some (.dK xs)) (nd : (xs.map (·.1)).Nodup) (ra : RepK c.K H O xs acc) (bD : Bare c ρ σ D0)
    (wk1 : Wk (c.hold D0 (.dK xs)) J1 O H σ S) (e : dcompL S.ok (fun e => Mp.wipe e vs1) (assign ec t1) kf vf S.ds acc (Mp.wipe ρ vs1) = some (acc1, ρ2))
    {Nx : Hp → Prop} (hN : ∀ H' O' xs', Step O1 H1 O' H' → R c O' ρ2 (L2.wipe σ vs1) H' → O' D0 → H' D0 = some (.dK xs') → (xs'.map (·.1)).Nodup → RepK c.K H' O' xs' acc1 → Bare c ρ2 (L2.wipe σ vs1) D0 → Nx H') :
    tIn D0 (tGA c ec t1) (tDA c kf) (tDA c vf) vs1 Nx σ J1 H := by
  refine ⟨fun j m H' => m = S.ds.length - j ∧ j ≤ S.ds.length ∧ ∃ ρ acc, (∃ O' xs, Step O H O' H' ∧ Step O1 H1 O' H' ∧ R c O' ρ (L2.wipe σ vs1) H' ∧ O' D0 ∧ H' D0 = some (.dK xs) ∧ (xs.map (·.1)).Nodup ∧ RepK c.K H' O' xs acc ∧ Bare c ρ (L2.wipe σ vs1) D0) ∧
      dcompL S.ok (fun e => Mp.wipe e vs1) (assign ec t1) kf vf (S.ds.drop j) acc ρ = some (acc1, ρ2),
    ⟨S.ds.length, by simp, Nat.zero_le _, _, acc, ⟨O, xs, Step.refl, sB, R0.wipeS hv, oD, eD, nd, ra, bD.wipeS hv⟩, by simpa using e⟩, ?_⟩
  rintro j m H5 ⟨rfl, hj, ρj, accj, ⟨O5, xs5, s5, sC, R8, oD8, eD8, nd8, ra8, bD8⟩, eJ⟩
  by_cases hlt : j < S.ds.length
  · have hd : S.ds[j]? = some S.ds[j] := List.getElem?_eq_getElem hlt
    obtain ⟨ok1, ρ1, k, ρ2', y, ρ3, f1, f2, f3, f4, f5⟩ := dcompL_some hd eJ
    obtain ⟨v1, v2, v3⟩ := wk1 c rfl rfl j O5 H5 ρj (L2.wipe σ vs1) s5 R8 (fun j _ _ h => wipe_keep hv j h) ok1
    refine .inr ⟨v1 hlt, _, fun H' nx => ⟨S.ds.length - (j + 1), by omega, nx⟩, fun x1 H6 y1 => ?_⟩
    obtain ⟨gg, rx1⟩ := v3 x1 H6 y1 _ hd
    refine dc_turn2 (O1 := O1) (H1 := H1) (acc := accj) h0 n0 i0 hv ht hD1 (sC.trans (Step.grow gg)) (R8.grow gg) oD8 (gg _ _ eD8) nd8 (ra8.step (Step.grow gg)) bD8 rx1 f1 f2 f3 f4 (fun H3 O3 xs' t0 t1 t2 t3 t4 t5 t6 t7 => ?_)
    exact ⟨rfl, hlt, Mp.wipe ρ3 vs1, _, ⟨O3, xs', (s5.trans (Step.grow gg)).trans t0, t1, t2, t3, t4, t5, t6, t7⟩, f5⟩
  · have hj' : S.ds.length ≤ j := by omega
    obtain ⟨ok1, rfl, rfl⟩ := dcompL_end hj' eJ
    obtain ⟨v1, v2, v3⟩ := wk1 c rfl rfl j O5 H5 _ (L2.wipe σ vs1) s5 R8 (fun j _ _ h => wipe_keep hv j h) ok1
    exact .inl ⟨v2 hj', hN H5 O5 xs5 sC R8 oD8 eD8 nd8 ra8 bD8⟩
theorem dcomp2_rd {vs vs1 : List Nat} {t t1 : Tg} {ws ws1 wk wv : View} {Q : VK} (hv : ∀ j ∈ vs, c.mode j = .fz) (hv1 : ∀ j ∈ vs1, j ∈ vs) (ht : ∀ j ∈ slotsT t, j ∈ vs) (ht1 : ∀ j ∈ slotsT t1, j ∈ vs1) (h : tF c (dcomp2E ec vs vs1 t ws t1 ws1 wk wv) σ H Q) :
    tDc2 (tI c ws.i) (tGA c ec t) (tIA c ws1.i) (tGA c ec t1) (tDA c wk.e) (tDA c wv.e) vs vs1 σ H Q := by
  have hvf : ∀ j ∈ vs1, c.mode j = .fz := fun j hj => hv j (hv1 j hj)
  obtain ⟨O, r, d, r', R0, em, q⟩ := h
  unfold dcomp2E at em
  obtain ⟨⟨T, r1⟩, e1, em⟩ := Option.bind_eq_some_iff.mp em
  obtain ⟨⟨out, rE⟩, e2, em⟩ := Option.map_eq_some_iff.mp em
  cases em
  refine ⟨O, r, T, r1, R0, e1, fun J H1 O1 s1 R1 wk' D0 nD => ?_⟩
  obtain ⟨n0, h0⟩ := R1.fresh nD
  have i0 := R1.i0
  obtain ⟨k1, k2, k3, k4, k5, _, _⟩ := new_dct R1 nD (vs := []) (by simp) .nil
  refine ⟨fun i m H => m = T.ds.length - i ∧ i ≤ T.ds.length ∧ ∃ ρ acc, (∃ O xs, Step O1 H1 O H ∧ R c O ρ (L2.wipe σ vs) H ∧ O D0 ∧ H D0 = some (.dK xs) ∧ (xs.map (·.1)).Nodup ∧ RepK c.K H O xs acc ∧ Bare c ρ (L2.wipe σ vs) D0) ∧
      comp2L T.ok (fun e => Mp.wipe e vs) (assign ec t) (fun acc r1 => (ws1.i r1).bind fun s =>
      (dcompL s.1.ok (fun e => Mp.wipe e vs1) (assign ec t1) wk.e wv.e s.1.ds acc (Mp.wipe s.2 vs1))) (T.ds.drop i) acc ρ = some (out, rE),
    ⟨T.ds.length, by simp, Nat.zero_le _, _, [], ⟨_, [], k1, k2.wipeS hv, k3, upd_same, by simp, .nil, k5.wipeS hv⟩, by simpa using e2⟩, ?_⟩
  rintro i m H2 ⟨rfl, hi, ρ, acc, ⟨O2, xs, s2, R2, oD, eD, nd, ra, bD⟩, eC⟩
  by_cases hlt : i < T.ds.length
  · have hd : T.ds[i]? = some T.ds[i] := List.getElem?_eq_getElem hlt
    obtain ⟨ok, ρ1, acc1, ρ2, f1, f2, f3⟩ := comp2L_some hd eC
    obtain ⟨w1, w2, w3⟩ := wk' c rfl rfl i O2 H2 ρ (L2.wipe σ vs) s2 R2 (fun j _ _ h => wipe_keep hv j h) ok
    refine .inr ⟨w1 hlt, _, fun H' nx => ⟨T.ds.length - (i + 1), by omega, nx⟩, fun x H' yd => ?_⟩
    obtain ⟨g, rx⟩ := w3 x H' yd _ hd
    obtain ⟨⟨S, ρs⟩, g1, g2⟩ := Option.bind_eq_some_iff.mp f2
    have R3 := R2.grow g
    have Rh := R3.holdUp oD bD (g _ _ eD)
    refine ⟨c.hold D0 (.dK xs), rfl, rfl, O2, Mp.wipe ρ vs, _, ρ1, Rh.wipe vs, rx, f1, fun σ2 R4 l4 k4 => ?_⟩
    have wz : L2.wipe σ2 vs = L2.wipe σ vs := by
      rw [wipe_eq (σ := L2.wipe σ vs) l4 fun j hj => k4 j fun z => hj (ht j z), wipe_wipe]
    refine ⟨wz, c.hold D0 (.dK xs), rfl, rfl, O2, ρ1, S, ρs, R4, g1, fun J1 H4 O4 s4 R6 wk1 => ?_⟩
    obtain ⟨R7, oD7, bD7, eD7⟩ := R6.holdDown h0 n0 i0
    have sB : Step O1 H1 O4 H4 := (s2.trans (Step.grow g)).trans s4
    have wq : L2.wipe (L2.wipe σ2 vs1) vs = L2.wipe σ vs := by rw [wipe_sub hv1, wz]
    refine tIn_rd h0 n0 i0 hvf ht1 nD sB R7 oD7 eD7 nd ((ra.step (Step.grow g)).step s4) bD7 wk1 g2 fun H5 O5 xs' u1 u2 u3 u4 u5 u6 u7 => ⟨rfl, hlt, Mp.wipe ρ2 vs, acc1, ⟨O5, xs', u1, ?_, u3, u4, u5, u6, ?_⟩, f3⟩
    · rw [← wq]; exact u2.wipeS hv
    · rw [← wq]; exact u7.wipeS hv
  · have hi' : T.ds.length ≤ i := by omega
    obtain ⟨ok, rfl, rfl⟩ := comp2L_end hi' eC
    obtain ⟨w1, w2, w3⟩ := wk' c rfl rfl i O2 H2 _ (L2.wipe σ vs) s2 R2 (fun j _ _ h => wipe_keep hv j h) ok
    exact .inl ⟨w2 hi', q D0 H2 O2 (s1.trans s2) (R1.back s2 R2 hv) oD (.dct eD nd ra) (bD.back hv) n0 h0⟩
structure Dc2Ok (X : Cx) (c : Cf) (ec : Ec) (scope : Scope) (own : List (Str × Nat)) (vs vs1 : List Nat) (tg iter tg1 iter1 kx vx : Expr) (t : Tg) (ws : View) (t1 : Tg) (ws1 wk wv : View) : Prop where
  calm : X.calm = true
  nd : X.N.Nodup
  blk : BlkOk X.N X.env.scope scope own
  ev : own.map (·.2) = vs
  hv : ∀ j ∈ vs, c.mode j = .fz
  hv1 : ∀ j ∈ vs1, j ∈ vs
  ht : ∀ j ∈ slotsT t, j ∈ vs
  ht1 : ∀ j ∈ slotsT t1, j ∈ vs1
  src : SV X c ec iter ws
  tgt : Blk X c scope fun X c => GV X c ec tg t
  src1 : Blk X c scope fun X c => SV X c ec iter1 ws1
  tgt1 : Blk X c scope fun X c => GV X c ec tg1 t1
  key : Blk X c scope fun X c => SV X c ec kx wk
  val : Blk X c scope fun X c => SV X c ec vx wv
theorem dcomp2PF {scope : Scope} {own : List (Str × Nat)} {vs vs1 : List Nat} {tg iter tg1 iter1 kx vx : Expr} {t t1 : Tg} {ws ws1 wk wv : View} (h : Dc2Ok X c ec scope own vs vs1 tg iter tg1 iter1 kx vx t ws t1 ws1 wk wv) :
    PE X (.DictComp kx vx [⟨tg, iter, [], 0⟩, ⟨tg1, iter1, [], 0⟩] scope pos) (tF c (dcomp2E ec vs vs1 t ws t1 ws1 wk wv)) :=
  PE.imp (pe_dc2 h.calm h.nd (h.src.pi tg) h.blk (by rw [h.ev]; exact h.hv1) (GV.all h.tgt) (SV.allI h.src1) (GV.all h.tgt1) (SV.all h.key) (SV.all h.val) (h.src.nf _)
    (fun env x => (h.src1 c rfl rfl X.s_0 X.H_0 0 [] []).nf env x)) fun σ H Q q => by
    rw [h.ev]
    exact dcomp2_rd h.hv h.hv1 h.ht h.ht1 q

/-! ### range -/
theorem wk_rng {lo : Int} {n : Nat} : Wk c (Itr lo n) O H σ ⟨intRange lo n, none⟩ := fun c' _ _ i O' H' r σ' s R' hh ok => by
  have hl : (intRange lo n).length = n := by simp [intRange]
  refine ⟨fun h => ?_, fun h => ?_, fun x H'' y d hd => ?_⟩
  · rw [hl] at h; exact h
  · rw [hl] at h; exact h
  · obtain ⟨rfl, rfl⟩ := y
    refine ⟨fun _ _ h => h, ?_⟩
    unfold intRange at hd
    rw [List.getElem?_map] at hd
    obtain ⟨k, hk, rfl⟩ := Option.map_eq_some_iff.mp hd
    obtain ⟨hk1, hk2⟩ := List.getElem?_eq_some_iff.mp hk
    rw [List.getElem_range] at hk2
    subst hk2
    exact .int _
theorem rng1PI {e : Expr} {w : View} {p0 : Pos} {tg : Expr} (hg : Gl X "range") (hm : X.mg "range" = none) (h : SV X c ec e w) : PI X tg (.Call (.Name "range" p0) [e] [] pos) (tI c (rngV [w])) := by
  refine PI.pick fun σ H Q ⟨O, r, T, r', R0, em, q⟩ => ⟨_, pi_range1 hg hm (SVs.cons h .nil).pa (by rw [h.st]; rfl), ?_⟩
  unfold rngV at em
  obtain ⟨⟨d, r1⟩, f1, em⟩ := Option.bind_eq_some_iff.mp em
  simp only at em
  split at em
  · rename_i j
    split at em
    · rename_i hs
      cases em
      refine ⟨O, r, [.int j], r', R0, ?_, fun vs H1 O1 s1 R1 rv => ?_⟩
      · show (w.e r).bind _ = _
        rw [f1]; rfl
      · cases rv with
        | cons a b =>
          cases b
          cases a
          have hs' := of_decide_eq_true hs
          exact ⟨j, rfl, hs'.1, hs'.2, q _ H1 O1 s1 R1 wk_rng⟩
    · cases em
  · cases em
theorem rng2PI {e e2 : Expr} {w w2 : View} {p0 : Pos} {tg : Expr} (hg : Gl X "range") (hm : X.mg "range" = none) (h : SV X c ec e w) (h2 : SV X c ec e2 w2) : PI X tg (.Call (.Name "range" p0) [e, e2] [] pos) (tI c (rngV [w, w2])) := by
  refine PI.pick fun σ H Q ⟨O, r, T, r', R0, em, q⟩ => ⟨_, pi_range2 hg hm (SVs.cons h (.cons h2 .nil)).pa (by rw [h.st, h2.st]; rfl) (by rw [h2.st]; rfl), ?_⟩
  unfold rngV at em
  obtain ⟨⟨d, r1⟩, f1, em⟩ := Option.bind_eq_some_iff.mp em
  obtain ⟨⟨d2, r2⟩, f2, em⟩ := Option.bind_eq_some_iff.mp em
  simp only at em
  split at em
  · rename_i i j z1
    split at em
    · rename_i hs
      cases em
      rw [Bool.and_eq_true] at hs
      refine ⟨O, r, [.int i, .int j], r', R0, ?_, fun vs H1 O1 s1 R1 rv => ?_⟩
      · show (w.e r).bind _ = _
        rw [f1]
        show ((w2.e r1).bind _).map _ = _
        rw [f2]; rfl
      · cases rv with
        | cons a b =>
          cases b with
          | cons a2 b =>
            cases b
            cases a
            cases a2
            have hs' := of_decide_eq_true hs.1
            have hs2 := of_decide_eq_true hs.2
            exact ⟨i, j, rfl, ⟨hs'.1, hs'.2, hs2.1, hs2.2⟩, q _ H1 O1 s1 R1 wk_rng⟩
    · cases em
  · cases em
end
end Mp

/-! statements -/
namespace Mp
open PySem PySem.Spec PyProof.Rows L2

/-- what a def hands back: a list or dict of its own, or plain data -/
def RetOk (c : Cf) (fr : Bool) (O : Addr → Prop) (r : Env) (σ : L2.St) (H : Hp) (v : V) (d : D) : Prop :=
  if fr = true then ∃ p, v = .ref p ∧ O p ∧ OwnC c.K H O p d ∧ ¬ c.O0 p ∧ c.H0 p = none else Rep c.K H O v d
def Kp (c : Cf) (ws : List Nat) (σ σ' : L2.St) : Prop := σ'.length = σ.length ∧ ∀ j, c.mode j ≠ .fz → j ∉ ws → σ'[j]? = σ[j]?
theorem Kp.refl {c : Cf} {ws : List Nat} {σ : L2.St} : Kp c ws σ σ := ⟨rfl, fun _ _ _ => rfl⟩
theorem Kp.trans {c : Cf} {ws ws' : List Nat} {σ σ1 σ2 : L2.St} (a : Kp c ws σ σ1) (b : Kp c ws' σ1 σ2) (w : List Nat) (h1 : ∀ j ∈ ws, j ∈ w) (h2 : ∀ j ∈ ws', j ∈ w) : Kp c w σ σ2 :=
  ⟨b.1.trans a.1, fun j m n => (b.2 j m fun z => n (h2 j z)).trans (a.2 j m fun z => n (h1 j z))⟩
theorem Kp.mono {c : Cf} {ws w : List Nat} {σ σ1 : L2.St} (a : Kp c ws σ σ1) (h1 : ∀ j ∈ ws, j ∈ w) : Kp c w σ σ1 := ⟨a.1, fun j m n => a.2 j m fun z => n (h1 j z)⟩
/-- what is wanted behind, by how the statement ends -/
def tEnd (c : Cf) (fr : Bool) (ws : List Nat) (D : Ends) (O : Addr → Prop) (H : Hp) (σ : L2.St) (r' : Env) : Fl → Prop
  | .nx => ∀ σ' H' O', Step O H O' H' → R c O' r' σ' H' → Kp c ws σ σ' → D.nx σ' H'
  | .bk => ∀ σ' H' O', Step O H O' H' → R c O' r' σ' H' → Kp c ws σ σ' → D.bk σ' H'
  | .ct => ∀ σ' H' O', Step O H O' H' → R c O' r' σ' H' → Kp c ws σ σ' → D.ct σ' H'
  | .rt d => ∀ v σ' H' O', Step O H O' H' → R c O' r' σ' H' → RetOk c fr O' r' σ' H' v d → D.rt v H'
abbrev SM := Env → Option (Fl × Env)
def tSm (c : Cf) (fr : Bool) (ws : List Nat) (m : SM) : TS := fun D σ H => ∃ O r fl r', R c O r σ H ∧ m r = some (fl, r') ∧ tEnd c fr ws D O H σ r' fl
theorem PS.imp {X : Cx} {e : Stmt} {t t' : TS} (h : PS X e t) (g : ∀ D σ H, t' D σ H → t D σ H) : PS X e t' := ⟨fun pins s σ H D I q => h.run pins s σ H D I (g D σ H q)⟩
theorem PSs.imp {X : Cx} {e : List Stmt} {t t' : TS} (h : PSs X e t) (g : ∀ D σ H, t' D σ H → t D σ H) : PSs X e t' := ⟨fun pins s σ H D I q => h.run pins s σ H D I (g D σ H q)⟩
theorem PS.pick {X : Cx} {e : Stmt} {t' : TS} (g : ∀ D σ H, t' D σ H → ∃ t, PS X e t ∧ t D σ H) : PS X e t' := ⟨fun pins s σ H D I q => by
  obtain ⟨t, h, z⟩ := g D σ H q
  exact h.run pins s σ H D I z⟩

section
variable {X : Cx} {c : Cf} {ec : Ec} {fr : Bool} {ws : List Nat} {O O' : Addr → Prop} {r r' : Env} {σ σ' : L2.St} {H H' : Hp} {i j : Nat} {d : D} {v : V} {pos py p0 : Pos} {py' : Str} {e : Expr} {w : View} {m : EM} {p : Addr}
theorem tF_of_tD {Q : VK} (hm : ∀ r d r', m r = some (d, r') → ∃ ds, d = .list ds) (h : tD c m σ H Q) : tF c m σ H Q := by
  obtain ⟨O, r, d, r', R0, em, q⟩ := h
  obtain ⟨ds, rfl⟩ := hm _ _ _ em
  refine ⟨O, r, _, r', R0, em, fun p H' O' s R1 op oc b n0 h0 => q _ _ (del O' p) (s.trans (Step.del O' H' p)) (R1.letGo b n0) ?_⟩
  cases oc with
  | lst e q => exact .lst (.inl ⟨.inl e, fun z => z.2 rfl⟩) (q.step (Step.del O' H' p))
/-- a slot that holds nothing known is written -/
theorem R.setS (R0 : R c O r σ H) (g : get r i = none) (m : c.mode i ≠ .io) (x : Option V) : R c O r (σ.set i x) H := by
  have ne : ∀ {j}, (get r j).isSome = true → (σ.set i x)[j]? = σ[j]? := fun {j} h => by
    rw [List.getElem?_set_ne]
    rintro rfl
    rw [g] at h
    cases h
  refine ⟨by rw [List.length_set]; exact R0.len, fun j d h mj => ?_, fun j d h mj => ?_, fun j l a h1 h2 m1 m2 e1 e2 => ?_, fun j mj => ?_, fun j a h mj e => ?_, R0.frame, R0.sub, R0.alive, R0.i0⟩
  · rw [ne (by rw [h]; rfl)]; exact R0.fz j d h mj
  · rw [ne (by rw [h]; rfl)]; exact R0.ow j d h mj
  · rw [ne h1] at e1
    rw [ne h2] at e2
    exact R0.sep j l a h1 h2 m1 m2 e1 e2
  · rw [List.getElem?_set_ne]
    · exact R0.io j mj
    · rintro rfl; exact m mj
  · rw [ne h] at e
    exact R0.own j a h mj e
/-- a new list or dict comes to a slot of one's own -/
theorem R.ownS (R0 : R c O r σ H) (m : c.mode i = .ow) (hl : i < r.length) (op : O p) (oc : OwnC c.K H O p d) (b : Bare c r σ p) (n0 : ¬ c.O0 p) (h0 : c.H0 p = none) : R c O (Mp.put r i d) (σ.set i (some (.ref p))) H := by
  have R1 := (R0.clr i).setS (i := i) (get_set_eq hl) (by rw [m]; decide) (some (.ref p))
  have m' : c.mode i ≠ .fz := by rw [m]; decide
  have R2 := R1.hold m' (List.getElem?_set_self (by rw [← R0.len]; exact hl)) (by simpa using hl) op (.inr h0) (fun _ => n0) (fun j hj mj ej => by
    by_cases z : j = i
    · exact z
    · rw [List.getElem?_set_ne (Ne.symm z)] at ej
      obtain ⟨w, hw⟩ := isSome_get hj
      exact absurd ej (b j (by rw [(get_set_none hw).1]; rfl) mj)) oc
  have e2 : Mp.put (r.set i none) i d = Mp.put r i d := by unfold Mp.put; rw [List.set_set]
  rw [e2] at R2
  exact R2
theorem Kp.set (h : i ∈ ws ∨ c.mode i = .fz) (x : Option V) : Kp c ws σ (σ.set i x) := ⟨List.length_set, fun j m n => List.getElem?_set_ne (by
  rintro rfl
  rcases h with h | h
  · exact n h
  · exact m h)⟩

/-! ### small statements -/
theorem setPS (hm : ec.md = c.md) (h : PS X (.Assign [.Name py' p0] e pos) (tAsg (tD c m) (gName i))) : PS X (.Assign [.Name py' p0] e pos) (tSm c fr [] fun r => (m r).bind fun q => (assign ec (.nm i) q.1 q.2).map nx) :=
  PS.imp h fun D σ H ⟨O, r, fl, r', R0, em, q⟩ => by
    obtain ⟨⟨d, r1⟩, e1, em⟩ := Option.bind_eq_some_iff.mp em
    obtain ⟨r2, e2, em⟩ := Option.map_eq_some_iff.mp em
    cases em
    unfold Mp.assign at e2
    split at e2
    · rename_i hh
      rw [mode_eq hm] at hh
      cases e2
      refine ⟨O, r, d, r1, R0, e1, fun v H1 O1 s1 R1 rv => ?_⟩
      exact q _ H1 O1 s1 (R1.put hh.1 hh.2 rv) (Kp.set (.inr hh.1) _)
    · cases e2
theorem asgPS (hm : ec.md = c.md) {tg : Expr} {t : Tg} (he : PE X e (tD c m)) (hg : GV X c ec tg t) (hs : swapsWithSole [tg] e pos.line X.env = pure false) (hw : swappedStores [tg] e X.env = pure none)
    (hf : ∀ {d r r'}, assign ec t d r = some r' → ∀ j ∈ slotsT t, c.mode j = .fz) :
    PS X (.Assign [tg] e pos) (tSm c fr [] fun r => (m r).bind fun q => (assign ec t q.1 q.2).map nx) :=
  PS.imp (ps_asg he hg.pg hs hw (by rw [hg.st]; rfl)) fun D σ H ⟨O, r, fl, r', R0, em, q⟩ => by
    obtain ⟨⟨d, r1⟩, e1, em⟩ := Option.bind_eq_some_iff.mp em
    obtain ⟨r2, e2, em⟩ := Option.map_eq_some_iff.mp em
    cases em
    refine ⟨O, r, d, r1, R0, e1, fun v H1 O1 s1 R1 rv => ⟨O1, r1, d, _, R1, rv, e2, fun σ' R2 l2 k2 => ?_⟩⟩
    exact q σ' H1 O1 s1 R2 ⟨l2, fun j mj _ => k2 j fun z => mj (hf e2 j z)⟩
theorem ownPS (hm : ec.md = c.md) {ex : E} (h : PS X (.Assign [.Name py' p0] e pos) (tAsg (tF c m) (gName i))) :
    PS X (.Assign [.Name py' p0] e pos) (tSm c fr [i] fun r => if ec.mode i = .ow ∧ freshE ec ex = true ∧ i < r.length then (m r).map fun q => nx (Mp.put q.2 i q.1) else none) :=
  PS.imp h fun D σ H ⟨O, r, fl, r', R0, em, q⟩ => by
    simp only at em
    split at em
    · rename_i hh
      rw [mode_eq hm] at hh
      obtain ⟨⟨d, r1⟩, e1, em⟩ := Option.map_eq_some_iff.mp em
      cases em
      refine ⟨O, r, d, r1, R0, e1, fun p H1 O1 s1 R1 op oc b n0 h0 => ?_⟩
      exact q _ H1 O1 s1 (R1.ownS hh.1 (by rw [R1.len, ← R0.len]; exact hh.2.2) op oc b n0 h0) (Kp.set (.inl List.mem_cons_self) _)
    · cases em
theorem parPS (hm : ec.md = c.md) {x y : Str} {a b : Expr} {wa wb : View} {px py pt pt2 : Pos} {kt k2 : Nat} (hc : X.calm = true) (hN : X.N.Nodup) (hi : X.N[i]? = some x) (hj : X.N[j]? = some y)
    (hx : X.env.scope.names.lookup x = some .local) (hy : X.env.scope.names.lookup y = some .local) (ha : SV X c ec a wa) (hb : SV X c ec b wb)
    (hw : swappedStores [.Tuple [.Name x px, .Name y py] kt pt] (.Tuple [a, b] k2 pt2) X.env = pure (some [x, y])) :
    PS X (.Assign [.Tuple [.Name x px, .Name y py] kt pt] (.Tuple [a, b] k2 pt2) pos) (tSm c fr [] fun r => if ec.mode i = .fz ∧ ec.mode j = .fz ∧ i ≠ j ∧ i < r.length ∧ j < r.length then (wa.e r).bind fun p => (wb.e p.2).map fun q => nx (Mp.put (Mp.put q.2 i p.1) j q.1) else none) := by
  by_cases hij : i = j
  · exact PS.pick fun D σ H ⟨O, r, fl, r', R0, em, q⟩ => by
      simp only at em
      rw [if_neg (fun z => z.2.2.1 hij)] at em
      cases em
  · refine PS.imp (ps_par hc hN hi hj hij hx hy (SVs.cons ha (.cons hb .nil)).pa hw) fun D σ H ⟨O, r, fl, r', R0, em, q⟩ => ?_
    simp only at em
    split at em
    · rename_i hh
      rw [mode_eq hm, mode_eq hm] at hh
      obtain ⟨⟨d, r1⟩, e1, em⟩ := Option.bind_eq_some_iff.mp em
      obtain ⟨⟨d2, r2⟩, e2, em⟩ := Option.map_eq_some_iff.mp em
      cases em
      refine ⟨O, r, [d, d2], r2, R0, ?_, fun vs H1 O1 s1 R1 rv => ?_⟩
      · show (wa.e r).bind _ = _
        rw [e1]
        show ((wb.e r1).bind _).map _ = _
        rw [e2]; rfl
      · cases rv with
        | cons g1 gs =>
          cases gs with
          | cons g2 gs =>
            cases gs
            refine ⟨_, _, rfl, ?_⟩
            have l1 : i < r2.length := by rw [R1.len, ← R0.len]; exact hh.2.2.2.1
            have l2 : j < (Mp.put r2 i d).length := by unfold Mp.put; rw [List.length_set, R1.len, ← R0.len]; exact hh.2.2.2.2
            exact q _ H1 O1 s1 ((R1.put hh.1 l1 g1).put hh.2.1 l2 g2) ((Kp.set (ws := []) (.inr hh.1) _).trans (Kp.set (ws := []) (.inr hh.2.1) _) _ (fun _ h => h) (fun _ h => h))
    · cases em
theorem expPS (h : PE X e (tD c m)) (hs : swapsWith e none pos.line X.env = pure false) : PS X (.Expr e pos) (tSm c fr [] fun r => (m r).map fun q => nx q.2) :=
  PS.imp (ps_expr h hs) fun D σ H ⟨O, r, fl, r', R0, em, q⟩ => by
    obtain ⟨⟨d, r1⟩, e1, em⟩ := Option.map_eq_some_iff.mp em
    cases em
    exact ⟨O, r, d, r1, R0, e1, fun v H1 O1 s1 R1 rv => q σ H1 O1 s1 R1 .refl⟩
theorem retPS (hf : fr = false) (h : PE X e (tD c m)) : PS X (.Return (some e) pos) (tSm c fr [] fun r => (m r).map fun q => (.rt q.1, q.2)) :=
  PS.imp (ps_ret h) fun D σ H ⟨O, r, fl, r', R0, em, q⟩ => by
    obtain ⟨⟨d, r1⟩, e1, em⟩ := Option.map_eq_some_iff.mp em
    cases em
    exact ⟨O, r, d, r1, R0, e1, fun v H1 O1 s1 R1 rv => q v σ H1 O1 s1 R1 (by unfold RetOk; rw [hf]; exact rv)⟩
theorem retPF (hf : fr = true) (h : PE X e (tF c m)) : PS X (.Return (some e) pos) (tSm c fr [] fun r => (m r).map fun q => (.rt q.1, q.2)) :=
  PS.imp (ps_ret h) fun D σ H ⟨O, r, fl, r', R0, em, q⟩ => by
    obtain ⟨⟨d, r1⟩, e1, em⟩ := Option.map_eq_some_iff.mp em
    cases em
    exact ⟨O, r, d, r1, R0, e1, fun p H1 O1 s1 R1 op oc b n0 h0 => q (.ref p) σ H1 O1 s1 R1 (by unfold RetOk; rw [hf]; exact ⟨p, rfl, op, oc, n0, h0⟩)⟩
theorem retNPS (hf : fr = false) : PS X (.Return none pos) (tSm c fr [] fun r => (some (.none, r)).map fun q => (.rt q.1, q.2)) :=
  PS.imp ps_retN fun D σ H ⟨O, r, fl, r', R0, em, q⟩ => by
    cases em
    exact q .non σ H O .refl R0 (by unfold RetOk; rw [hf]; exact .non)
theorem passPS : PS X (.Pass pos) (tSm c fr [] fun r => some (nx r)) := PS.imp ps_pass fun D σ H ⟨O, r, fl, r', R0, em, q⟩ => by
  cases em
  exact q σ H O .refl R0 .refl
theorem brkPS : PS X (.Break pos) (tSm c fr [] fun r => some (.bk, r)) := PS.imp ps_break fun D σ H ⟨O, r, fl, r', R0, em, q⟩ => by
  cases em
  exact q σ H O .refl R0 .refl
theorem cntPS : PS X (.Continue pos) (tSm c fr [] fun r => some (.ct, r)) := PS.imp ps_continue fun D σ H ⟨O, r, fl, r', R0, em, q⟩ => by
  cases em
  exact q σ H O .refl R0 .refl
theorem nevPS {st : Stmt} : PS X st (tSm c fr ws fun _ => none) := PS.imp ps_never fun D σ H ⟨O, r, fl, r', R0, em, q⟩ => by cases em
/-- an own slot's thing is handed on -/
theorem varPF (hm : ec.md = c.md) (ho : c.mode i = .ow) {x : Str} (h : PE X (.Name x pos) (tVar i)) : PE X (.Name x pos) (tF c (varE ec i)) := PE.imp h fun σ H Q ⟨O, r, d, r', R0, em, q⟩ => by
  have mn : c.mode i ≠ .fz := by rw [ho]; decide
  unfold varE at em
  obtain ⟨d', g, em⟩ := Option.bind_eq_some_iff.mp em
  rw [mode_eq hm, ho] at em
  cases em
  obtain ⟨a, e1, oa, hi, oc⟩ := R0.ow i _ g mn
  have n0 := R0.own i a (by rw [g]; rfl) ho e1
  refine ⟨_, e1, q a H O .refl (R0.clr i) oa oc (fun j hj mj ej => ?_) n0 (hi.resolve_left fun z => n0 (R0.i0 a z))⟩
  obtain ⟨w, hw⟩ := isSome_get hj
  obtain ⟨w1, w2⟩ := get_set_none hw
  exact w2 (R0.sep j i a (by rw [w1]; rfl) (by rw [g]; rfl) mj mn ej e1)

/-! ### x[k] = e -/
theorem putPS (hm : ec.md = c.md) (hu : X.A.units + 500 < cLine) {x : Str} {k : Expr} {wk : View} {pk : Pos} (hv : PE X (.Name x p0) (tVar i)) (hk : SV X c ec k wk) (he : SV X c ec e w)
    (ha : ∀ v, PySem.assign (.Subscript (.Name x p0) k pk) X.env v = (do
      let ov ← holding [v] (eval (.Name x p0) X.env)
      let iv ← holding [v, ov] (eval k X.env)
      standAt pk
      holding [v, ov, iv] (setItem ov iv v)
      release [v, ov, iv] []))
    (hs : swapsWithSole [.Subscript (.Name x p0) k pk] e pos.line X.env = pure false) (hw : swappedStores [.Subscript (.Name x p0) k pk] e X.env = pure none)
    (h1 : (assignEach [.Subscript (.Name x p0) k pk] X.env).map (·.2) = [PySem.assign (.Subscript (.Name x p0) k pk) X.env]) :
    PS X (.Assign [.Subscript (.Name x p0) k pk] e pos) (tSm c fr [] fun r => if ec.mode i = .fz then none else (w.e r).bind fun p => if (get p.2 i).isSome = true then (wk.e p.2).bind fun q => match get q.2 i, q.1 with
      | some (.list ds), .int n => (L2.ixN ds.length n).map fun j => nx (Mp.put q.2 i (.list (ds.set j p.1)))
      | some (.dict kvs), .str x => if kvs.length < sizeLine then some (nx (Mp.put q.2 i (.dict (dput kvs x p.1)))) else none
      | _, _ => none else none) := by
  refine PS.pick fun D σ H ⟨O, r, fl, r', R0, em, q⟩ => ?_
  simp only at em
  split at em
  · cases em
  · rename_i hf
    rw [mode_eq hm] at hf
    obtain ⟨⟨d, r1⟩, e1, em⟩ := Option.bind_eq_some_iff.mp em
    simp only at em
    split at em
    · rename_i hs1
      obtain ⟨d0, g0⟩ := isSome_get hs1
      obtain ⟨⟨dk, r2⟩, e2, em⟩ := Option.bind_eq_some_iff.mp em
      simp only at em
      split at em
      · rename_i ds n g
        obtain ⟨j, e3, em⟩ := Option.map_eq_some_iff.mp em
        cases em
        refine ⟨_, ps_asg he.pe (pg_sub hv hk.pe set_list ha) hs hw h1, ?_⟩
        refine ⟨O, r, d, r1, R0, e1, fun v H1 O1 s1 R1 rv => ?_⟩
        obtain ⟨a, f1, _, _, _⟩ := R1.ow i _ g0 hf
        refine ⟨_, f1, O1, r1, _, r2, R1, e2, fun y H2 O2 s2 R2 ry => ?_⟩
        have ey := RepX.int (.inl ry)
        subst ey
        obtain ⟨a', xs, f1', oa, eH, ra⟩ := R2.at_list hf g
        rw [f1] at f1'
        cases f1'
        refine ⟨a, xs, n, j, rfl, rfl, eH, by rw [ra.length]; exact e3, ?_⟩
        have s3 : Step O2 H2 O2 (upd H2 a (.lst (xs.set j v))) := Step.refl.chg oa
        obtain ⟨R3, s4⟩ := R2.mut hf g f1 (.inl ⟨xs.set j v, rfl⟩) (.lst upd_same (RepA.set ((rv.step s2).step s3) j (ra.step s3)))
        exact q σ _ O2 ((s1.trans s2).trans s4) R3 .refl
      · rename_i kvs x g
        split at em
        · rename_i hz
          cases em
          refine ⟨_, ps_asg he.pe (pg_sub hv hk.pe (set_dict (by omega)) ha) hs hw h1, ?_⟩
          refine ⟨O, r, d, r1, R0, e1, fun v H1 O1 s1 R1 rv => ?_⟩
          obtain ⟨a, f1, _, _, _⟩ := R1.ow i _ g0 hf
          refine ⟨_, f1, O1, r1, _, r2, R1, e2, fun y H2 O2 s2 R2 ry => ?_⟩
          have ey := RepX.str (.inl ry)
          subst ey
          obtain ⟨a', xs, f1', oa, eH, nd, ra⟩ := R2.at_dict hf g
          rw [f1] at f1'
          cases f1'
          refine ⟨a, _, rfl, DPut.k (k := .inr x) eH (by rw [repk_len ra]; exact hz), ?_⟩
          have s3 : Step O2 H2 O2 (upd H2 a (.dK (putK xs (.inr x) v))) := Step.refl.chg oa
          obtain ⟨R3, s4⟩ := R2.mut hf g f1 (.inr ⟨putK xs (.inr x) v, rfl⟩) (.dct upd_same (put_keys nd) (put_rep ((rv.step s2).step s3) (ra.step s3) nd))
          exact q σ _ O2 ((s1.trans s2).trans s4) R3 .refl
        · cases em
      · cases em
    · cases em
/-! ### x += e, x -= e -/
theorem augPS (hm : ec.md = c.md) (hN : X.N.Nodup) {x : Str} (hi : X.N[i]? = some x) (hx : Loc X.env.scope x) (hf : X.fn x = true ∨ X.env.scope.names.lookup x = some .local) (he : SV X c ec e w) {op : Operator} :
    PS X (.AugAssign (.Name x p0) op e pos) (tSm c fr [] fun r => if ec.mode i = .fz then (get r i).bind fun x => (w.e r).bind fun p => match x, p.1, op with
    | .int a, .int b, .Add => some (nx (Mp.put p.2 i (.int (a + b))))
    | .int a, .int b, .Sub => some (nx (Mp.put p.2 i (.int (a - b))))
    | _, _, _ => none else none) := by
  refine PS.pick fun D σ H ⟨O, r, fl, r', R0, em, q⟩ => ?_
  simp only at em
  split at em
  · rename_i hf0
    rw [mode_eq hm] at hf0
    obtain ⟨x0, g, em⟩ := Option.bind_eq_some_iff.mp em
    obtain ⟨⟨d, r1⟩, e1, em⟩ := Option.bind_eq_some_iff.mp em
    obtain ⟨v0, f1, f2⟩ := R0.fz i _ g hf0
    have gl : i < r.length := get_lt g
    simp only at em
    split at em
    · cases em
      refine ⟨_, ps_aug hN hi hx he.pe ip_add hf, v0, f1, O, r, _, r1, R0, e1, fun y H1 O1 s1 R1 ry => ?_⟩
      have a1 := RepX.int (.inl f2)
      have a2 := RepX.int (.inl ry)
      subst a1 a2
      exact ⟨_, _, rfl, rfl, q _ H1 O1 s1 (R1.put hf0 (by rw [R1.len, ← R0.len]; exact gl) (.int _)) (Kp.set (.inr hf0) _)⟩
    · cases em
      refine ⟨_, ps_aug hN hi hx he.pe ip_sub hf, v0, f1, O, r, _, r1, R0, e1, fun y H1 O1 s1 R1 ry => ?_⟩
      have a1 := RepX.int (.inl f2)
      have a2 := RepX.int (.inl ry)
      subst a1 a2
      exact ⟨_, _, rfl, rfl, q _ H1 O1 s1 (R1.put hf0 (by rw [R1.len, ← R0.len]; exact gl) (.int _)) (Kp.set (.inr hf0) _)⟩
    · cases em
  · cases em
end
end Mp

/-! statements: rows, if, for, while -/
namespace Mp
open PySem PySem.Spec PyProof.Rows L2

section
variable {X : Cx} {c : Cf} {ec : Ec} {fr : Bool} {ws w1 w2 : List Nat} {O O' : Addr → Prop} {r r' : Env} {σ σ' : L2.St} {H H' : Hp} {pos : Pos} {e : Expr} {w : View} {m1 m2 : SM} {D : Ends}
theorem tEnd.step {fl : Fl} {w0 : List Nat} (s : Step O H O' H') (k : Kp c w0 σ σ') (h0 : ∀ j ∈ w0, j ∈ ws) (h1 : ∀ j ∈ w1, j ∈ ws) (q : tEnd c fr ws D O H σ r' fl) : tEnd c fr w1 D O' H' σ' r' fl := by
  cases fl with
  | nx => exact fun σ2 H2 O2 s2 R2 k2 => q σ2 H2 O2 (s.trans s2) R2 (k.trans k2 ws h0 h1)
  | bk => exact fun σ2 H2 O2 s2 R2 k2 => q σ2 H2 O2 (s.trans s2) R2 (k.trans k2 ws h0 h1)
  | ct => exact fun σ2 H2 O2 s2 R2 k2 => q σ2 H2 O2 (s.trans s2) R2 (k.trans k2 ws h0 h1)
  | rt d => exact fun v σ2 H2 O2 s2 R2 rv => q v σ2 H2 O2 (s.trans s2) R2 rv
theorem nilPSs : PSs X [] (tSm c fr [] fun r => some (nx r)) := PSs.imp pss_nil fun D σ H ⟨O, r, fl, r', R0, em, q⟩ => by
  cases em
  exact q σ H O .refl R0 .refl
theorem consPSs {st : Stmt} {sts : List Stmt} (h1 : PS X st (tSm c fr w1 m1)) (h2 : PSs X sts (tSm c fr w2 m2)) : PSs X (st :: sts) (tSm c fr (w1 ++ w2) (thenS m1 m2)) :=
  PSs.imp (pss_cons h1 h2) fun D σ H ⟨O, r, fl, r', R0, em, q⟩ => by
    unfold thenS at em
    obtain ⟨⟨f1, r1⟩, e1, em⟩ := Option.bind_eq_some_iff.mp em
    refine ⟨O, r, f1, r1, R0, e1, ?_⟩
    have i1 : ∀ j ∈ w1, j ∈ w1 ++ w2 := fun j h => List.mem_append_left _ h
    have i2 : ∀ j ∈ w2, j ∈ w1 ++ w2 := fun j h => List.mem_append_right _ h
    cases f1 with
    | nx => exact fun σ1 H1 O1 s1 R1 k1 => ⟨O1, r1, fl, r', R1, em, q.step s1 k1 i1 i2⟩
    | bk => cases em; exact fun σ1 H1 O1 s1 R1 k1 => q σ1 H1 O1 s1 R1 (k1.mono i1)
    | ct => cases em; exact fun σ1 H1 O1 s1 R1 k1 => q σ1 H1 O1 s1 R1 (k1.mono i1)
    | rt d => cases em; exact q
theorem itePS {a b : List Stmt} (ht : SV X c ec e w) (ha : PSs X a (tSm c fr w1 m1)) (hb : PSs X b (tSm c fr w2 m2)) : PS X (.If e a b pos) (tSm c fr (w1 ++ w2) fun r => (w.t r).bind fun p => if p.1 then m1 p.2 else m2 p.2) :=
  PS.imp (ps_if ht.pt ha hb) fun D σ H ⟨O, r, fl, r', R0, em, q⟩ => by
    obtain ⟨⟨b, r1⟩, e1, em⟩ := Option.bind_eq_some_iff.mp em
    refine ⟨O, r, b, r1, R0, e1, fun H1 O1 s1 R1 => ?_⟩
    have i1 : ∀ j ∈ w1, j ∈ w1 ++ w2 := fun j h => List.mem_append_left _ h
    have i2 : ∀ j ∈ w2, j ∈ w1 ++ w2 := fun j h => List.mem_append_right _ h
    cases b with
    | true => show (if true = true then _ else _); rw [if_pos rfl]; exact ⟨O1, r1, fl, r', R1, by simpa using em, q.step s1 (Kp.refl (ws := [])) (fun _ h => (by cases h)) i1⟩
    | false => show (if false = true then _ else _); rw [if_neg Bool.false_ne_true]; exact ⟨O1, r1, fl, r', R1, by simpa using em, q.step s1 (Kp.refl (ws := [])) (fun _ h => (by cases h)) i2⟩

/-! ### for -/
theorem forL_some {ok : Env → Bool} {wp : Env → Env} {tg : Mp.D → Env → Option Env} {body : SM} {ds : List Mp.D} {ρ rE : Env} {fl : Fl} {i : Nat} {d : Mp.D} (hd : ds[i]? = some d) (e : forL ok wp tg body (ds.drop i) ρ = some (fl, rE)) :
    ok ρ = true ∧ ∃ ρ1 f1 ρ2, tg d (wp ρ) = some ρ1 ∧ body ρ1 = some (f1, ρ2) ∧ match f1 with
      | .nx => forL ok wp tg body (ds.drop (i + 1)) (wp ρ2) = some (fl, rE)
      | .ct => forL ok wp tg body (ds.drop (i + 1)) (wp ρ2) = some (fl, rE)
      | .bk => fl = .nx ∧ rE = wp ρ2
      | .rt d => fl = .rt d ∧ rE = ρ2 := by
  obtain ⟨hi, hd'⟩ := List.getElem?_eq_some_iff.mp hd
  rw [List.drop_eq_getElem_cons hi, hd'] at e
  unfold forL at e
  split at e
  · rename_i hok
    obtain ⟨ρ1, e1, e⟩ := Option.bind_eq_some_iff.mp e
    obtain ⟨⟨f1, ρ2⟩, e2, e⟩ := Option.bind_eq_some_iff.mp e
    refine ⟨hok, ρ1, f1, ρ2, e1, e2, ?_⟩
    cases f1 with
    | nx => exact e
    | ct => exact e
    | bk => cases e; exact ⟨rfl, rfl⟩
    | rt d => cases e; exact ⟨rfl, rfl⟩
  · cases e
theorem forL_end {ok : Env → Bool} {wp : Env → Env} {tg : Mp.D → Env → Option Env} {body : SM} {ds : List Mp.D} {ρ rE : Env} {fl : Fl} {i : Nat} (hi : ds.length ≤ i) (e : forL ok wp tg body (ds.drop i) ρ = some (fl, rE)) : ok ρ = true ∧ fl = .nx ∧ rE = ρ := by
  rw [List.drop_eq_nil_of_le hi] at e
  unfold forL at e
  split at e
  · rename_i hok
    cases e
    exact ⟨hok, rfl, rfl⟩
  · cases e
theorem forPS (hc : X.calm = true) (hp : PassesOwn (model X.prog X.w) X.A X.env X.xe) {tg it : Expr} {t : Tg} {wi : View} {body : List Stmt} {wp : List Nat} (hi : SV X c ec it wi) (hg : GV X c ec tg t) (hb : PSs X body (tSm c fr w1 m1))
    (hf : ∀ {d r r'}, assign ec t d r = some r' → ∀ j ∈ slotsT t, c.mode j = .fz) :
    PS X (.For tg it body [] pos) (tSm c fr w1 fun r => (wi.i r).bind fun p => if p.1.out w1 = true then forL p.1.ok (fun e => Mp.wipe e wp) (assign ec t) m1 p.1.ds (Mp.wipe p.2 wp) else none) := by
  refine PS.imp (ps_for hp hc (hi.pi tg) hg.pg hb (fun x => hi.nf _ x)) fun D σ H ⟨O, r, fl, r', R0, em, q⟩ => ?_
  obtain ⟨⟨T, r1⟩, e1, em⟩ := Option.bind_eq_some_iff.mp em
  simp only at em
  split at em
  · rename_i hout
    refine ⟨O, r, T, r1, R0, e1, fun J H1 O1 s1 R1 wk => ?_⟩
    refine ⟨fun i m σ' H' => m = T.ds.length - i ∧ i ≤ T.ds.length ∧ ∃ O' ρ, Step O1 H1 O' H' ∧ R c O' ρ σ' H' ∧ Kp c w1 σ σ' ∧ forL T.ok (fun e => Mp.wipe e wp) (assign ec t) m1 (T.ds.drop i) ρ = some (fl, r'),
      ⟨T.ds.length, by simp, Nat.zero_le _, O1, _, .refl, R1.wipe wp, .refl, by simpa using em⟩, ?_⟩
    rintro i m σ2 H2 ⟨rfl, hle, O2, ρ, s2, R2, k2, eL⟩
    have hat : ∀ j ds, T.at_ = some (j, ds) → c.mode j ≠ .fz → σ2[j]? = σ[j]? := fun j ds ha mj => k2.2 j mj (by
      unfold Mp.Its.out at hout
      rw [ha] at hout
      simpa using hout)
    by_cases hlt : i < T.ds.length
    · have hd : T.ds[i]? = some T.ds[i] := List.getElem?_eq_getElem hlt
      obtain ⟨ok, ρ1, f1, ρ2, e2, e3, e4⟩ := forL_some hd eL
      obtain ⟨v1, v2, v3⟩ := wk c rfl rfl i O2 H2 ρ σ2 s2 R2 hat ok
      refine .inr ⟨v1 hlt, fun σ' H' => ∃ O' ρ, Step O1 H1 O' H' ∧ R c O' ρ σ' H' ∧ Kp c w1 σ σ' ∧ forL T.ok (fun e => Mp.wipe e wp) (assign ec t) m1 (T.ds.drop (i + 1)) ρ = some (fl, r'), fun σ' H' nx => ⟨T.ds.length - (i + 1), by omega, rfl, hlt, nx⟩, fun x H' y => ?_⟩
      obtain ⟨g, rx⟩ := v3 x H' y _ hd
      refine ⟨O2, Mp.wipe ρ wp, _, ρ1, (R2.grow g).wipe wp, rx, e2, fun σ3 R3 l3 k3 => ?_⟩
      have kk : Kp c w1 σ σ3 := k2.trans (ws' := []) ⟨l3, fun j mj _ => k3 j fun z => mj (hf e2 j z)⟩ _ (fun _ h => h) (fun _ h => (by cases h))
      have ss : Step O1 H1 O2 H' := s2.trans (Step.grow g)
      refine ⟨O2, ρ1, f1, ρ2, R3, e3, ?_⟩
      cases f1 with
      | nx => exact fun σ4 H4 O4 s4 R4 k4 => ⟨O4, _, ss.trans s4, R4.wipe wp, kk.trans k4 _ (fun _ h => h) (fun _ h => h), e4⟩
      | ct => exact fun σ4 H4 O4 s4 R4 k4 => ⟨O4, _, ss.trans s4, R4.wipe wp, kk.trans k4 _ (fun _ h => h) (fun _ h => h), e4⟩
      | bk =>
        obtain ⟨rfl, rfl⟩ := e4
        exact fun σ4 H4 O4 s4 R4 k4 => q σ4 H4 O4 ((s1.trans ss).trans s4) (R4.wipe wp) (kk.trans k4 _ (fun _ h => h) (fun _ h => h))
      | rt d =>
        obtain ⟨rfl, rfl⟩ := e4
        exact fun v σ4 H4 O4 s4 R4 rv => q v σ4 H4 O4 ((s1.trans ss).trans s4) R4 rv
    · have hi' : T.ds.length ≤ i := by omega
      obtain ⟨ok, rfl, rfl⟩ := forL_end hi' eL
      obtain ⟨v1, v2, v3⟩ := wk c rfl rfl i O2 H2 _ σ2 s2 R2 hat ok
      exact .inl ⟨v2 hi', q σ2 H2 O2 (s1.trans s2) R2 k2⟩
  · cases em
theorem whPS (hp : PassesOwn (model X.prog X.w) X.A X.env X.xe) {body : List Stmt} {wp : List Nat} {n : Nat} (ht : SV X c ec e w) (hb : PSs X body (tSm c fr w1 m1)) :
    PS X (.While e body [] pos) (tSm c fr w1 fun r => whL (fun e => Mp.wipe e wp) w.t m1 n (Mp.wipe r wp)) := by
  refine PS.imp (ps_while hp ht.pt hb) fun D σ H ⟨O, r, fl, r', R0, em, q⟩ => ?_
  refine ⟨fun m σ' H' => ∃ O' ρ, Step O H O' H' ∧ R c O' ρ σ' H' ∧ Kp c w1 σ σ' ∧ whL (fun e => Mp.wipe e wp) w.t m1 m ρ = some (fl, r'), ⟨n, O, _, .refl, R0.wipe wp, .refl, em⟩, ?_⟩
  rintro m σ2 H2 ⟨O2, ρ, s2, R2, k2, eL⟩
  cases m with
  | zero => cases eL
  | succ m =>
    unfold whL at eL
    obtain ⟨⟨b, ρ1⟩, e1, eL⟩ := Option.bind_eq_some_iff.mp eL
    refine ⟨O2, ρ, b, ρ1, R2, e1, fun H3 O3 s3 R3 => ?_⟩
    cases b with
    | false =>
      show (if false = true then _ else _)
      rw [if_neg Bool.false_ne_true]
      cases eL
      exact q σ2 H3 O3 (s2.trans s3) R3 k2
    | true =>
      show (if true = true then _ else _)
      rw [if_pos rfl]
      obtain ⟨⟨f1, ρ2⟩, e2, eL⟩ := Option.bind_eq_some_iff.mp eL
      refine ⟨fun σ' H' => ∃ O' ρ, Step O H O' H' ∧ R c O' ρ σ' H' ∧ Kp c w1 σ σ' ∧ whL (fun e => Mp.wipe e wp) w.t m1 m ρ = some (fl, r'), fun σ' H' nx => ⟨m, Nat.lt_succ_self m, nx⟩, O3, ρ1, f1, ρ2, R3, e2, ?_⟩
      have ss := s2.trans s3
      cases f1 with
      | nx => exact fun σ4 H4 O4 s4 R4 k4 => ⟨O4, _, ss.trans s4, R4.wipe wp, k2.trans k4 _ (fun _ h => h) (fun _ h => h), eL⟩
      | ct => exact fun σ4 H4 O4 s4 R4 k4 => ⟨O4, _, ss.trans s4, R4.wipe wp, k2.trans k4 _ (fun _ h => h) (fun _ h => h), eL⟩
      | bk => cases eL; exact fun σ4 H4 O4 s4 R4 k4 => q σ4 H4 O4 (ss.trans s4) (R4.wipe wp) (k2.trans k4 _ (fun _ h => h) (fun _ h => h))
      | rt d => cases eL; exact fun v σ4 H4 O4 s4 R4 rv => q v σ4 H4 O4 (ss.trans s4) R4 rv
end
end Mp

/-! calls: the arguments -/
namespace Mp
open PySem PySem.Spec PyProof.Rows L2

theorem PA.pick {X : Cx} {es : List Expr} {t' : TA} (g : ∀ σ H Q, t' σ H Q → ∃ t, PA X es t ∧ t σ H Q) : PA X es t' := ⟨fun pos pins s σ H Q I q => by
  obtain ⟨t, h, z⟩ := g σ H Q q
  exact h.run pos pins s σ H Q I z⟩
/-- an argument as it is handed over -/
inductive ArReps (c : Cf) (O : Addr → Prop) (r : Env) (σ : L2.St) (H : Hp) : List Md → List Ar → List V → Prop
  | nil : ArReps c O r σ H [] [] []
  | val {d v ms as vs} : Rep c.K H O v d → ArReps c O r σ H ms as vs → ArReps c O r σ H (.fz :: ms) (.val d :: as) (v :: vs)
  | ref {m i v ms as vs} : m ≠ .fz → c.mode i ≠ .fz → σ[i]? = some (some v) → ArReps c O r σ H ms as vs → ArReps c O r σ H (m :: ms) (.ref i :: as) (v :: vs)
  | tmp {m d p} : m ≠ .fz → O p → OwnC c.K H O p d → Bare c r σ p → ¬ c.O0 p → c.H0 p = none → ArReps c O r σ H [m] [.tmp d] [.ref p]
def tAr (c : Cf) (pm : List Md) (m : Env → Option (List Ar × Env)) : TA := fun σ H Q => ∃ O r as r', R c O r σ H ∧ m r = some (as, r') ∧ ∀ vs H' O', Step O H O' H' → R c O' r' σ H' → ArReps c O' r' σ H' pm as vs → Q vs H'
theorem asV_cons {ec : Ec} {m : Md} {ms : List Md} {w : View} {ws : List View} {r : Env} (hz : m ≠ .fz) : asV ec (m :: ms) (w :: ws) r = (match w.v with
      | some i => if ec.mode i = .fz ∨ (get r i).isSome = false then none else (asV ec ms ws r).map fun q => (.ref i :: q.1, q.2)
      | none => match w.l, ms, ws with
        | some l, [], [] => (l r).bind fun p => if p.1.length ≤ sizeLine then some ([.tmp (.list p.1)], p.2) else none
        | _, _, _ => none) := by
  cases m with
  | fz => exact absurd rfl hz
  | ow => rfl
  | io => rfl
section
variable {X : Cx} {c : Cf} {ec : Ec} {O O' : Addr → Prop} {r r' : Env} {σ : L2.St} {H H' : Hp}
theorem SVs.par (hm : ec.md = c.md) : ∀ {es : List Expr} {ws : List View}, SVs X c ec es ws → ∀ pm, PA X es (tAr c pm (asV ec pm ws))
  | _, _, .nil, [] => PA.imp pa_nil fun σ H Q ⟨O, r, as, r', R0, em, q⟩ => by
    cases em
    exact q [] H O .refl R0 .nil
  | _, _, .nil, m :: ms => PA.imp pa_nil fun σ H Q ⟨O, r, as, r', R0, em, q⟩ => by
    have z : asV ec (m :: ms) [] r = none := by cases m <;> rfl
    rw [z] at em
    cases em
  | e :: es, w :: ws, .cons h t, [] => PA.imp (pa_cons h.pe (SVs.par hm t []) (h.st _ _)) fun σ H Q ⟨O, r, as, r', R0, em, q⟩ => by cases em
  | e :: es, w :: ws, .cons h t, .fz :: ms => PA.imp (pa_cons h.pe (SVs.par hm t ms) (h.st _ _)) fun σ H Q ⟨O, r, as, r', R0, em, q⟩ => by
    obtain ⟨⟨d, r1⟩, e1, em⟩ := Option.bind_eq_some_iff.mp em
    obtain ⟨⟨as', r2⟩, e2, em⟩ := Option.map_eq_some_iff.mp em
    cases em
    exact ⟨O, r, d, r1, R0, e1, fun v H1 O1 s1 R1 rv => ⟨O1, r1, as', _, R1, e2, fun vs H2 O2 s2 R2 rs => q (v :: vs) H2 O2 (s1.trans s2) R2 (.val (rv.step s2) rs)⟩⟩
  | e :: es, w :: ws, .cons h t, .ow :: ms => SVs.parM hm h t (SVs.par hm t) (by decide)
  | e :: es, w :: ws, .cons h t, .io :: ms => SVs.parM hm h t (SVs.par hm t) (by decide)
where
  SVs.parM {X : Cx} {c : Cf} {ec : Ec} (hm : ec.md = c.md) {e : Expr} {es : List Expr} {w : View} {ws : List View} (h : SV X c ec e w) (t : SVs X c ec es ws) (ih : ∀ pm, PA X es (tAr c pm (asV ec pm ws))) {m : Md} {ms : List Md} (hz : m ≠ .fz) : PA X (e :: es) (tAr c (m :: ms) (asV ec (m :: ms) (w :: ws))) := by
    have eq := fun r => asV_cons (ec := ec) (w := w) (ws := ws) (ms := ms) (r := r) hz
    cases hv : w.v with
    | some i =>
      obtain ⟨x, p0, rfl, hp, hx⟩ := h.pv i hv
      refine PA.imp (pa_cons hp (ih ms) (h.st _ _)) fun σ H Q ⟨O, r, as, r', R0, em, q⟩ => ?_
      rw [eq, hv] at em
      simp only at em
      split at em
      · cases em
      · rename_i hh
        rw [not_or, mode_eq hm] at hh
        obtain ⟨d, g⟩ := isSome_get (by cases hz2 : (get r i).isSome with | true => rfl | false => exact absurd hz2 hh.2)
        obtain ⟨a, f1, _⟩ := R0.ow i d g hh.1
        obtain ⟨⟨as', r2⟩, e2, em⟩ := Option.map_eq_some_iff.mp em
        cases em
        exact ⟨_, f1, O, r, as', _, R0, e2, fun vs H2 O2 s2 R2 rs => q (.ref a :: vs) H2 O2 s2 R2 (.ref hz hh.1 f1 rs)⟩
    | none =>
      cases hl : w.l with
      | none =>
        refine PA.imp (pa_cons h.pe (ih ms) (h.st _ _)) fun σ H Q ⟨O, r, as, r', R0, em, q⟩ => ?_
        rw [eq, hv, hl] at em
        cases em
      | some l =>
        cases ms with
        | cons m2 ms =>
          refine PA.imp (pa_cons h.pe (ih []) (h.st _ _)) fun σ H Q ⟨O, r, as, r', R0, em, q⟩ => ?_
          rw [eq, hv, hl] at em
          cases em
        | nil =>
          cases t with
          | cons h2 t2 =>
            refine PA.imp (pa_cons h.pe (ih []) (h.st _ _)) fun σ H Q ⟨O, r, as, r', R0, em, q⟩ => ?_
            rw [eq, hv, hl] at em
            cases em
          | nil =>
            refine PA.imp (pa_cons (h.pl l hl) pa_nil (h.st _ _)) fun σ H Q ⟨O, r, as, r', R0, em, q⟩ => ?_
            rw [eq, hv, hl] at em
            simp only at em
            obtain ⟨⟨ds, r1⟩, e1, em⟩ := Option.bind_eq_some_iff.mp em
            simp only at em
            split at em
            · rename_i hs
              cases em
              refine ⟨O, r, .list ds, r', R0, ?_, fun p H1 O1 s1 R1 op oc b n0 h0 => q [.ref p] H1 O1 s1 R1 (.tmp hz op oc b n0 h0)⟩
              unfold listE
              rw [e1]
              show (if _ then _ else _) = _
              rw [if_pos hs]
            · cases em
end
end Mp

/-! calls: what a def promises -/
namespace Mp
open PySem PySem.Spec PyProof.Rows L2 C8

/-- the i-th thing handed in to be changed stands at a -/
def InA (pm : List Md) (vs : List V) (a : Addr) : Prop := ∃ (i : Nat) (m : Md), pm[i]? = some m ∧ m ≠ .fz ∧ vs[i]? = some (.ref a)
/-- the arguments, as a def gets them -/
structure ArgsOk (K : PySem.W.Frag) (H : Hp) (O : Addr → Prop) (pm : List Md) (vs : List V) (ds : List D) : Prop where
  lv : vs.length = pm.length
  ld : ds.length = pm.length
  fz : ∀ (i : Nat) (v : V) (d : D), pm[i]? = some .fz → vs[i]? = some v → ds[i]? = some d → Rep K H O v d
  io : ∀ (i : Nat) (m : Md) (v : V) (d : D), pm[i]? = some m → m ≠ .fz → vs[i]? = some v → ds[i]? = some d → ∃ a, v = .ref a ∧ O a ∧ OwnC K H O a d
  nd : ∀ (i j : Nat) (m m' : Md) (a : Addr), pm[i]? = some m → m ≠ .fz → pm[j]? = some m' → m' ≠ .fz → vs[i]? = some (.ref a) → vs[j]? = some (.ref a) → i = j
/-- the end of a call -/
structure EndOk (K : PySem.W.Frag) (H : Hp) (O : Addr → Prop) (pm : List Md) (vs : List V) (fr : Bool) (out : List D) (d : D) (v : V) (H' : Hp) (O' : Addr → Prop) : Prop where
  keep : ∀ a o, H a = some o → ¬ InA pm vs a → H' a = some o
  alive : ∀ a, O' a → MutO H' a
  sub : ∀ a, O a → O' a
  lo : out.length = pm.length
  out : ∀ (i : Nat) (m : Md) (a : Addr) (d : D), pm[i]? = some m → m ≠ .fz → vs[i]? = some (.ref a) → out[i]? = some d → OwnC K H' O' a d
  val : if fr = true then ∃ p, v = .ref p ∧ H p = none ∧ (∀ a, O' a → O a ∨ a = p) ∧ O' p ∧ OwnC K H' O' p d else (∀ a, O' a → O a) ∧ Rep K H' O' v d
/-- a def's promise -/
def spM (K : PySem.W.Frag) (pm : List Md) (fr : Bool) (f : List D → Option (D × List D)) : Sp := fun vs H Q _ =>
  ∃ O args d out, Al O H ∧ ArgsOk K H O pm vs args ∧ f args = some (d, out) ∧ ∀ v H' O', EndOk K H O pm vs fr out d v H' O' → Q v H'

section
variable {X : Cx} {c : Cf} {ec : Ec} {O O' : Addr → Prop} {r r' : Env} {σ : L2.St} {H H' : Hp} {pm : List Md} {as : List Ar} {vs : List V} {ds out : List D} {fr : Bool} {d : D} {v : V}
theorem ArReps.len (h : ArReps c O r σ H pm as vs) : as.length = pm.length ∧ vs.length = pm.length := by
  induction h with
  | nil => exact ⟨rfl, rfl⟩
  | val _ _ ih => simp [ih]
  | ref _ _ _ _ ih => simp [ih]
  | tmp => exact ⟨rfl, rfl⟩
/-- the i-th argument -/
inductive ArAt (c : Cf) (O : Addr → Prop) (r : Env) (σ : L2.St) (H : Hp) (n i : Nat) : Md → Ar → V → Prop
  | val {d : D} {v : V} : Rep c.K H O v d → ArAt c O r σ H n i .fz (.val d) v
  | ref {m : Md} {j : Nat} {v : V} : m ≠ .fz → c.mode j ≠ .fz → σ[j]? = some (some v) → ArAt c O r σ H n i m (.ref j) v
  | tmp {m : Md} {d : D} {p : Addr} : m ≠ .fz → i + 1 = n → O p → OwnC c.K H O p d → Bare c r σ p → ¬ c.O0 p → c.H0 p = none → ArAt c O r σ H n i m (.tmp d) (.ref p)
theorem ArReps.at (h : ArReps c O r σ H pm as vs) : ∀ {i : Nat} {m : Md}, pm[i]? = some m → ∃ ar v, as[i]? = some ar ∧ vs[i]? = some v ∧ ArAt c O r σ H pm.length i m ar v := by
  induction h with
  | nil => intro i m e; simp at e
  | @val d v ms as vs rv _ ih =>
    intro i m e
    cases i with
    | zero => simp at e; subst e; exact ⟨_, _, rfl, rfl, .val rv⟩
    | succ i =>
      obtain ⟨ar, w, h1, h2, h3⟩ := ih (by simpa using e)
      refine ⟨ar, w, by simpa using h1, by simpa using h2, ?_⟩
      cases h3 with
      | val a => exact .val a
      | ref a b c => exact .ref a b c
      | tmp a b c d e f g => exact .tmp a (by simp; omega) c d e f g
  | @ref m0 j v ms as vs h1 h2 h3 _ ih =>
    intro i m e
    cases i with
    | zero => simp at e; subst e; exact ⟨_, _, rfl, rfl, .ref h1 h2 h3⟩
    | succ i =>
      obtain ⟨ar, w, h1, h2, h3⟩ := ih (by simpa using e)
      refine ⟨ar, w, by simpa using h1, by simpa using h2, ?_⟩
      cases h3 with
      | val a => exact .val a
      | ref a b c => exact .ref a b c
      | tmp a b c d e f g => exact .tmp a (by simp; omega) c d e f g
  | tmp a b c d e f =>
    intro i m e
    cases i with
    | zero => simp at e; subst e; exact ⟨_, _, rfl, rfl, .tmp a rfl b c d e f⟩
    | succ i => simp at e
theorem arAll_at : ∀ {as : List Ar} {ds : List D}, arAll r as = some ds → ds.length = as.length ∧ ∀ (i : Nat) (ar : Ar), as[i]? = some ar → ∃ d : D, ds[i]? = some d ∧ ar.res r = some d
  | [], _, e => by cases e; exact ⟨rfl, fun i ar h => by simp at h⟩
  | a :: as, ds, e => by
    unfold arAll at e
    obtain ⟨d, e1, e⟩ := Option.bind_eq_some_iff.mp e
    obtain ⟨ds', e2, e⟩ := Option.bind_eq_some_iff.mp e
    cases e
    obtain ⟨h1, h2⟩ := arAll_at e2
    refine ⟨by simp [h1], fun i ar h => ?_⟩
    cases i with
    | zero => simp at h; subst h; exact ⟨d, rfl, e1⟩
    | succ i =>
      obtain ⟨d', h3, h4⟩ := h2 i ar (by simpa using h)
      exact ⟨d', by simpa using h3, h4⟩
theorem refs_mem : ∀ {as : List Ar} {j : Nat}, j ∈ refsOf as ↔ ∃ i : Nat, as[i]? = some (Ar.ref j)
  | [], j => by simp [refsOf]
  | .ref k :: as, j => by
    unfold refsOf
    rw [List.mem_cons, refs_mem (as := as)]
    constructor
    · rintro (rfl | ⟨i, h⟩)
      · exact ⟨0, rfl⟩
      · exact ⟨i + 1, by simpa using h⟩
    · rintro ⟨i, h⟩
      cases i with
      | zero => simp at h; exact .inl h.symm
      | succ i => exact .inr ⟨i, by simpa using h⟩
  | .val _ :: as, j => by
    unfold refsOf
    rw [refs_mem (as := as)]
    constructor
    · rintro ⟨i, h⟩; exact ⟨i + 1, by simpa using h⟩
    · rintro ⟨i, h⟩
      cases i with
      | zero => simp at h
      | succ i => exact ⟨i, by simpa using h⟩
  | .tmp _ :: as, j => by
    unfold refsOf
    rw [refs_mem (as := as)]
    constructor
    · rintro ⟨i, h⟩; exact ⟨i + 1, by simpa using h⟩
    · rintro ⟨i, h⟩
      cases i with
      | zero => simp at h
      | succ i => exact ⟨i, by simpa using h⟩
theorem refs_nd : ∀ {as : List Ar} {i j k : Nat}, (refsOf as).Nodup → as[i]? = some (.ref k) → as[j]? = some (.ref k) → i = j
  | [], i, j, k, _, h, _ => by simp at h
  | .ref l :: as, i, j, k, nd, h1, h2 => by
    unfold refsOf at nd
    rw [List.nodup_cons] at nd
    cases i with
    | zero =>
      cases j with
      | zero => rfl
      | succ j =>
        simp at h1 h2
        exact absurd (refs_mem.mpr ⟨j, h1 ▸ h2⟩) nd.1
    | succ i =>
      cases j with
      | zero =>
        simp at h1 h2
        exact absurd (refs_mem.mpr ⟨i, h2 ▸ h1⟩) nd.1
      | succ j => exact congrArg Nat.succ (refs_nd (k := k) nd.2 (by simpa using h1) (by simpa using h2))
  | .val _ :: as, i, j, k, nd, h1, h2 => by
    unfold refsOf at nd
    cases i with
    | zero => simp at h1
    | succ i =>
      cases j with
      | zero => simp at h2
      | succ j => exact congrArg Nat.succ (refs_nd (k := k) nd (by simpa using h1) (by simpa using h2))
  | .tmp _ :: as, i, j, k, nd, h1, h2 => by
    unfold refsOf at nd
    cases i with
    | zero => simp at h1
    | succ i =>
      cases j with
      | zero => simp at h2
      | succ j => exact congrArg Nat.succ (refs_nd (k := k) nd (by simpa using h1) (by simpa using h2))
/-- what is handed over is in order -/
theorem ArReps.args (R0 : R c O r σ H) (h : ArReps c O r σ H pm as vs) (nd : (refsOf as).Nodup) (e : arAll r as = some ds) : ArgsOk c.K H O pm vs ds := by
  obtain ⟨l1, l2⟩ := h.len
  obtain ⟨l3, at3⟩ := arAll_at e
  refine ⟨l2, l3.trans l1, fun i v d h1 h2 h3 => ?_, fun i m v d h1 hm h2 h3 => ?_, fun i j m m' a h1 hm h2 hm' h3 h4 => ?_⟩
  · obtain ⟨ar, w, g1, g2, g3⟩ := h.at h1
    obtain ⟨d', g4, g5⟩ := at3 i ar g1
    rw [h2] at g2; cases g2
    rw [h3] at g4; cases g4
    cases g3 with
    | val q => cases g5; exact q
    | ref a _ _ => exact absurd rfl a
    | tmp a => exact absurd rfl a
  · obtain ⟨ar, w, g1, g2, g3⟩ := h.at h1
    obtain ⟨d', g4, g5⟩ := at3 i ar g1
    rw [h2] at g2; cases g2
    rw [h3] at g4; cases g4
    cases g3 with
    | val q => exact absurd rfl hm
    | ref _ b c1 =>
      obtain ⟨a, f1, f2, _, f4⟩ := R0.ow _ _ g5 b
      rw [c1] at f1; cases f1
      exact ⟨a, rfl, f2, f4⟩
    | tmp _ _ o q => cases g5; exact ⟨_, rfl, o, q⟩
  · obtain ⟨ar, w, g1, g2, g3⟩ := h.at h1
    obtain ⟨ar', w', k1, k2, k3⟩ := h.at h2
    rw [h3] at g2; cases g2
    rw [h4] at k2; cases k2
    obtain ⟨_, _, g5⟩ := at3 i ar g1
    obtain ⟨_, _, k5⟩ := at3 j ar' k1
    cases g3 with
    | val _ => exact absurd rfl hm
    | ref _ b c1 =>
      cases k3 with
      | val _ => exact absurd rfl hm'
      | ref _ b' c1' =>
        have := R0.sep _ _ a (by rw [show get r _ = _ from g5]; rfl) (by rw [show get r _ = _ from k5]; rfl) b b' c1 c1'
        subst this
        exact refs_nd nd g1 k1
      | tmp _ _ _ _ bare => exact absurd c1 (bare _ (by rw [show get r _ = _ from g5]; rfl) b)
    | tmp _ l0 _ _ bare =>
      cases k3 with
      | val _ => exact absurd rfl hm'
      | ref _ b' c1' => exact absurd c1' (bare _ (by rw [show get r _ = _ from k5]; rfl) b')
      | tmp _ l1 => omega
/-- a thing handed in to be changed: held; the def's own or handed in to it; in no other slot -/
theorem ArReps.inA (R0 : R c O r σ H) (h : ArReps c O r σ H pm as vs) (e : arAll r as = some ds) {a : Addr} (ia : InA pm vs a) :
    O a ∧ (c.I0 a ∨ c.H0 a = none) ∧ ∀ j, (get r j).isSome = true → c.mode j ≠ .fz → σ[j]? = some (some (.ref a)) → j ∈ refsOf as := by
  obtain ⟨i, m, h1, hm, h2⟩ := ia
  obtain ⟨ar, w, g1, g2, g3⟩ := h.at h1
  obtain ⟨_, at3⟩ := arAll_at e
  obtain ⟨d', g4, g5⟩ := at3 i ar g1
  rw [h2] at g2; cases g2
  cases g3 with
  | val q => exact absurd rfl hm
  | @ref _ k _ _ b c1 =>
    obtain ⟨a', f1, f2, f3, f4⟩ := R0.ow _ _ g5 b
    rw [c1] at f1; cases f1
    refine ⟨f2, f3, fun j hj mj ej => ?_⟩
    have := R0.sep j k a hj (by rw [show get r k = _ from g5]; rfl) mj b ej c1
    subst this
    exact refs_mem.mpr ⟨i, g1⟩
  | tmp _ _ o q bare n0 h0 => exact ⟨o, .inr h0, fun j hj mj ej => absurd ej (bare j hj mj)⟩
theorem get_outs : ∀ {as : List Ar} {out : List D} {r0 : Env} {j : Nat}, (get (outs r0 as out) j).isSome = true → (get r0 j).isSome = true ∨ j ∈ refsOf as
  | [], out, r0, j, h => .inl (by cases out <;> exact h)
  | .ref k :: as, [], r0, j, h => .inl h
  | .ref k :: as, d :: ds, r0, j, h => by
    by_cases e : j = k
    · subst e
      exact .inr (by unfold refsOf; exact List.mem_cons_self)
    · have h' : (get ((outs r0 as ds).set k (some d)) j).isSome = true := h
      rw [get_set_ne e] at h'
      rcases get_outs h' with z | z
      · exact .inl z
      · exact .inr (by unfold refsOf; exact List.mem_cons_of_mem _ z)
  | .val _ :: as, [], r0, j, h => .inl h
  | .val _ :: as, d :: ds, r0, j, h => get_outs (as := as) (out := ds) h
  | .tmp _ :: as, [], r0, j, h => .inl h
  | .tmp _ :: as, d :: ds, r0, j, h => get_outs (as := as) (out := ds) h
theorem outs_len : ∀ {as : List Ar} {out : List D} {r0 : Env}, (outs r0 as out).length = r0.length
  | [], out, r0 => by cases out <;> rfl
  | .ref k :: as, [], r0 => rfl
  | .ref k :: as, d :: ds, r0 => by
    show ((outs r0 as ds).set k (some d)).length = _
    rw [List.length_set, outs_len]
  | .val _ :: as, [], r0 => rfl
  | .val _ :: as, d :: ds, r0 => outs_len (as := as) (out := ds)
  | .tmp _ :: as, [], r0 => rfl
  | .tmp _ :: as, d :: ds, r0 => outs_len (as := as) (out := ds)
/-- behind a call -/
theorem R.called (R0 : R c O r σ H) (h : ArReps c O r σ H pm as vs) (nd : (refsOf as).Nodup) (e : arAll r as = some ds) (q : EndOk c.K H O pm vs fr out d v H' O') : R c O' (outs (Mp.wipe r (refsOf as)) as out) σ H' ∧ Step O H O' H' := by
  have st : Step O H O' H' := by
    refine ⟨fun a ha => ?_, fun a o ha na => q.keep a o ha fun ia => na (h.inA R0 e ia).1⟩
    have qv := q.val
    split at qv
    · obtain ⟨p, _, hp, h1, _⟩ := qv
      rcases h1 a ha with z | rfl
      · exact .inl z
      · exact .inr hp
    · exact .inl (qv.1 a ha)
  refine ⟨?_, st⟩
  have base : R c O' (Mp.wipe r (refsOf as)) σ H' := by
    have R1 := R0.wipe (refsOf as)
    refine ⟨R1.len, fun i d h m => ?_, fun i d g m => ?_, R1.sep, R1.io, R1.own, fun a o ho ni => ?_, fun a ha => q.sub a (R0.sub a ha), q.alive, R0.i0⟩
    · obtain ⟨v, h1, h2⟩ := R1.fz i d h m
      exact ⟨v, h1, h2.step st⟩
    · obtain ⟨a, h1, h2, h3, h4⟩ := R1.ow i d g m
      refine ⟨a, h1, q.sub a h2, h3, ?_⟩
      obtain ⟨g1, g2⟩ := get_wipe g
      have ni : ¬ InA pm vs a := fun ia => g2 ((h.inA R0 e ia).2.2 i (by rw [g1]; rfl) m h1)
      refine h4.step st ?_
      rcases R0.alive a h2 with ⟨xs, ex⟩ | ⟨xs, ex⟩
      · rw [q.keep a _ ex ni, ex]
      · rw [q.keep a _ ex ni, ex]
    · refine q.keep a o (R0.frame a o ho ni) fun ia => ?_
      rcases (h.inA R0 e ia).2.1 with z | z
      · exact ni z
      · rw [ho] at z; cases z
  obtain ⟨l1, l2⟩ := h.len
  obtain ⟨l3, at3⟩ := arAll_at e
  have ref_at : ∀ {i k : Nat}, as[i]? = some (.ref k) → ∃ d a m, get r k = some d ∧ pm[i]? = some m ∧ m ≠ .fz ∧ vs[i]? = some (.ref a) ∧ c.mode k ≠ .fz ∧ σ[k]? = some (some (.ref a)) ∧ O a ∧ (c.I0 a ∨ c.H0 a = none) := fun {i k} hk => by
    obtain ⟨d, _, g5⟩ := at3 i _ hk
    have hi : i < pm.length := by rw [← l1]; exact (List.getElem?_eq_some_iff.mp hk).1
    obtain ⟨m, hmE⟩ : ∃ m, pm[i]? = some m := ⟨_, List.getElem?_eq_getElem hi⟩
    obtain ⟨ar, w, g1, g2, g3⟩ := h.at hmE
    rw [hk] at g1; cases g1
    cases g3 with
    | ref hm b c1 =>
      obtain ⟨a, f1, f2, f3, _⟩ := R0.ow _ _ g5 b
      rw [c1] at f1; cases f1
      exact ⟨d, a, m, g5, hmE, hm, g2, b, c1, f2, f3⟩
  -- the slots get their things back, from the last one on
  suffices hs : ∀ (n : Nat) (as' : List Ar) (out' : List D), as' = as.drop n → out' = out.drop n → R c O' (outs (Mp.wipe r (refsOf as)) as' out') σ H' from hs 0 as out (by simp) (by simp)
  intro n as' out' ea eo
  induction as' generalizing n out' with
  | nil => cases out' <;> exact base
  | cons a as' ih =>
    cases out' with
    | nil => cases a <;> exact base
    | cons d0 out' =>
      have ha : as[n]? = some a := by
        have := congrArg List.head? ea
        rw [List.head?_drop] at this
        exact this.symm
      have hd : out[n]? = some d0 := by
        have := congrArg List.head? eo
        rw [List.head?_drop] at this
        exact this.symm
      have R1 := ih (n + 1) out' (by have := congrArg List.tail ea; rw [List.tail_drop] at this; exact this) (by have := congrArg List.tail eo; rw [List.tail_drop] at this; exact this)
      cases a with
      | val _ => exact R1
      | tmp _ => exact R1
      | ref k =>
        obtain ⟨dk, a, m, g1, g2, g3, g4, g5, g6, g7, g8⟩ := ref_at ha
        refine R1.hold g5 g6 (by rw [outs_len, wipe_len]; exact get_lt g1) (q.sub a g7) g8 (fun mw => R0.own k a (by rw [g1]; rfl) mw g6) (fun j hj mj ej => ?_) (q.out n m a d0 g2 g3 g4 hd)
        refine R0.sep j k a ?_ (by rw [g1]; rfl) mj g5 ej g6
        rcases get_outs hj with z | z
        · obtain ⟨w, hw⟩ := isSome_get z
          rw [(get_wipe hw).1]; rfl
        · obtain ⟨i2, hi2⟩ := refs_mem.mp (show j ∈ refsOf as from by
            obtain ⟨i3, hi3⟩ := refs_mem.mp z
            refine refs_mem.mpr ⟨n + 1 + i3, ?_⟩
            have : as' = as.drop (n + 1) := by have := congrArg List.tail ea; rw [List.tail_drop] at this; exact this
            rw [this, List.getElem?_drop] at hi3
            exact hi3)
          obtain ⟨d2, _, _, g, _⟩ := ref_at hi2
          rw [g]; rfl
end
end Mp

/-! calls: defs -/
namespace Mp
open PySem PySem.Spec PyProof.Rows L2

/-- a def keeps its promise, wherever no repr is under way -/
structure FnG (P : Program) (w : World) (K : PySem.W.Frag) (mg : Str → Option Value) (base : Heap) (k : Nat) (f : Addr) (fd : FuncData) (ps : List Str) (pm : List Md) (fr : Bool) (fn : List D → Option (D × List D)) : Prop where
  len : pm.length = ps.length
  run : ∀ (A : Around) (outer : List PySem.Env) (s : Shared) (H : Hp) (args : Args) (us : List Value) (vs : List V) (Q : VK), Room k A → A.guards = some [] → Env0 P w K mg base A outer s H → BindsTo s fd args (ps.zip us) → Vals vs us → spM K pm fr fn vs H Q C8.E0 →
    codeAny (model P w) A (.call (.ref f) args) (CR C8.CX0 outer P w H s Q C8.E0) s
section
variable {X : Cx} {c : Cf} {ec : Ec} {k : Nat} {f : Addr} {fd : FuncData} {ps : List Str} {pm : List Md} {fr : Bool} {fn : List D → Option (D × List D)} {x : Str} {p pos : Pos} {e : Expr} {es : List Expr} {t : TA}
theorem run_fnG {pins : List (Addr × Obj)} {σ : L2.St} {H : Hp} {s : Shared} {Q : VK} {us : List Value} {vs : List V} (F : FnG X.prog X.w X.K X.mg X.base k f fd ps pm fr fn) (hr : Room k X.A) (hgd : X.A.guards = some []) (hb : Binds X.K fd ps [])
    (I : Inv X pins σ H s) (r : Vals vs us) (h : spM X.K pm fr fn vs H Q C8.E0) : wpAny (model X.prog X.w) X.A (call (.ref f) us) (EP X pins σ Q) X.xe s := by
  have hl : us.length = ps.length := by
    obtain ⟨O, args, d, out, _, ao, _⟩ := h
    rw [← r.length, ao.lv, F.len]
  have bt := hb s us I.kIn (by rw [List.append_nil]; exact hl)
  rw [List.append_nil] at bt
  refine wpAny_call (codeAny_mono (F.run X.A X.stack s H ⟨us, []⟩ us vs Q hr hgd I.env0 bt r h) fun r s' hq => ?_)
  match r, hq with
  | .ok (.ret u), hq => exact I.after hq
  | .ok .next, hq => exact False.elim hq
  | .ok .brk, hq => exact False.elim hq
  | .ok .cont, hq => exact False.elim hq
  | .error e, hq => exact False.elim hq
theorem pe_callG (F : FnG X.prog X.w X.K X.mg X.base k f fd ps pm fr fn) (hr : Room k X.A) (hgd : X.A.guards = some []) (hg : Gl X x) (hm : X.mg x = some (.ref f)) (hk : PySem.W.keepIn X.K (.ref f) = true) (hb : Binds X.K fd ps [])
    (ha : PA X (e :: es) t) (hdb : (x == ("__debug__" : Str)) = false) (he : starEach (e :: es) X.env = (false, eval e X.env) :: starEach es X.env) (hpl : (backTo pos (starEach es X.env)).any (·.1) = false) :
    PE X (.Call (.Name x p) (e :: es) [] pos) (fun σ H Q => t σ H fun vs H1 => spM X.K pm fr fn vs H1 Q C8.E0) :=
  ⟨fun pins s σ H Q I h => wpAny_Call_Name_kw (ld_glob I hg hm (PySem.W.callWith_K (h₀ := X.base) I.ok.mod.kin hk (thn (ha.run pos pins s σ H _ I h) fun us s1 ⟨vs, H1, I1, r, q⟩ => ⟨I1.kIn, run_fnG F hr hgd hb I1 r q⟩) he hpl) hdb)⟩
def callM (ec : Ec) (f : Nat) (ws : List View) : EM := fun r => (asV ec (ec.fm f) ws r).bind fun p => callWith ec f p.1 p.2
/-- the call, in either form -/
theorem call_rd {g : Nat} {ws : List View} (hK : X.K = c.K) (hmd : ec.md = c.md) (hC : ec.C g = fn) (hfm : ec.fm g = pm) {σ : L2.St} {H : Hp} {Q : VK} {O : Addr → Prop} {r r' : Env} {d : D} (R0 : R c O r σ H) (em : callM ec g ws r = some (d, r'))
    (q : ∀ v H' O' out as vs ds O1 r1 H1, Step O H O1 H1 → R c O1 r1 σ H1 → ArReps c O1 r1 σ H1 pm as vs → arAll r1 as = some ds → (refsOf as).Nodup → EndOk c.K H1 O1 pm vs fr out d v H' O' → r' = outs (Mp.wipe r1 (refsOf as)) as out → Q v H') :
    tAr c pm (asV ec pm ws) σ H fun vs H1 => spM X.K pm fr fn vs H1 Q C8.E0 := by
  unfold callM at em
  rw [hfm] at em
  obtain ⟨⟨as, r1⟩, e1, em⟩ := Option.bind_eq_some_iff.mp em
  unfold callWith at em
  simp only at em
  split at em
  · rename_i nd
    obtain ⟨ds, e2, em⟩ := Option.bind_eq_some_iff.mp em
    obtain ⟨⟨d', out⟩, e3, em⟩ := Option.bind_eq_some_iff.mp em
    simp only at em
    split at em
    · cases em
      rw [hC] at e3
      refine ⟨O, r, as, r1, R0, e1, fun vs H1 O1 s1 R1 ar => ?_⟩
      rw [hK]
      exact ⟨O1, ds, _, out, R1.alive, ar.args R1 nd e2, e3, fun v H' O' eo => q v H' O' out as vs ds O1 r1 H1 s1 R1 ar e2 nd eo rfl⟩
    · cases em
  · cases em
section
variable {w : View} {ws : List View} {g : Nat} (hK : X.K = c.K) (hmd : ec.md = c.md) (hC : ec.C g = fn) (hfm : ec.fm g = pm) (F : FnG X.prog X.w X.K X.mg X.base k f fd ps pm fr fn) (hr : Room k X.A) (hgd : X.A.guards = some []) (hg : Gl X x)
  (hm : X.mg x = some (.ref f)) (hk : PySem.W.keepIn X.K (.ref f) = true) (hb : Binds X.K fd ps []) (hdb : (x == ("__debug__" : Str)) = false) (h : SVs X c ec (e :: es) (w :: ws))
include hK hmd hC hfm F hr hgd hg hm hk hb hdb h
theorem callPD (hfr : fr = false) : PE X (.Call (.Name x p) (e :: es) [] pos) (tD c (callM ec g (w :: ws))) := by
  have st := h.stars
  refine PE.imp (pe_callG F hr hgd hg hm hk hb (h.par hmd pm) hdb (st e List.mem_cons_self _ _) (noStars fun e' he => st e' (List.mem_cons_of_mem _ he))) fun σ H Q ⟨O, r, d, r', R0, em, q⟩ => ?_
  refine call_rd hK hmd hC hfm R0 em fun v H' O' out as vs ds O1 r1 H1 s1 R1 ar e2 nd eo er => ?_
  subst er
  obtain ⟨R2, s2⟩ := R1.called ar nd e2 eo
  have qv := eo.val
  rw [hfr] at qv
  exact q v H' O' (s1.trans s2) R2 qv.2
theorem callPF (hfr : fr = true) : PE X (.Call (.Name x p) (e :: es) [] pos) (tF c (callM ec g (w :: ws))) := by
  have st := h.stars
  refine PE.imp (pe_callG F hr hgd hg hm hk hb (h.par hmd pm) hdb (st e List.mem_cons_self _ _) (noStars fun e' he => st e' (List.mem_cons_of_mem _ he))) fun σ H Q ⟨O, r, d, r', R0, em, q⟩ => ?_
  refine call_rd hK hmd hC hfm R0 em fun v H' O' out as vs ds O1 r1 H1 s1 R1 ar e2 nd eo er => ?_
  subst er
  obtain ⟨R2, s2⟩ := R1.called ar nd e2 eo
  have qv := eo.val
  rw [hfr] at qv
  obtain ⟨p, rfl, hp, _, op, oc⟩ := qv
  obtain ⟨n0, h0⟩ := R1.fresh hp
  refine q p H' O' (s1.trans s2) R2 op oc (fun j hj mj ej => ?_) n0 h0
  obtain ⟨dj, gj⟩ : ∃ d, get r1 j = some d := by
    rcases get_outs hj with z | z
    · obtain ⟨w, hw⟩ := isSome_get z
      exact ⟨w, (get_wipe hw).1⟩
    · obtain ⟨i, hi⟩ := refs_mem.mp z
      obtain ⟨d, _, hd⟩ := (arAll_at e2).2 i _ hi
      exact ⟨d, hd⟩
  obtain ⟨a, f1, f2, _⟩ := R1.ow j dj gj mj
  rw [ej] at f1
  cases f1
  exact R1.new hp f2
end
end
theorem pe_callG0 {X : Cx} {k : Nat} {f : Addr} {fd : FuncData} {ps : List Str} {pm : List Md} {fr : Bool} {fn : List D → Option (D × List D)} {x : Str} {p pos : Pos} (F : FnG X.prog X.w X.K X.mg X.base k f fd ps pm fr fn) (hr : Room k X.A) (hgd : X.A.guards = some []) (hg : Gl X x) (hm : X.mg x = some (.ref f)) (hk : PySem.W.keepIn X.K (.ref f) = true) (hb : Binds X.K fd ps [])
    (hdb : (x == ("__debug__" : Str)) = false) : PE X (.Call (.Name x p) [] [] pos) (fun σ H Q => spM X.K pm fr fn [] H Q C8.E0) :=
  ⟨fun pins s σ H Q I h => wpAny_Call_Name_kw (ld_glob I hg hm (PySem.W.callWith_K0 I.kIn hk (run_fnG (us := []) F hr hgd hb I .nil h)) hdb)⟩
theorem tAr_nil {c : Cf} {ec : Ec} {pm : List Md} {σ : L2.St} {H : Hp} {K : List V → Hp → Prop} (h : tAr c pm (asV ec pm []) σ H K) : K [] H := by
  obtain ⟨O, r, as, r1, R0, e1, q⟩ := h
  cases pm with
  | nil =>
    unfold asV at e1
    cases e1
    exact q [] H O Step.refl R0 .nil
  | cons m ms =>
    cases m <;> (unfold asV at e1; cases e1)
section
variable {X : Cx} {c : Cf} {ec : Ec} {k : Nat} {f : Addr} {fd : FuncData} {ps : List Str} {pm : List Md} {fr : Bool} {fn : List D → Option (D × List D)} {x : Str} {p pos : Pos}
variable {g : Nat} (hK : X.K = c.K) (hmd : ec.md = c.md) (hC : ec.C g = fn) (hfm : ec.fm g = pm) (F : FnG X.prog X.w X.K X.mg X.base k f fd ps pm fr fn) (hr : Room k X.A) (hgd : X.A.guards = some []) (hg : Gl X x)
  (hm : X.mg x = some (.ref f)) (hk : PySem.W.keepIn X.K (.ref f) = true) (hb : Binds X.K fd ps []) (hdb : (x == ("__debug__" : Str)) = false)
include hK hmd hC hfm F hr hgd hg hm hk hb hdb
theorem callPD0 (hfr : fr = false) : PE X (.Call (.Name x p) [] [] pos) (tD c (callM ec g [])) := by
  refine PE.imp (pe_callG0 F hr hgd hg hm hk hb hdb) fun σ H Q ⟨O, r, d, r', R0, em, q⟩ => tAr_nil (ec := ec) (c := c) (pm := pm) (σ := σ) (K := fun vs H1 => spM X.K pm fr fn vs H1 Q C8.E0) ?_
  refine call_rd hK hmd hC hfm R0 em fun v H' O' out as vs ds O1 r1 H1 s1 R1 ar e2 nd eo er => ?_
  subst er
  obtain ⟨R2, s2⟩ := R1.called ar nd e2 eo
  have qv := eo.val
  rw [hfr] at qv
  exact q v H' O' (s1.trans s2) R2 qv.2
theorem callPF0 (hfr : fr = true) : PE X (.Call (.Name x p) [] [] pos) (tF c (callM ec g [])) := by
  refine PE.imp (pe_callG0 F hr hgd hg hm hk hb hdb) fun σ H Q ⟨O, r, d, r', R0, em, q⟩ => tAr_nil (ec := ec) (c := c) (pm := pm) (σ := σ) (K := fun vs H1 => spM X.K pm fr fn vs H1 Q C8.E0) ?_
  refine call_rd hK hmd hC hfm R0 em fun v H' O' out as vs ds O1 r1 H1 s1 R1 ar e2 nd eo er => ?_
  subst er
  obtain ⟨R2, s2⟩ := R1.called ar nd e2 eo
  have qv := eo.val
  rw [hfr] at qv
  obtain ⟨p, rfl, hp, _, op, oc⟩ := qv
  obtain ⟨n0, h0⟩ := R1.fresh hp
  refine q p H' O' (s1.trans s2) R2 op oc (fun j hj mj ej => ?_) n0 h0
  obtain ⟨dj, gj⟩ : ∃ d, get r1 j = some d := by
    rcases get_outs hj with z | z
    · obtain ⟨w, hw⟩ := isSome_get z
      exact ⟨w, (get_wipe hw).1⟩
    · obtain ⟨i, hi⟩ := refs_mem.mp z
      obtain ⟨d, _, hd⟩ := (arAll_at e2).2 i _ hi
      exact ⟨d, hd⟩
  obtain ⟨a, f1, f2, _⟩ := R1.ow j dj gj mj
  rw [ej] at f1
  cases f1
  exact R1.new hp f2
end
end Mp

/-! a def by its body -/
namespace Mp
open PySem PySem.Spec PyProof.Rows L2

theorem FD.run_inv {wf : Nat} {fm : Nat → List Md} {frs : Nat → Bool} {C : Nat → List D → Option (D × List D)} {fd : FD} {ds out : List D} {d : D} (h : fd.run wf fm frs C ds = some (d, out)) :
    ds.length = fd.ps.length ∧ ∃ fl r', evSs ⟨fd.md, C, fm, frs, wf⟩ fd.body (ds.map some ++ List.replicate (fd.md.length - ds.length) none) = some (fl, r') ∧ out = (List.range fd.ps.length).map (fun i => (get r' i).getD .none) ∧
      (∀ (i : Nat) (m : Md), fd.ps[i]? = some m → m ≠ .fz → (get r' i).isSome = true) ∧ ((fl = .nx ∧ d = .none ∧ fd.fr = false) ∨ fl = .rt d) := by
  unfold FD.run at h
  split at h
  · rename_i hl
    refine ⟨hl, ?_⟩
    obtain ⟨⟨fl, r'⟩, e1, h⟩ := Option.bind_eq_some_iff.mp h
    simp only at h
    split at h
    · rename_i hio
      refine ⟨fl, r', e1, ?_⟩
      have hio' : ∀ (i : Nat) (m : Md), fd.ps[i]? = some m → m ≠ .fz → (get r' i).isSome = true := fun i m hi hm => by
        obtain ⟨h1, h2⟩ := List.getElem?_eq_some_iff.mp hi
        have := List.all_eq_true.mp hio i (List.mem_range.mpr h1)
        have e : fd.ps.getD i .fz = m := by simp [List.getD, hi]
        rw [e] at this
        rcases (Bool.or_eq_true _ _).mp this with z | z
        · exact absurd (by simpa using z) hm
        · exact z
      cases fl with
      | nx =>
        simp only at h
        split at h
        · cases h
        · rename_i hf
          cases h
          exact ⟨rfl, hio', .inl ⟨rfl, rfl, by simpa using hf⟩⟩
      | rt d' => cases h; exact ⟨rfl, hio', .inr rfl⟩
      | bk => cases h
      | ct => cases h
    · cases h
  · cases h
/-- the slots at a def's start -/
def env0 (fd : FD) (ds : List D) : Env := ds.map some ++ List.replicate (fd.md.length - ds.length) none
theorem env0_get {fd : FD} {ds : List D} {i : Nat} {d : D} (h : get (env0 fd ds) i = some d) : ds[i]? = some d := by
  unfold get env0 at h
  by_cases hi : i < ds.length
  · rw [List.getElem?_append_left (by simpa using hi), List.getElem?_map] at h
    cases e : ds[i]? with
    | none => rw [e] at h; cases h
    | some d' => rw [e] at h; exact h
  · rw [List.getElem?_append_right (by simpa using hi), List.getElem?_replicate] at h
    split at h
    · rename_i o ho
      split at ho
      · cases ho; cases h
      · cases ho
    · cases h
section
variable {P : Program} {w : World} {K : PySem.W.Frag} {mg : Str → Option Value} {base : Heap} {k : Nat} {f : Addr} {name qual : Str} {params : Arguments} {body : List Stmt} {scope : Scope} {dV kV doc pmv cdv ct oc : Value} {an od : Option Addr} {osl : Array (Option Value)} {N ps : List Str}
/-- a def's own context, with what was handed in -/
def cfOf (K : PySem.W.Frag) (fd : FD) (N : List Str) (H : Hp) (O : Addr → Prop) (vs : List V) : Cf := ⟨K, fd.md, H, InA fd.ps vs, O, start N vs⟩
theorem start_get {vs : List V} {i : Nat} (hi : i < vs.length) : (start N vs)[i]? = (vs[i]?).map some := by
  unfold L2.start
  rw [List.getElem?_append_left (by simpa using hi), List.getElem?_map]
theorem entry {fd : FD} {H : Hp} {O : Addr → Prop} {vs : List V} {ds : List D} (hN : N.length = fd.md.length) (hle : fd.ps.length ≤ fd.md.length) (hmd : fd.md.take fd.ps.length = fd.ps) (how : ∀ m ∈ fd.ps, m ≠ .ow)
    (al : Al O H) (ao : ArgsOk K H O fd.ps vs ds) : R (cfOf K fd N H O vs) O (env0 fd ds) (start N vs) H := by
  have md : ∀ {i m}, fd.ps[i]? = some m → (cfOf K fd N H O vs).mode i = m := fun {i m} hi => by
    obtain ⟨h1, _⟩ := List.getElem?_eq_some_iff.mp hi
    rw [← hmd, List.getElem?_take_of_lt h1] at hi
    show fd.md.getD i .fz = m
    simp [List.getD, hi]
  have at_i : ∀ {i d}, get (env0 fd ds) i = some d → ∃ m v, fd.ps[i]? = some m ∧ vs[i]? = some v ∧ ds[i]? = some d ∧ (cfOf K fd N H O vs).mode i = m ∧ (start N vs)[i]? = some (some v) := fun {i d} h => by
    have hd := env0_get h
    have hi : i < ds.length := (List.getElem?_eq_some_iff.mp hd).1
    have h1 : i < fd.ps.length := by rw [← ao.ld]; exact hi
    have h2 : i < vs.length := by rw [ao.lv]; exact h1
    obtain ⟨m, hm⟩ : ∃ m, fd.ps[i]? = some m := ⟨_, List.getElem?_eq_getElem h1⟩
    obtain ⟨v, hv⟩ : ∃ v, vs[i]? = some v := ⟨_, List.getElem?_eq_getElem h2⟩
    exact ⟨m, v, hm, hv, hd, md hm, by rw [start_get h2, hv]; rfl⟩
  refine ⟨?_, fun i d h hm => ?_, fun i d h hm => ?_, fun i j a h1 h2 m1 m2 e1 e2 => ?_, fun _ _ => rfl, fun i a h hm e => ?_, fun _ _ h _ => h, fun _ h => h, al, fun a ia => ?_⟩
  · unfold env0 L2.start
    simp only [List.length_append, List.length_map, List.length_replicate]
    rw [ao.ld, ao.lv]
    omega
  · obtain ⟨m, v, h1, h2, h3, h4, h5⟩ := at_i h
    rw [hm] at h4
    subst h4
    exact ⟨v, h5, ao.fz i v d h1 h2 h3⟩
  · obtain ⟨m, v, h1, h2, h3, h4, h5⟩ := at_i h
    rw [h4] at hm
    obtain ⟨a, rfl, oa, oc⟩ := ao.io i m v d h1 hm h2 h3
    exact ⟨a, h5, oa, .inl ⟨i, m, h1, hm, h2⟩, oc⟩
  · obtain ⟨_, g1⟩ := isSome_get h1
    obtain ⟨_, g2⟩ := isSome_get h2
    obtain ⟨m, v, k1, k2, k3, k4, k5⟩ := at_i g1
    obtain ⟨m', v', l1, l2, l3, l4, l5⟩ := at_i g2
    rw [k5] at e1
    rw [l5] at e2
    cases e1
    cases e2
    exact ao.nd i j m m' a k1 (by rw [← k4]; exact m1) l1 (by rw [← l4]; exact m2) k2 l2
  · obtain ⟨_, g1⟩ := isSome_get h
    obtain ⟨m, v, k1, k2, k3, k4, k5⟩ := at_i g1
    rw [hm] at k4
    exact absurd k4.symm (how m (List.mem_of_getElem? k1))
  · obtain ⟨i, m, h1, hm, h2⟩ := ia
    have hi : i < ds.length := by rw [ao.ld]; exact (List.getElem?_eq_some_iff.mp h1).1
    obtain ⟨a', e, oa, _⟩ := ao.io i m _ _ h1 hm h2 (List.getElem?_eq_getElem hi)
    cases e
    exact oa
/-- the end, from the def's state -/
theorem leave {fd : FD} {H H' : Hp} {O O' : Addr → Prop} {vs : List V} {ds : List D} {r' : Env} {σ' : L2.St} {v : V} {d : D} (hmd : fd.md.take fd.ps.length = fd.ps) (how : ∀ m ∈ fd.ps, m ≠ .ow) (ao : ArgsOk K H O fd.ps vs ds)
    (R1 : R (cfOf K fd N H O vs) O' r' σ' H') (hio : ∀ (i : Nat) (m : Md), fd.ps[i]? = some m → m ≠ .fz → (get r' i).isSome = true) (rv : RetOk (cfOf K fd N H O vs) fd.fr O' r' σ' H' v d) :
    ∃ O2, EndOk K H O fd.ps vs fd.fr ((List.range fd.ps.length).map fun i => (get r' i).getD .none) d v H' O2 := by
  have md : ∀ {i m}, fd.ps[i]? = some m → (cfOf K fd N H O vs).mode i = m := fun {i m} hi => by
    obtain ⟨h1, _⟩ := List.getElem?_eq_some_iff.mp hi
    rw [← hmd, List.getElem?_take_of_lt h1] at hi
    show fd.md.getD i .fz = m
    simp [List.getD, hi]
  have outs : ∀ (O2 : Addr → Prop), (∀ a, O2 a → O' a) → ∀ (i : Nat) (m : Md) (a : Addr) (d : D), fd.ps[i]? = some m → m ≠ .fz → vs[i]? = some (.ref a) → ((List.range fd.ps.length).map fun i => (get r' i).getD .none)[i]? = some d → OwnC K H' O2 a d := fun O2 hs i m a d hi hm hv hd => by
    have h1 := (List.getElem?_eq_some_iff.mp hi).1
    obtain ⟨d', g⟩ := isSome_get (hio i m hi hm)
    have hd' : d' = d := by
      rw [List.getElem?_map, List.getElem?_range h1] at hd
      simp only [Option.map_some, g, Option.getD_some, Option.some.injEq] at hd
      exact hd
    subst hd'
    have mm := md hi
    have hio : (cfOf K fd N H O vs).mode i = .io := by
      rw [mm]
      have := how m (List.mem_of_getElem? hi)
      cases m with
      | fz => exact absurd rfl hm
      | ow => exact absurd rfl this
      | io => rfl
    obtain ⟨a', e1, _, _, oc⟩ := R1.ow i d' g (by rw [hio]; decide)
    rw [R1.io i hio] at e1
    have e2 : (start N vs)[i]? = some (some (.ref a)) := by rw [start_get (by rw [ao.lv]; exact h1), hv]; rfl
    have e3 : (cfOf K fd N H O vs).s0 = start N vs := rfl
    rw [e3, e2] at e1
    cases e1
    exact oc.step (Step.sub hs) rfl
  unfold RetOk at rv
  cases hf : fd.fr with
  | false =>
    rw [hf] at rv
    refine ⟨O, R1.frame, fun a h => R1.alive a (R1.sub a h), fun _ h => h, by simp, outs O R1.sub, ?_⟩
    exact ⟨fun _ h => h, Rep.step (Step.sub R1.sub) (show Rep K H' O' v d from rv)⟩
  | true =>
    rw [hf] at rv
    obtain ⟨p, rfl, op, oc, n0, h0⟩ := (show ∃ p, v = .ref p ∧ O' p ∧ OwnC K H' O' p d ∧ ¬ O p ∧ H p = none from rv)
    have hs : ∀ a, add O p a → O' a := fun a h => h.elim (R1.sub a) fun z => z ▸ op
    refine ⟨add O p, R1.frame, fun a h => R1.alive a (hs a h), fun _ h => .inl h, by simp, outs _ hs, ?_⟩
    exact ⟨p, rfl, h0, fun _ h => h, .inr rfl, oc.step (Step.sub hs) rfl⟩
/-- THE RULE -/
theorem fnG_of {fd : FD} {ws : List Nat} {wf : Nat} {fm : Nat → List Md} {frs : Nat → Bool} {C : Nat → List D → Option (D × List D)} (lk : K.lookup f = some ⟨oc, od, .func (PySem.W.fnOf name qual params body scope dV kV doc pmv an cdv ct), osl⟩) (hcd : PySem.W.codeIn K cdv qual = true) (S : FnScope N ps scope)
    (hN : N.length = fd.md.length) (hp : fd.ps.length = ps.length) (hmd : fd.md.take fd.ps.length = fd.ps) (how : ∀ m ∈ fd.ps, m ≠ .ow)
    (hbody : ∀ (A : Around) (outer : List PySem.Env) (s : Shared) (H : Hp) (c : Cf), Room k (A.deeper (envOfC qual scope s.heap.objs.size f cdv)) → A.guards = some [] → c.K = K → c.md = fd.md →
      PSs (cxOf C8.CX0 P w K mg base N qual scope f cdv A outer s H C8.E0).nox body (tSm c fd.fr ws (evSs ⟨fd.md, C, fm, frs, wf⟩ fd.body))) :
    FnG P w K mg base (k + 1) f (PySem.W.fnOf name qual params body scope dV kV doc pmv an cdv ct) ps fd.ps fd.fr (fd.run wf fm frs C) := by
  refine ⟨hp, fun A outer s H args us vs Q hr hgd e0 hb r hsp => ?_⟩
  obtain ⟨O, ds, d, out, al, ao, ef, q⟩ := hsp
  obtain ⟨hld, fl, r', e1, eo, hio, hend⟩ := FD.run_inv ef
  have hl : vs.length = ps.length := by rw [ao.lv, hp]
  have hle : fd.ps.length ≤ fd.md.length := by have := congrArg List.length hmd; rw [List.length_take] at this; omega
  have KX : K.In s.heap := e0.mod.kin.keeps fun b o e => (e0.bs b o e).1
  have lim : s.heap.NoLimit := e0.mod.nolimit.keeps fun b o e => (e0.bs b o e).1
  have kinds : ∀ y ∈ ps.zip us, scope.names.lookup y.1 = some .local ∨ (scope.names.lookup y.1 = some .cell ∧ ((cellsFrom (s.heap.objs.size + 1) scope.names []).lookup y.1).isSome = true) := fun ⟨n, u⟩ hy =>
    (S.par n (List.of_mem_zip hy).1).imp id fun z => ⟨z, PySem.W.cellsFrom_some _ _ _ (.inl z)⟩
  refine codeAny_call_function hr.depth (KX _ _ lk) rfl S.co S.gen rfl (PySem.W.codeRec_of KX hcd) (hb _ _ _ _ (wpAny_newFunctionEnv_cells S.kind kinds fun env he s1 x => ?_))
  subst he
  refine ⟨lim.keeps x.toInCall.keep, codeAny_func ?_⟩
  have I : Inv (cxOf C8.CX0 P w K mg base N qual scope f cdv A outer s H C8.E0) [] (start N vs) H s1 := inv_start S hr.hd e0 hl r x
  have hb := hbody A outer s H (cfOf K fd N H O vs) (hr.deeper _) hgd rfl rfl
  have goal : tSm (cfOf K fd N H O vs) fd.fr ws (evSs ⟨fd.md, C, fm, frs, wf⟩ fd.body) { nx := fun _ H' => Q .non H', rt := Q } (start N vs) H := by
    refine ⟨O, env0 fd ds, fl, r', entry hN hle hmd how al ao, e1, ?_⟩
    rcases hend with ⟨rfl, rfl, hf⟩ | rfl
    · intro σ' H' O' s2 R1 k1
      obtain ⟨O2, eok⟩ := leave hmd how ao R1 hio (v := .non) (d := .none) (by unfold RetOk; rw [hf]; exact .non)
      rw [eo] at q
      exact q _ H' O2 eok
    · intro v σ' H' O' s2 R1 rv
      obtain ⟨O2, eok⟩ := leave hmd how ao R1 hio rv
      rw [eo] at q
      exact q _ H' O2 eok
  refine wpAny_mono (hb.nox.run [] s1 (start N vs) H _ I goal) (fun fl s' hs => ?_) fun e s' hs => hs
  match fl, hs with
  | .ret u, ⟨v, σ', H', J, rv, q⟩ => exact ⟨v, H', J.os, J.bare, J.base, J.hok, rv, q⟩
  | .next, ⟨σ', H', J, q⟩ => exact ⟨V.non, H', J.os, J.bare, J.base, J.hok, rfl, q⟩
  | .brk, ⟨_, _, _, q⟩ => exact False.elim q
  | .cont, ⟨_, _, _, q⟩ => exact False.elim q
end
end Mp

/-! len(set(texts)) -/
namespace Mp
open PySem PySem.Spec PyProof.Rows L2

theorem firsts_len_le (xs : List Str) : (firsts xs).length ≤ xs.length := by
  unfold firsts
  suffices h : ∀ (ys acc : List Str), (ys.foldl step1 acc).length ≤ acc.length + ys.length by simpa using h xs []
  intro ys
  induction ys with
  | nil => intro acc; simp
  | cons y ys ih =>
    intro acc
    rw [List.foldl_cons]
    have h1 := ih (step1 acc y)
    have h2 : (step1 acc y).length ≤ acc.length + 1 := by
      unfold step1
      split
      · omega
      · simp
    simp only [List.length_cons]
    omega
theorem firsts_next {xs : List Str} {i : Nat} {x : Str} (h : xs[i]? = some x) : firsts (xs.take (i + 1)) = step1 (firsts (xs.take i)) x := by
  unfold firsts
  rw [List.take_add_one, h]
  simp [List.foldl_append]
theorem step1_any (acc : List Str) (x k : Str) : (step1 acc x).any (· == k) = (acc.any (· == k) || decide (k = x)) := by
  unfold step1
  split
  · rename_i h
    by_cases e : k = x
    · subst e
      rw [h]; rfl
    · rw [decide_eq_false e, Bool.or_false]
  · rw [List.any_append]
    congr 1
    by_cases e : k = x
    · subst e; simp
    · have hb : (x == k) = false := by simpa [beq_iff_eq] using (fun h' : x = k => e h'.symm)
      simp [hb, e]
theorem step1_len (acc : List Str) (x : Str) : (step1 acc x).length = if (acc.any (· == x)) = true then acc.length else acc.length + 1 := by
  unfold step1
  split <;> simp

section
variable {prog : Program} {w : World} {A : Around} {R : Result → Shared → Prop} {I : Addr} {fp wr : List Addr} {G : Array GenState → Array GenState → Prop} {n : Nat} {P : Nat → Value → Prop} {St : Nat → Shared → Prop}
/-- the set at S holds the first i of the texts -/
abbrev SetAt (prog : Program) (w : World) (h : Heap) (S : Addr) (xs : List Str) : Prop := h.SetOf (PySem.strKind prog w) S (fun k => (firsts xs).any (· == k)) (firsts xs).length
theorem SetAt.moved {h h' : Heap} {S : Addr} {xs : List Str} (q : SetAt prog w h S xs) (e : ∀ o, h.get? S = some o → h'.get? S = some o) : SetAt prog w h' S xs := by
  obtain ⟨o, es, ep, t, ho, rest⟩ := q
  exact ⟨o, es, ep, t, e o ho, rest⟩
theorem set_loop (W : WalksS prog w A.in1 I fp wr G n P St) {S : Addr} (hS : S ∉ fp) {xs : List Str} (hn : xs.length = n) (hz : n + 1 < scanBound)
    (hval : ∀ i v, P i v → ∃ t, v = .str (xs.getD i Str.empty) t) :
    ∀ (k i : Nat) (s : Shared) (R : Result → Shared → Prop), n - i = k → i ≤ n → St i s → SetAt prog w s.heap S (xs.take i) →
      (∀ s', Moved (S :: wr) G s s' → SetAt prog w s'.heap S (xs.take n) → R (.ok (.ret .none)) s') →
      codeAny (model prog w) A (.builtin "set.update.loop" ⟨[.ref S, .ref I], []⟩) R s := by
  have nw : S ∉ wr := fun h => hS (W.sub _ h)
  intro k
  induction k with
  | zero =>
    intro i s R hk hi st q fin
    obtain rfl : i = n := by omega
    refine codeAny_builtin PyProof.Rows.F.entry_set_update_loop ?_
    rw [Around.under_plainId PyProof.Rows.F.plain_set_update_loop _]
    show wpAny _ A.in1 (pyNext (.ref I) >>= _) _ _ s
    exact wpAny_bind (W.done s _ _ st fun s' hm => wpAny_pure (fin s' (hm.mono fun b hb => List.mem_cons_of_mem _ hb) (q.moved (hm.heap S · nw))))
  | succ k ih =>
    intro i s R hk hi st q fin
    have lt : i < n := by omega
    refine codeAny_builtin PyProof.Rows.F.entry_set_update_loop ?_
    rw [Around.under_plainId PyProof.Rows.F.plain_set_update_loop _]
    show wpAny _ A.in1 (pyNext (.ref I) >>= _) _ _ s
    refine wpAny_bind (W.item i s _ _ lt st fun v s' hP st' hm => ?_)
    obtain ⟨t, rfl⟩ := hval i v hP
    have gx : xs[i]? = some (xs.getD i Str.empty) := by
      rw [List.getElem?_eq_getElem (by omega : i < xs.length)]
      simp [List.getD, List.getElem?_eq_getElem (by omega : i < xs.length)]
    refine wpAny_bind (wpAny_holding ?_)
    unfold setAdd
    refine wpAny_holding (wpAny_bind ((PySem.strKind prog w).pyHash (k := xs.getD i Str.empty) (strKind_is _ _ _ _) ?_))
    have room : (firsts (xs.take i)).length + 1 < scanBound := by
      have h1 := firsts_len_le (xs.take i)
      have h2 : (xs.take i).length ≤ i := by simp; omega
      omega
    refine wpAny_setAddHashed_of (knd := PySem.strKind prog w) (s := { s' with toks := s'.toks + 1 }) (strKind_is _ _ _ _) rfl (q.moved (hm.heap S · nw)) room fun h' sb q2 => ?_
    have q3 : SetAt prog w h' S (xs.take (i + 1)) := by
      refine SetOf_congr q2 (fun k => ?_) ?_
      · rw [firsts_next gx, step1_any]
      · rw [firsts_next gx, step1_len]
    have oth : ∀ b, b ≠ S → ∀ o, s'.heap.get? b = some o → h'.get? b = some o := fun b nb o e => by rw [sb.2 b nb]; exact e
    refine wpAny_pure ⟨plainId_quiet PyProof.Rows.F.plain_set_update_loop _, ih (i + 1) _ R (by omega) lt (W.frame _ s' _ _ st' (Nat.le_succ _) fun b hb o e => oth b (fun z => hS (by rw [← z]; exact hb)) o e) q3 fun s'' hm'' q'' => ?_⟩
    exact fin s'' (Moved.trans W.gtrans ((hm.mono fun b hb => List.mem_cons_of_mem _ hb).then_heap (Nat.le_succ _) fun b o hb e => oth b (fun z => hb (by rw [z]; exact List.mem_cons_self)) o e) hm'') q''
end

section
variable {prog : Program} {w : World} {A : Around} {E : Value → Shared → Prop} {s : Shared}
/-- the empty set, laid -/
abbrev set0 (led : Bool) : Obj := { cls := .type "set", dict := none, data := .set #[] 0 (.fresh 0 0 led) }
/-- set(a list of texts) -/
theorem set_of_list {l : Addr} {items : Array Value} {xs : List Str} {Q : Value → Shared → Prop} (hh : A.handled = none) (hl : s.heap.IsList l items) (hi : PyProof.Rows.StrsAre items.toList xs) (hn : items.size + 1 < scanBound)
    (h : ∀ (h' : Heap) (tk : Nat), SetAt prog w h' s.heap.objs.size xs → (∀ b o, b < s.heap.objs.size → s.heap.get? b = some o → h'.get? b = some o) → Q (.ref s.heap.objs.size) { s with heap := h', toks := tk }) :
    wpAny (model prog w) A (call (.type "set") [.ref l]) Q E s := by
  have hsz : xs.length = items.size := by rw [← StrsAre.len_eq hi, Array.length_toList]
  obtain ⟨c, tl, hmro⟩ := PySem.F.called_set.mro
  have hmade := PySem.F.called_set.made
  have hsub := PySem.F.called_set.sub
  refine wpAny_call (codeAny_of_tree ?_)
  show wpAny _ _ (callAny (.type "set") _) _ _ _
  refine wpAny_pure ⟨Code.quiet_builtin _ (by decide +kernel), codeAny_builtin PySem.F.entry_type_call ?_⟩
  rw [Around.under_plain (weight_type_call_type "set" [.ref l] []) rfl]
  have h1 := PySem.F.called_set.notType
  have h2 := PySem.F.called_set.canCreate
  have hct := PySem.F.typeCall_set_1 (.ref l)
  repeat (any_goals (first | assumption | wp_step))
  obtain ⟨S, hSe⟩ : ∃ S, s.heap.objs.size = S := ⟨_, rfl⟩
  refine codeAny_mono (code_set_new_1 (.ref l) (E := E) (Q₁ := fun obj s1 => ∃ led : Bool, obj = .ref s.heap.objs.size ∧ s1 = { s with heap := s.heap.push (set0 led) }) fun led => ⟨led, rfl, rfl⟩) fun r s1 hr => ?_
  match r, hr with
  | .ok (.ret obj), ⟨led, e1, e2⟩ =>
    subst e1 e2
    have g0 : (s.heap.push (set0 led)).get? s.heap.objs.size = some (set0 led) := Heap.get?_push_size _ rfl
    have hT : Shared.TypeIs { s with heap := s.heap.push (set0 led) } (.ref s.heap.objs.size) "set" := ⟨_, g0, rfl⟩
    have hli := PySem.F.called_set.init.lookup
    have hbi := PySem.F.called_set.init.bind (.ref s.heap.objs.size)
    repeat (any_goals (first | assumption | wp_step))
    refine codeAny_mono (codeAny_call_builtin (R := wants (fun r s2 => r = .none ∧ ∃ h' tk, s2 = { s with heap := h', toks := tk } ∧ SetAt prog w h' s.heap.objs.size xs ∧
        (∀ b o, b < s.heap.objs.size → s.heap.get? b = some o → h'.get? b = some o)) E) PySem.F.called_set.init.plain PySem.F.entry_set_init (check_set_init_1 hT ?_)) fun r2 s2 hr2 => ?_
    · obtain ⟨⟨ocls, odict, odata, oslots⟩, ho, hc, nl, hd⟩ := hl
      simp only at hc hd
      subst hc hd
      have ho1 : (s.heap.push (set0 led)).get? l = some { cls := .type "list", dict := odict, data := .seq items nl, slots := oslots } := Heap.get?_push_of_some _ ho
      have n1 := PySem.F.sub_list_set
      have n2 := PySem.F.sub_list_frozenset
      have n3 : (Value.type "list" == Value.type "dict") = false := by decide
      have hl1 : (s.heap.push (set0 led)).IsList l items := ⟨_, ho1, rfl, nl, rfl⟩
      unfold Builtin.«set.__init__» noKeywords Builtin.Frozenset.updateFrom
      generalize hPI : pyIter = PI
      wp_walk
      subst hPI
      refine wpAny_pyIter_list hl1 (wpAny_bind (wpAny_runValue ?_))
      have lt : l < s.heap.objs.size := Heap.lt_size ho
      have z1 : (s.heap.push (set0 led)).objs.size = s.heap.objs.size + 1 := Heap.size_push _ _
      have nI : l ≠ (s.heap.push (set0 led)).objs.size := by rw [z1]; exact Nat.ne_of_lt (Nat.lt_succ_of_lt lt)
      have nS : s.heap.objs.size ∉ [(s.heap.push (set0 led)).objs.size, l] := by
        simp only [List.mem_cons, List.not_mem_nil, or_false, not_or]
        exact ⟨by rw [z1]; exact Nat.ne_of_lt (Nat.lt_succ_self _), Nat.ne_of_gt lt⟩
      have h3 : A.in1.in1.in1.handled = none := by simp [hh]
      refine set_loop ((Walks.list h3 _ l nI items).toS) nS hsz hn (fun i v hv => SS.strs_at hi i v (by rw [Array.getElem?_toList]; exact hv)) (items.size - 0) 0 _ _ (by omega) (Nat.zero_le _)
        ⟨⟨_, Heap.get?_push_size _ rfl, rfl, rfl⟩, (hl1.push _)⟩ ?hS0 ?hR
      case hS0 =>
        exact PyProof.Rows.SetOf_congr ((PyProof.Rows.setObjOf_fresh (knd := PySem.strKind prog w) led).setOf (Heap.get?_push_of_some _ g0) (by unfold scanBound; omega)) (fun _ => rfl) rfl
      case hR =>
        intro s' hm q
        rw [List.take_of_length_le (Nat.le_of_eq hsz)] at q
        obtain ⟨h', g', d', tk', os'⟩ := s'
        obtain rfl : g' = s.gens := hm.gens
        obtain rfl : d' = s.drawn := hm.drawn
        obtain rfl : os' = s.os := hm.os
        show wpAny _ _ _ _ _ _
        refine wpAny_pure ?_
        show wpAny _ _ (ret Value.none) _ _ _
        refine wpAny_pure ⟨rfl, h', tk', rfl, q, fun b o hb e => hm.heap b o ?_ (Heap.get?_push_of_some _ (Heap.get?_push_of_some _ e))⟩
        simp only [List.mem_cons, List.not_mem_nil, or_false, not_or]
        exact ⟨Nat.ne_of_lt hb, by rw [z1]; exact Nat.ne_of_lt (Nat.lt_succ_of_lt hb)⟩
    · match r2, hr2 with
      | .ok (.ret v), ⟨e3, h', tk, e4, q, kp⟩ =>
        subst e3 e4
        repeat (any_goals (first | assumption | wp_step))
        exact h _ _ q kp
      | .error _, hr2 => exact hr2
  | .error _, hr => exact hr
end
end Mp

/-! len(set(texts)), by the machine -/
namespace Mp
open PySem PySem.Spec PyProof.Rows L2

section
variable {X : Cx} {c : Cf} {ec : Ec} {O : Addr → Prop} {H : Hp} {pos : Pos}
theorem strs_rep {K : PySem.W.Frag} : ∀ {vs : List V} {ds : List D} {xs : List Str} {us : List Value}, RepA K H O vs ds → strsOf ds = some xs → Vals vs us → StrsAre us xs
  | _, [], _, _, .nil, e, v => by
    cases e
    cases v
    exact .nil
  | _, .str x :: ds, xs, _, .cons r t, e, .cons q v => by
    unfold strsOf at e
    obtain ⟨ys, e1, rfl⟩ := Option.map_eq_some_iff.mp e
    cases r
    obtain ⟨k, rfl⟩ := q
    exact .cons x k (strs_rep t e1 v)
  | _, .none :: _, _, _, .cons _ _, e, _ => by cases e
  | _, .bool _ :: _, _, _, .cons _ _, e, _ => by cases e
  | _, .int _ :: _, _, _, .cons _ _, e, _ => by cases e
  | _, .list _ :: _, _, _, .cons _ _, e, _ => by cases e
  | _, .tuple _ :: _, _, _, .cons _ _, e, _ => by cases e
  | _, .dict _ :: _, _, _, .cons _ _, e, _ => by cases e
theorem strsOf_len : ∀ {ds : List D} {xs : List Str}, strsOf ds = some xs → xs.length = ds.length
  | [], _, e => by cases e; rfl
  | .str x :: ds, xs, e => by
    unfold strsOf at e
    obtain ⟨ys, e1, rfl⟩ := Option.map_eq_some_iff.mp e
    rw [List.length_cons, List.length_cons, strsOf_len e1]
  | .none :: _, _, e => by cases e
  | .bool _ :: _, _, e => by cases e
  | .int _ :: _, _, e => by cases e
  | .list _ :: _, _, e => by cases e
  | .tuple _ :: _, _, e => by cases e
  | .dict _ :: _, _, e => by cases e
def tLenSetS (K : PySem.W.Frag) (ta : TE) : TE := fun σ H Q => ta σ H fun x H1 => ∃ l ds xs O vs, x = .ref l ∧ SqL K H1 l vs ∧ RepA K H1 O vs ds ∧ strsOf ds = some xs ∧ ds.length ≤ 4000 ∧ Q (.int (firsts xs).length) H1
theorem pe_lenSetS {a : Expr} {ta : TE} {p p2 q pos : Pos} (hc : X.calm = true) (hg : Gl X "len") (hm : X.mg "len" = none) (hg2 : Gl X "set") (hm2 : X.mg "set" = none) (ha : PE X a ta) (na : NoStar a) :
    PE X (.Call (.Name "len" p) [.Call (.Name "set" p2) [a] [] q] [] pos) (tLenSetS X.K ta) := by
  refine ⟨fun pins s σ H Q I h => Call_ (ld_blt I hg hm boot_len (PyProof.Rows.callWith_builtin1 (PyProof.Rows.args_cons ?_ rfl) rfl rfl))⟩
  refine Call_ (ld_blt I hg2 hm2 boot_set (PyProof.Rows.callWith_type1 (PyProof.Rows.args_cons (thn (ha.run pins s σ H _ I h) fun v s1 ⟨x, H1, I1, r1, q1⟩ => PyProof.Rows.args_nil ?_) (na _ _)) (na _ _) rfl))
  obtain ⟨l, ds, xs, O, vs, rfl, hq, hr, hs, hz, q1⟩ := q1
  cases r1
  obtain ⟨its, rv, pl, _⟩ := I1.list hq
  have hl : its.toArray.size = ds.length := by rw [List.size_toArray, ← rv.length, hr.length]
  refine set_of_list (I1.ok.hd hc) pl.isList (by simpa using strs_rep hr hs rv) (by rw [hl]; unfold scanBound; omega) fun h' tk hS hk => PyProof.Rows.args_nil ?_
  obtain ⟨o, es, ep, t, ho, hex, hd, _, _, _, hf, hn⟩ := hS
  have I2 : Inv X pins σ H1 { s1 with heap := h', toks := tk } := I1.kept fun b o e => hk b o (Heap.lt_size e) e
  have h1 := firsts_len_le xs
  have h2 := strsOf_len hs
  exact call_len_set ho hex hd hf (by rw [hn]; omega) ⟨.int (firsts xs).length, H1, I2.tok _, ⟨_, by rw [hn]⟩, q1⟩
theorem lenSetPE (hK : X.K = c.K) (hc : X.calm = true) (hg : Gl X "len") (hm : X.mg "len" = none) (hg2 : Gl X "set") (hm2 : X.mg "set" = none) {a : Expr} {w : View} {p p2 q : Pos} (ha : SV X c ec a w) :
    PE X (.Call (.Name "len" p) [.Call (.Name "set" p2) [a] [] q] [] pos) (tD c (primE ec .lenSet [w])) := by
  refine PE.imp (pe_lenSetS hc hg hm hg2 hm2 ha.po ha.st) fun σ H Q ⟨O, r, d, r', R0, em, q⟩ => ?_
  unfold primE osV at em
  obtain ⟨⟨os, r1⟩, e1, em⟩ := Option.bind_eq_some_iff.mp em
  obtain ⟨⟨o1, r2⟩, e2, e1⟩ := Option.bind_eq_some_iff.mp e1
  obtain ⟨⟨os', r3⟩, e3, e1⟩ := Option.map_eq_some_iff.mp e1
  cases e1
  cases e3
  obtain ⟨ds, e4, em⟩ := Option.bind_eq_some_iff.mp em
  obtain ⟨z, e5, em⟩ := Option.map_eq_some_iff.mp em
  cases em
  unfold resAll at e4
  obtain ⟨d1, e6, e4⟩ := Option.bind_eq_some_iff.mp e4
  obtain ⟨d2, e7, e4⟩ := Option.bind_eq_some_iff.mp e4
  cases e4
  cases e7
  refine ⟨O, r, o1, _, R0, e2, fun v H1 O1 s1 R1 p1 => ?_⟩
  have rx := p1.res R1 e6
  cases d1 with
  | list ds =>
    have e5' : ((strsOf ds).bind fun xs => if ds.length ≤ 4000 then some (PyData.int (firsts xs).length) else none) = some d := e5
    obtain ⟨xs, g1, g2⟩ := Option.bind_eq_some_iff.mp e5'
    split at g2
    · rename_i hz
      cases g2
      obtain ⟨l, vs, rfl, rd, ra⟩ := rx.list
      exact ⟨l, ds, xs, O1, vs, rfl, by rw [hK]; exact rd.sq, by rw [hK]; exact ra, g1, hz, q _ H1 O1 s1 R1 (.int _)⟩
    · cases g2
  | _ => cases e5
end
end Mp

/-! the translation of expressions -/
namespace Mp
open PySem PySem.Spec PyProof.Rows L2

/-- a def's names, scope, known defs and constants, the modes of its slots, the slots that its loops forget (by line) -/
structure Tc where
  N : List Str
  sc : Scope
  so : Scope
  df : List (Str × Nat)
  cs : List (Str × D)
  md : List Md
  wp : List (Nat × List Nat)
  fr : Bool
  frs : Nat → Bool
def ixOf (x : Str) : List Str → Option Nat
  | [] => none
  | y :: ys => if y = x then some 0 else (ixOf x ys).map (· + 1)
theorem ixOf_get {x : Str} : ∀ {N : List Str} {i : Nat}, ixOf x N = some i → N[i]? = some x
  | [], _, h => by cases h
  | y :: ys, i, h => by
    unfold ixOf at h
    split at h
    · rename_i e
      cases h
      simp [e]
    · obtain ⟨j, h1, rfl⟩ := Option.map_eq_some_iff.mp h
      simpa using ixOf_get h1
def visK : Option NameKind → Bool
  | some .local => true
  | some .cell => true
  | some .free => true
  | _ => false
def locK : Option NameKind → Bool
  | some .local => true
  | some .cell => true
  | _ => false
def isGl : Option NameKind → Bool
  | some .globalImplicit => true
  | _ => false
theorem vis_of {sc : Scope} {x : Str} (h : visK (sc.names.lookup x) = true) : Vis sc x := by
  unfold Vis
  cases e : sc.names.lookup x with
  | none => rw [e] at h; cases h
  | some k => rw [e] at h; cases k <;> first | exact .inl rfl | exact .inr (.inl rfl) | exact .inr (.inr rfl) | cases h
theorem loc_of {sc : Scope} {x : Str} (h : locK (sc.names.lookup x) = true) : sc.names.lookup x = some .local ∨ sc.names.lookup x = some .cell := by
  cases e : sc.names.lookup x with
  | none => rw [e] at h; cases h
  | some k => rw [e] at h; cases k <;> first | exact .inl rfl | exact .inr rfl | cases h
/-- a block's scope, as it stands within another one -/
def relS (scope outer : Scope) : Scope := relabel scope { (default : PySem.Env) with scope := outer }
theorem relS_eq (scope : Scope) (env : PySem.Env) : relabel scope env = relS scope env.scope := rfl
theorem relS_keep {scope outer : Scope} {x : Str} {k : NameKind} (hk : (k == NameKind.free) = false) (h : scope.names.lookup x = some k) : (relS scope outer).names.lookup x = some k := by
  unfold relS relabel
  show (scope.names.map fun p => if (p.2 == NameKind.free && outer.kind == .function && outer.names.lookup p.1 == some .cell) = true then (p.1, NameKind.cell) else p).lookup x = some k
  generalize scope.names = ns at h ⊢
  induction ns with
  | nil => cases h
  | cons p r ih =>
    obtain ⟨n, kn⟩ := p
    by_cases e : x = n
    · subst e
      rw [List.lookup_cons, beq_self_eq_true] at h
      simp only [Option.some.injEq] at h
      subst h
      rw [List.map_cons]
      simp [hk, List.lookup_cons]
    · have e' : (x == n) = false := by simpa using e
      rw [List.lookup_cons, e'] at h
      rw [List.map_cons]
      have e2 : ∀ q : NameKind, List.lookup x ((n, q) :: (r.map fun p => if (p.2 == NameKind.free && outer.kind == .function && outer.names.lookup p.1 == some .cell) = true then (p.1, NameKind.cell) else p)) = some k := fun q => by
        rw [List.lookup_cons, e']
        exact ih h
      split
      · exact e2 _
      · exact e2 _
def prims : List (Str × Pr) := [("len", .len), ("list", .list), ("tuple", .tuple), ("dict", .dict), ("sum", .sum), ("min", .min), ("max", .max), ("all", .all), ("any", .any), ("abs", .abs), ("int", .int), ("repr", .repr), ("str", .str)]
def isis : List (Str × String) := [("str", "str"), ("tuple", "tuple"), ("list", "list"), ("dict", "dict"), ("int", "int"), ("bool", "bool")]
/-- built-in names in use -/
def blNames : List Str := ["len", "list", "tuple", "dict", "sum", "min", "max", "all", "any", "abs", "int", "repr", "str", "bool", "isinstance", "set", "range", "enumerate", "zip"]
structure Ok (X : Cx) (tc : Tc) (ec : Ec) : Prop where
  N : X.N = tc.N
  nd : X.N.Nodup
  sc : X.env.scope = tc.sc
  calm : X.calm = true
  gd : X.A.guards = some []
  un : X.A.units + 500 < cLine
  md : ec.md = tc.md
  fn : ∀ x, tc.so.names.lookup x = some .local ∨ tc.so.names.lookup x = some .cell → L2.Loc X.env.scope x ∧ (X.fn x = true ∨ X.env.scope.names.lookup x = some .local)
  bl : ∀ b ∈ blNames, X.mg b = none
  cs : ∀ p ∈ tc.cs, ∃ u v, X.mg p.1 = some u ∧ RelV v u ∧ ∀ H O, Rep X.K H O v p.2
  df : ∀ p ∈ tc.df, ∃ k f fd ps, FnG X.prog X.w X.K X.mg X.base k f fd ps (ec.fm p.2) (ec.fr p.2) (ec.C p.2) ∧ Room k X.A ∧ X.mg p.1 = some (.ref f) ∧ PySem.W.keepIn X.K (.ref f) = true ∧ Binds X.K fd ps []
  fr : ec.fr = tc.frs
  kd : X.env.scope.kind = .function
abbrev Tc.blk (tc : Tc) (scope : Scope) : Tc := { tc with sc := relS scope tc.sc, so := scope }
theorem Ok.blk {X : Cx} {tc : Tc} {ec : Ec} (h : Ok X tc ec) (s : Shared) (H : Hp) (scope : Scope) (cl : List (Str × Addr)) (C : Addr) (fp : List Addr) (hk : scope.kind = .function) : Ok (X.blk s H scope (compEnvC scope cl C X.env) fp) (tc.blk scope) ec :=
  ⟨h.N, h.nd, (relS_eq scope X.env).trans (by rw [h.sc]), h.calm, h.gd, h.un, h.md, fun x hx => by
    have e : (X.blk s H scope (compEnvC scope cl C X.env) fp).env.scope = relS scope X.env.scope := rfl
    rw [e]
    rcases hx with z | z
    · have z2 := relS_keep (outer := X.env.scope) (by decide) z
      exact ⟨.inl z2, .inr z2⟩
    · have z2 := relS_keep (outer := X.env.scope) (by decide) z
      exact ⟨.inr z2, .inl (by show (scope.names.lookup x == some .cell) = true; rw [show scope.names.lookup x = some .cell from z]; rfl)⟩, h.bl, h.cs, h.df, h.fr, hk⟩
theorem Ok.gl {X : Cx} {tc : Tc} {ec : Ec} (h : Ok X tc ec) {x : Str} (g : isGl (tc.sc.names.lookup x) = true) : Gl X x := by
  show X.env.scope.names.lookup x = some .globalImplicit
  rw [h.sc]
  cases e : tc.sc.names.lookup x with
  | none => rw [e] at g; cases g
  | some k => rw [e] at g; cases k <;> first | rfl | cases g

/-! ### expressions -/
def dbg (x : Str) : Bool := (x == ("__debug__" : Str)) || (x == ("__classdict__" : Str))
def conD : Const → Option D
  | .none => some .none
  | .bool b => some (.bool b)
  | .int i => some (.int i)
  | .str s => some (.str s)
  | _ => none
def trName (tc : Tc) (x : Str) : Option E :=
  if dbg x = true then none else match ixOf x tc.N with
  | some i => if visK (tc.sc.names.lookup x) = true then some (.var i) else none
  | none => if isGl (tc.sc.names.lookup x) = true then (tc.cs.lookup x).map .con else none
def trL (f : Expr → Option E) : List Expr → Option (List E)
  | [] => some []
  | e :: es => (f e).bind fun a => (trL f es).map fun as => a :: as
def foldB (op : BoolOp) : List E → Option E
  | [] => none
  | [a] => some a
  | a :: as => (foldB op as).map fun b => match op with
    | .And => .and a b
    | .Or => .or a b
def isCmp : CmpOp → Bool
  | .Is => true
  | .IsNot => true
  | _ => false
def trCmp (f : Expr → Option E) (a : E) : List CmpOp → List Expr → Option E
  | [op], [b] => if isCmp op = true then (match b with
      | .Constant kc _ _ => (kV' kc).map fun dv => .cmp op a (.con dv.1)
      | _ => none)
    else if behindInMarks op b = true then none else (f b).map fun b' => .cmp op a b'
  | [op, op'], [b, d] => if isCmp op = true ∨ isCmp op' = true ∨ lastMarks [op, op'] [b, d] = true then none else (f b).bind fun b' => (f d).map fun d' => .chn op op' a b' d'
  | _, _ => none
def trO (f : Expr → Option E) : Option Expr → Option E
  | none => some .abs
  | some e => f e
def notSl : Expr → Bool
  | .Slice .. => false
  | _ => true
def trSub (f : Expr → Option E) (a : E) : Expr → Option E
  | .Slice lo hi none _ => (trO f lo).bind fun l => (trO f hi).map fun h => .slc a l h
  | .Slice none none (some (.UnaryOp .USub (.Constant (.int 1) _ _) _)) _ => some (.rev a)
  | .Slice _ _ (some _) _ => none
  | b => if notSl b = true then (f b).map fun b' => .idx a b' else none
def trTL (f : Expr → Option Tg) : List Expr → Option (List Tg)
  | [] => some []
  | e :: es => (f e).bind fun t => (trTL f es).map fun ts => t :: ts
def trT : Nat → Tc → Expr → Option Tg
  | 0, _, _ => none
  | n + 1, tc, e => match e with
    | .Name x _ => (ixOf x tc.N).bind fun i => if locK (tc.so.names.lookup x) = true then some (.nm i) else none
    | .Tuple es _ _ => (trTL (trT n tc) es).map .tup
    | _ => none
/-- the block's own names with their slots -/
def ownOf (N : List Str) (sc : Scope) : List (Str × Nat) := sc.names.filterMap fun y => if locK (some y.2) = true then (ixOf y.1 N).map fun i => (y.1, i) else none
def fzs (tc : Tc) (vs : List Nat) : Bool := vs.all fun j => tc.md.getD j .fz == .fz
def inB (tc : Tc) (scope : Scope) (own : List (Str × Nat)) : Bool := blkC tc.N tc.sc scope own && fzs tc (own.map (·.2))
def sub (xs ys : List Nat) : Bool := xs.all fun j => ys.contains j
def trComp (f : Tc → Expr → Option E) (tc : Tc) (scope : Scope) (elt : Expr) : List Comprehension → Option E
  | [⟨tg, it, ifs, 0⟩] =>
    let own := ownOf tc.N scope
    let vs := own.map (·.2)
    let tb := tc.blk scope
    if inB tc scope own = true then (trT 9 tb tg).bind fun t => if sub (slotsT t) vs = true then (f tc it).bind fun s => (trL (f tb) ifs).bind fun is => (f tb elt).map fun e => .comp vs t s is e else none else none
  | [⟨tg, it, [], 0⟩, ⟨tg1, it1, [], 0⟩] =>
    let own := ownOf tc.N scope
    let vs := own.map (·.2)
    let tb := tc.blk scope
    if inB tc scope own = true then (trT 9 tb tg).bind fun t => (trT 9 tb tg1).bind fun t1 => if sub (slotsT t) vs = true ∧ sub (slotsT t1) vs = true then (f tc it).bind fun s => (f tb it1).bind fun s1 => (f tb elt).map fun e => .comp2 vs (slotsT t1) t s t1 s1 e else none else none
  | _ => none
def trDComp (f : Tc → Expr → Option E) (tc : Tc) (scope : Scope) (k v : Expr) : List Comprehension → Option E
  | [⟨tg, it, [], 0⟩] =>
    let own := ownOf tc.N scope
    let vs := own.map (·.2)
    let tb := tc.blk scope
    if inB tc scope own = true then (trT 9 tb tg).bind fun t => if sub (slotsT t) vs = true then (f tc it).bind fun s => (f tb k).bind fun a => (f tb v).map fun b => .dcomp vs t s a b else none else none
  | [⟨tg, it, [], 0⟩, ⟨tg1, it1, [], 0⟩] =>
    let own := ownOf tc.N scope
    let vs := own.map (·.2)
    let tb := tc.blk scope
    if inB tc scope own = true then (trT 9 tb tg).bind fun t => (trT 9 tb tg1).bind fun t1 => if sub (slotsT t) vs = true ∧ sub (slotsT t1) vs = true then (f tc it).bind fun s => (f tb it1).bind fun s1 => (f tb k).bind fun a => (f tb v).map fun b => .dcomp2 vs (slotsT t1) t s t1 s1 a b else none else none
  | _ => none
def isSet (tc : Tc) : List Expr → Option Expr
  | [.Call (.Name y _) [a] [] _] => if y = "set" ∧ isGl (tc.sc.names.lookup y) = true then some a else none
  | _ => none
def trIsi (f : Expr → Option E) (tc : Tc) : List Expr → Option E
  | [a, .Name t _] => if isGl (tc.sc.names.lookup t) = true then (isis.lookup t).bind fun ty => (f a).map fun a' => .prim (.isi ty) [a'] else none
  | _ => none
def trFn (f : Expr → Option E) (tc : Tc) (x : Str) (args : List Expr) : Option E :=
  if isGl (tc.sc.names.lookup x) = true ∧ dbg x = false then
    (match tc.df.lookup x with
      | some g => (trL f args).map fun as => .call g as
      | none => if args = [] then none
        else if x = "isinstance" then trIsi f tc args
        else if x = "range" then (match args with
          | [a] => (f a).map fun a' => .rng [a']
          | [a, b] => (f a).bind fun a' => (f b).map fun b' => .rng [a', b']
          | _ => none)
        else if x = "len" ∧ (isSet tc args).isSome = true then (isSet tc args).bind fun a => (f a).map fun a' => .prim .lenSet [a']
        else (prims.lookup x).bind fun p => (trL f args).map fun as => .prim p as)
  else none
def trMe (f : Expr → Option E) (tc : Tc) (o : Expr) (m : Str) (ap cp : Pos) (args : List Expr) : Option E :=
  if (ap.endLine == cp.line) = true then
    if m = "get" then (match o with
      | .Call (.Name y _) (_ :: _) _ _ => (match args with
        | [k, x] => (f o).bind fun o' => (f k).bind fun k' => (f x).map fun x' => .dget o' k' x'
        | _ => none)
      | .Name y _ => (match args with
        | [k, x] => (f o).bind fun o' => (f k).bind fun k' => (f x).map fun x' => .dget o' k' x'
        | _ => none)
      | _ => none)
    else (match o with
      | .Name y _ => if dbg y = false ∧ visK (tc.sc.names.lookup y) = true then (ixOf y tc.N).bind fun i => (match args with
          | [e] => if m = "append" then (f e).map fun e' => .app i e' else if m = "extend" then (f e).map fun e' => .ext i e' else if m = "update" then (f e).map fun e' => .upd i e' else none
          | [] => if m = "pop" then some (.pop i) else none
          | _ => none) else none
      | _ => none)
  else none
def trCall (f : Expr → Option E) (tc : Tc) (fe : Expr) (args : List Expr) (ks : List Keyword) (cp : Pos) : Option E :=
  match ks with
  | [] => (match fe with
    | .Name x _ => trFn f tc x args
    | .Attribute o m ap => trMe f tc o m ap cp args
    | _ => none)
  | _ => none
def trE : Nat → Tc → Expr → Option E
  | 0, _, _ => none
  | n + 1, tc, e => match e with
    | .Constant k _ _ => (conD k).map .con
    | .Name x _ => trName tc x
    | .BinOp a op b _ => (trE n tc a).bind fun a' => (trE n tc b).map fun b' => .bin op a' b'
    | .UnaryOp op a _ => (match op with
      | .USub => (trE n tc a).map .neg
      | .Not => (trE n tc a).map .not
      | _ => none)
    | .BoolOp op es _ => if 2 ≤ es.length then (trL (trE n tc) es).bind (foldB op) else none
    | .Compare a ops bs _ => (trE n tc a).bind fun a' => trCmp (trE n tc) a' ops bs
    | .IfExp t a b _ => (trE n tc t).bind fun t' => (trE n tc a).bind fun a' => (trE n tc b).map fun b' => .ite t' a' b'
    | .Tuple es _ _ => (trL (trE n tc) es).map .tup
    | .List es _ => (trL (trE n tc) es).map .lst
    | .Dict ks vs _ => if ks.all (·.isSome) = true ∧ ks.length = vs.length then (trL (trE n tc) (ks.filterMap id)).bind fun ks' => (trL (trE n tc) vs).map fun vs' => .dic ks' vs' else none
    | .Subscript a b _ => (trE n tc a).bind fun a' => trSub (trE n tc) a' b
    | .ListComp elt gs sc _ => trComp (trE n) tc sc elt gs
    | .DictComp k v gs sc _ => trDComp (trE n) tc sc k v gs
    | .Call fe args ks cp => trCall (trE n tc) tc fe args ks cp
    | _ => none
end Mp

/-! the translation of expressions keeps what they mean -/
namespace Mp
open PySem PySem.Spec PyProof.Rows L2

theorem bs {α β : Type} {o : Option α} {f : α → Option β} {b : β} (h : o.bind f = some b) : ∃ a, o = some a ∧ f a = some b := Option.bind_eq_some_iff.mp h
theorem ms {α β : Type} {o : Option α} {f : α → β} {b : β} (h : o.map f = some b) : ∃ a, o = some a ∧ f a = b := Option.map_eq_some_iff.mp h
section
variable {ec : Ec}
/-- f keeps meanings, under tc -/
abbrev OkE (ec : Ec) (f : Expr → Option E) (tc : Tc) : Prop := ∀ e m, f e = some m → ∀ X c, Ok X tc ec → X.K = c.K → ec.md = c.md → SV X c ec e (ev ec m)
theorem trL_sv {f : Expr → Option E} {tc : Tc} (h : OkE ec f tc) : ∀ es mm, trL f es = some mm → ∀ X c, Ok X tc ec → X.K = c.K → ec.md = c.md → SVs X c ec es (evs ec mm)
  | [], mm, e, X, c, ok, hK, hm => by cases e; exact .nil
  | x :: es, mm, e, X, c, ok, hK, hm => by
    obtain ⟨a, e1, e⟩ := bs e
    obtain ⟨as, e2, rfl⟩ := ms e
    exact .cons (h _ _ e1 X c ok hK hm) (trL_sv h es as e2 X c ok hK hm)
theorem trT_gv : ∀ n (tc : Tc) e t, trT n tc e = some t → ∀ X c, Ok X tc ec → X.K = c.K → ec.md = c.md → GV X c ec e t
  | 0, tc, e, t, h, X, c, ok, hK, hm => by cases h
  | n + 1, tc, e, t, h, X, c, ok, hK, hm => by
    cases e <;> first | (cases h; done) | skip
    case Name x p =>
      obtain ⟨i, e1, h⟩ := bs h
      split at h
      · rename_i hl
        cases h
        obtain ⟨g1, g2⟩ := ok.fn x (loc_of hl)
        exact nmGV hm ok.nd (by rw [ok.N]; exact ixOf_get e1) g1 g2
      · cases h
    case Tuple es k p =>
      obtain ⟨ts, e1, rfl⟩ := ms h
      refine tupGV hK ok.calm ?_
      clear h
      induction es generalizing ts with
      | nil => cases e1; exact .nil
      | cons x es ih =>
        obtain ⟨a, e2, e1⟩ := bs e1
        obtain ⟨as, e3, rfl⟩ := ms e1
        exact .cons (trT_gv n tc _ _ e2 X c ok hK hm) (ih _ e3)
section
variable {X : Cx} {c : Cf} {tc : Tc} {f : Expr → Option E} {e : Expr} {m : E} {pos : Pos}
theorem con_sv (hK : X.K = c.K) {k : Const} {j : Nat} {d : D} (h : conD k = some d) : SV X c ec (.Constant k j pos) (ev ec (.con d)) := by
  have go : ∀ {v : V}, PE X (.Constant k j pos) (tC v) → (∀ H O, Rep c.K H O v d) → SV X c ec (.Constant k j pos) (ev ec (.con d)) := fun {v} hp hr =>
    plainSV hK (PE.imp hp fun σ H Q ⟨O, r, d', r', R0, em, q⟩ => by cases em; exact q v H O .refl R0 (hr H O)) (fun _ => rfl) (fun _ _ => rfl) fun _ _ => rfl
  cases k <;> first | (cases h; done) | skip
  case none => cases h; exact go pe_non fun _ _ => .non
  case bool b => cases h; exact go pe_bl fun _ _ => .bl b
  case int i => cases h; exact go pe_int fun _ _ => .int i
  case str x => cases h; exact go pe_str fun _ _ => .str x
theorem dbg_of {x : Str} (h : dbg x = false) : (x == ("__debug__" : Str)) = false ∧ (x == ("__classdict__" : Str)) = false := by
  unfold dbg at h
  rw [Bool.or_eq_false_iff] at h
  exact h
theorem Ok.var (ok : Ok X tc ec) {x : Str} {i : Nat} (hd : dbg x = false) (hi : ixOf x tc.N = some i) (hv : visK (tc.sc.names.lookup x) = true) : PE X (.Name x pos) (tVar i) ∧ X.N[i]? = some x := by
  have hN : X.N[i]? = some x := by rw [ok.N]; exact ixOf_get hi
  obtain ⟨d1, d2⟩ := dbg_of hd
  exact ⟨pe_var hN (by rw [ok.sc]; exact vis_of hv) d1 d2, hN⟩
theorem lookup_mem {α : Type} {x : Str} {v : α} : ∀ {l : List (Str × α)}, l.lookup x = some v → (x, v) ∈ l
  | [], h => by cases h
  | (y, w) :: l, h => by
    rw [List.lookup_cons] at h
    split at h
    · rename_i e
      cases h
      rw [eq_of_beq e]
      exact List.mem_cons_self
    · exact List.mem_cons_of_mem _ (lookup_mem h)
theorem name_sv (ok : Ok X tc ec) (hK : X.K = c.K) (hm : ec.md = c.md) {x : Str} (h : trName tc x = some m) : SV X c ec (.Name x pos) (ev ec m) := by
  unfold trName at h
  split at h
  · cases h
  · rename_i hd
    have hd : dbg x = false := by simpa using hd
    split at h
    · rename_i i hi
      split at h
      · rename_i hv
        cases h
        obtain ⟨h1, h2⟩ := ok.var (pos := pos) hd hi hv
        exact varSV hK hm h2 h1
      · cases h
    · split at h
      · rename_i hg
        obtain ⟨d, e1, rfl⟩ := ms h
        obtain ⟨u, v, g1, g2, g3⟩ := ok.cs _ (lookup_mem e1)
        refine plainSV hK (PE.imp (pe_glob (v := v) (ok.gl hg) g1 g2 (dbg_of hd).1) fun σ H Q ⟨O, r, d', r', R0, em, q⟩ => ?_) (fun _ => rfl) (fun _ _ => rfl) fun _ _ => rfl
        cases em
        exact q v H O .refl R0 (by rw [← hK]; exact g3 H O)
      · cases h
theorem foldB_bv (hK : X.K = c.K) {op : BoolOp} : ∀ {es : List Expr} {mm : List E} {m : E}, SVs X c ec es (evs ec mm) → foldB op mm = some m → BV X c ec op es (ev ec m)
  | _, [], m, h, e => by cases e
  | [], a :: as, m, h, e => by cases h
  | [x], [a], m, h, e => by
    cases e
    exact BV.one h.cons_inv.1
  | [x], a :: b :: as, m, h, e => by cases h.cons_inv.2
  | x :: y :: es, [a], m, h, e => by cases h.cons_inv.2
  | x :: y :: es, a :: b :: as, m, h, e => by
    obtain ⟨w, e1, rfl⟩ := ms (show (foldB op (b :: as)).map _ = some m from e)
    have ih := foldB_bv hK h.cons_inv.2 e1
    cases op with
    | And => exact BV.and h.cons_inv.1 ih
    | Or => exact BV.or h.cons_inv.1 ih
theorem foldB_sv (hK : X.K = c.K) {op : BoolOp} {es : List Expr} {mm : List E} {m : E} (l : 2 ≤ es.length) (h : SVs X c ec es (evs ec mm)) (e : foldB op mm = some m) : SV X c ec (.BoolOp op es pos) (ev ec m) := by
  have bv := foldB_bv hK h e
  match es, mm, h, e, l with
  | x :: y :: es, [a], h, e, l => cases h.cons_inv.2
  | x :: y :: es, a :: b :: as, h, e, l =>
    obtain ⟨w, e1, rfl⟩ := ms (show (foldB op (b :: as)).map _ = some m from e)
    cases op with
    | And => exact BV.sv hK bv
    | Or => exact BV.sv hK bv
theorem isCmp_of {op : CmpOp} (h : ¬ isCmp op = true) : op ≠ .Is ∧ op ≠ .IsNot := by
  cases op <;> first | exact ⟨by decide, by decide⟩ | exact absurd rfl h
theorem cmp_sv (hf : OkE ec f tc) (ok : Ok X tc ec) (hK : X.K = c.K) (hm : ec.md = c.md) {a : Expr} {a' : E} (ha : SV X c ec a (ev ec a')) {ops : List CmpOp} {bs' : List Expr} (h : trCmp f a' ops bs' = some m) : SV X c ec (.Compare a ops bs' pos) (ev ec m) := by
  have un := ok.un
  unfold trCmp at h
  split at h
  · rename_i op b
    split at h
    · rename_i hi
      split at h
      · rename_i kc j p2
        obtain ⟨dv, e1, rfl⟩ := ms h
        cases op <;> first | (cases hi; done) | skip
        · exact isKSV hK ha e1 false
        · exact isKSV hK ha e1 true
      · cases h
    · rename_i hi
      split at h
      · cases h
      · rename_i hb
        obtain ⟨b', e1, rfl⟩ := ms h
        exact cmpSV hK (by omega) ha (hf _ _ e1 X c ok hK hm) (isCmp_of hi) (by simpa using hb)
  · rename_i op op' b d
    split at h
    · cases h
    · rename_i hh
      rw [not_or, not_or] at hh
      obtain ⟨b', e1, h⟩ := bs h
      obtain ⟨d', e2, rfl⟩ := ms h
      exact chnSV hK (by omega) ha (hf _ _ e1 X c ok hK hm) (hf _ _ e2 X c ok hK hm) (isCmp_of hh.1) (isCmp_of hh.2.1) (by simpa using hh.2.2)
  · cases h
theorem o_pv (hf : OkE ec f tc) (ok : Ok X tc ec) (hK : X.K = c.K) (hm : ec.md = c.md) {oe : Option Expr} (h : trO f oe = some m) : PV X c ec oe (ev ec m) := by
  cases oe with
  | none => cases h; exact .non fun _ => rfl
  | some x => exact .som (hf _ _ h X c ok hK hm)
theorem sub_sv (hf : OkE ec f tc) (ok : Ok X tc ec) (hK : X.K = c.K) (hm : ec.md = c.md) {a b : Expr} {a' : E} (ha : SV X c ec a (ev ec a')) (h : trSub f a' b = some m) : SV X c ec (.Subscript a b pos) (ev ec m) := by
  have un := ok.un
  unfold trSub at h
  split at h
  · obtain ⟨l, e1, h⟩ := bs h
    obtain ⟨u, e2, rfl⟩ := ms h
    exact plainSV hK (slcPE hK ha (o_pv hf ok hK hm e1) (o_pv hf ok hK hm e2)) (fun _ => rfl) (fun _ _ => rfl) fun _ _ => rfl
  · cases h
    exact plainSV hK (revPE hK ha) (fun _ => rfl) (fun _ _ => rfl) fun _ _ => rfl
  · cases h
  · split at h
    · rename_i hn
      obtain ⟨b', e1, rfl⟩ := ms h
      refine plainSV hK (idxPE hK (by omega) ha (hf _ _ e1 X c ok hK hm) ?_) (fun _ => rfl) (fun _ _ => rfl) fun _ _ => rfl
      intro o i
      cases b <;> first | rfl | cases hn
    · cases h
end
end
end Mp

/-! the translation of expressions keeps what they mean: blocks, calls -/
namespace Mp
open PySem PySem.Spec PyProof.Rows L2

section
variable {ec : Ec} {X : Cx} {c : Cf} {tc : Tc} {f : Expr → Option E} {e : Expr} {m : E} {pos : Pos}
theorem pt_ite {t a b : Expr} {tt ta tb : TT} (ht : PT X t tt) (ha : PT X a ta) (hb : PT X b tb) : PT X (.IfExp t a b pos) (fun σ H Q => tt σ H fun k H1 => if k = true then ta σ H1 Q else tb σ H1 Q) := by
  refine ⟨fun pins s σ H Q I h => ?_⟩
  have e : PySem.isTrue (.IfExp t a b pos) X.env (eval (.IfExp t a b pos) X.env) = (do
    if ← PySem.isTrue t X.env (eval t X.env) then PySem.isTrue a X.env (eval a X.env) else PySem.isTrue b X.env (eval b X.env)) := by rw [PySem.isTrue]
  rw [e]
  refine wpAny_bind (thn (ht.run pins s σ H _ I h) fun k s1 ⟨H1, I1, q1⟩ => ?_)
  cases k with
  | true => exact ha.run pins s1 σ H1 Q I1 q1
  | false => exact hb.run pins s1 σ H1 Q I1 q1
theorem iteSV (hK : X.K = c.K) {t a b : Expr} {wt wa wb : View} (ht : SV X c ec t wt) (ha : SV X c ec a wa) (hb : SV X c ec b wb) :
    SV X c ec (.IfExp t a b pos) { plainV (iteE wt wa wb) with t := fun r => (wt.t r).bind fun p => if p.1 then wa.t p.2 else wb.t p.2 } := by
  have he := itePE (pos := pos) ht ha hb
  refine ⟨he, po_val he, PT.imp (pt_ite ht.pt ha.pt hb.pt) fun σ H Q ⟨O, r, k, r', R0, em, q⟩ => ?_, pi_val he hK, fun l q => (by cases q), fun _ q => (by cases q), fun _ _ => rfl, rfl, fun _ _ => rfl⟩
  obtain ⟨⟨k1, r1⟩, e1, em⟩ := bs em
  refine ⟨O, r, k1, r1, R0, e1, fun H1 O1 s1 R1 => ?_⟩
  cases k1 with
  | true => exact ⟨O1, r1, k, r', R1, by simpa using em, fun H2 O2 s2 R2 => q H2 O2 (s1.trans s2) R2⟩
  | false => exact ⟨O1, r1, k, r', R1, by simpa using em, fun H2 O2 s2 R2 => q H2 O2 (s1.trans s2) R2⟩
theorem sub_of {xs ys : List Nat} (h : sub xs ys = true) : ∀ j ∈ xs, j ∈ ys := fun j hj => by
  have := List.all_eq_true.mp h j hj
  simpa using this
theorem inB_of (ok : Ok X tc ec) (hm : ec.md = c.md) {scope : Scope} {own : List (Str × Nat)} (h : inB tc scope own = true) : BlkOk X.N X.env.scope scope own ∧ ∀ j ∈ own.map (·.2), c.mode j = .fz := by
  unfold inB at h
  rw [Bool.and_eq_true] at h
  refine ⟨?_, fun j hj => ?_⟩
  · rw [ok.N, ok.sc]
    exact blkOk_by h.1
  · have := List.all_eq_true.mp h.2 j hj
    have e : c.md = tc.md := by rw [← hm, ok.md]
    unfold Cf.mode
    rw [e]
    simpa using this
/-- f keeps meanings, under every scope -/
abbrev OkEA (ec : Ec) (f : Tc → Expr → Option E) : Prop := ∀ tc, OkE ec (f tc) tc
theorem Blk.of (ok : Ok X tc ec) (hK : X.K = c.K) (hm : ec.md = c.md) {scope : Scope} {own : List (Str × Nat)} (bk : BlkOk X.N X.env.scope scope own) {P : Cx → Cf → Prop} (h : ∀ X c, Ok X (tc.blk scope) ec → X.K = c.K → ec.md = c.md → P X c) : Blk X c scope P :=
  fun c' h1 h2 s H C cl fp => h _ c' (ok.blk s H scope cl C fp bk.kind) (by rw [h1]; exact hK) (by rw [h2]; exact hm)
theorem iterSV {i : Env → Option (Mp.Its × Env)} (st : NoStar e) (nf : ∀ env x, foldedSetIterable e env x = pure x) (h : ∀ tg, PI X tg e (tI c i)) : SV X c ec e { plainV noneE with i := i } :=
  ⟨⟨fun pins s σ H Q I ⟨O, r, d, r', R0, em, q⟩ => by cases em⟩, ⟨fun pins s σ H Q I ⟨O, r, d, r', R0, em, q⟩ => by cases em⟩, ⟨fun pins s σ H Q I ⟨O, r, d, r', R0, em, q⟩ => by cases em⟩, h,
    fun l q => (by cases q), fun i q => (by cases q), st, rfl, nf⟩
/-- the comprehensions' rules -/
theorem comp_sv {f : Tc → Expr → Option E} (hf : OkEA ec f) (ok : Ok X tc ec) (hK : X.K = c.K) (hm : ec.md = c.md) {scope : Scope} {elt : Expr} {gs : List Comprehension} (h : trComp f tc scope elt gs = some m) :
    (∃ own vs tg it ifs t ws wifs welt, gs = [⟨tg, it, ifs, 0⟩] ∧ LcOk X c ec scope own vs tg it ifs elt t ws wifs welt ∧ (ev ec m) = plainV (compE ec vs t ws wifs welt)) ∨
    (∃ own vs vs1 tg it tg1 it1 t ws t1 ws1 welt, gs = [⟨tg, it, [], 0⟩, ⟨tg1, it1, [], 0⟩] ∧ Lc2Ok X c ec scope own vs vs1 tg it tg1 it1 elt t ws t1 ws1 welt ∧ (ev ec m) = plainV (comp2E ec vs vs1 t ws t1 ws1 welt)) := by
  unfold trComp at h
  split at h
  · rename_i tg it ifs
    simp only at h
    split at h
    · rename_i hi
      obtain ⟨t, e1, h⟩ := bs h
      split at h
      · rename_i hs
        obtain ⟨s, e2, h⟩ := bs h
        obtain ⟨is, e3, h⟩ := bs h
        obtain ⟨e', e4, rfl⟩ := ms h
        obtain ⟨b1, b2⟩ := inB_of ok hm hi
        refine .inl ⟨_, _, tg, it, ifs, t, ev ec s, evs ec is, ev ec e', rfl, ⟨ok.calm, ok.nd, b1, rfl, b2, sub_of hs, hf _ _ _ e2 X c ok hK hm, ?_, ?_, ?_⟩, rfl⟩
        · exact Blk.of ok hK hm b1 fun X c ok hK hm => trT_gv _ _ _ _ e1 X c ok hK hm
        · exact Blk.of ok hK hm b1 fun X c ok hK hm => trL_sv (hf _) _ _ e3 X c ok hK hm
        · exact Blk.of ok hK hm b1 fun X c ok hK hm => hf _ _ _ e4 X c ok hK hm
      · cases h
    · cases h
  · rename_i tg it tg1 it1
    simp only at h
    split at h
    · rename_i hi
      obtain ⟨t, e1, h⟩ := bs h
      obtain ⟨t1, e1', h⟩ := bs h
      split at h
      · rename_i hs
        obtain ⟨s, e2, h⟩ := bs h
        obtain ⟨s1, e3, h⟩ := bs h
        obtain ⟨e', e4, rfl⟩ := ms h
        obtain ⟨b1, b2⟩ := inB_of ok hm hi
        refine .inr ⟨_, _, slotsT t1, tg, it, tg1, it1, t, ev ec s, t1, ev ec s1, ev ec e', rfl, ⟨ok.calm, ok.nd, b1, rfl, b2, sub_of hs.2, sub_of hs.1, fun _ h => h, hf _ _ _ e2 X c ok hK hm, ?_, ?_, ?_, ?_⟩, rfl⟩
        · exact Blk.of ok hK hm b1 fun X c ok hK hm => trT_gv _ _ _ _ e1 X c ok hK hm
        · exact Blk.of ok hK hm b1 fun X c ok hK hm => hf _ _ _ e3 X c ok hK hm
        · exact Blk.of ok hK hm b1 fun X c ok hK hm => trT_gv _ _ _ _ e1' X c ok hK hm
        · exact Blk.of ok hK hm b1 fun X c ok hK hm => hf _ _ _ e4 X c ok hK hm
      · cases h
    · cases h
  · cases h
theorem comp_pf {f : Tc → Expr → Option E} (hf : OkEA ec f) (ok : Ok X tc ec) (hK : X.K = c.K) (hm : ec.md = c.md) {scope : Scope} {elt : Expr} {gs : List Comprehension} (h : trComp f tc scope elt gs = some m) :
    PE X (.ListComp elt gs scope pos) (tF c (ev ec m).e) ∧ ∃ e, ev ec m = plainV e := by
  rcases comp_sv hf ok hK hm h with ⟨own, vs, tg, it, ifs, t, ws, wifs, welt, rfl, hl, he⟩ | ⟨own, vs, vs1, tg, it, tg1, it1, t, ws, t1, ws1, welt, rfl, hl, he⟩
  · rw [he]; exact ⟨compPF hl, _, rfl⟩
  · rw [he]; exact ⟨comp2PF hl, _, rfl⟩
theorem dcomp_pf {f : Tc → Expr → Option E} (hf : OkEA ec f) (ok : Ok X tc ec) (hK : X.K = c.K) (hm : ec.md = c.md) {scope : Scope} {k v : Expr} {gs : List Comprehension} (h : trDComp f tc scope k v gs = some m) :
    PE X (.DictComp k v gs scope pos) (tF c (ev ec m).e) ∧ ∃ e, ev ec m = plainV e := by
  unfold trDComp at h
  split at h
  · rename_i tg it
    simp only at h
    split at h
    · rename_i hi
      obtain ⟨t, e1, h⟩ := bs h
      split at h
      · rename_i hs
        obtain ⟨s, e2, h⟩ := bs h
        obtain ⟨a, e3, h⟩ := bs h
        obtain ⟨b, e4, rfl⟩ := ms h
        obtain ⟨b1, b2⟩ := inB_of ok hm hi
        refine ⟨dcompPF ⟨ok.calm, ok.nd, b1, rfl, b2, sub_of hs, hf _ _ _ e2 X c ok hK hm, ?_, ?_, ?_⟩, _, rfl⟩
        · exact Blk.of ok hK hm b1 fun X c ok hK hm => trT_gv _ _ _ _ e1 X c ok hK hm
        · exact Blk.of ok hK hm b1 fun X c ok hK hm => hf _ _ _ e3 X c ok hK hm
        · exact Blk.of ok hK hm b1 fun X c ok hK hm => hf _ _ _ e4 X c ok hK hm
      · cases h
    · cases h
  · rename_i tg it tg1 it1
    simp only at h
    split at h
    · rename_i hi
      obtain ⟨t, e1, h⟩ := bs h
      obtain ⟨t1, e1', h⟩ := bs h
      split at h
      · rename_i hs
        obtain ⟨s, e2, h⟩ := bs h
        obtain ⟨s1, e5, h⟩ := bs h
        obtain ⟨a, e3, h⟩ := bs h
        obtain ⟨b, e4, rfl⟩ := ms h
        obtain ⟨b1, b2⟩ := inB_of ok hm hi
        refine ⟨dcomp2PF ⟨ok.calm, ok.nd, b1, rfl, b2, sub_of hs.2, sub_of hs.1, fun _ h => h, hf _ _ _ e2 X c ok hK hm, ?_, ?_, ?_, ?_, ?_⟩, _, rfl⟩
        · exact Blk.of ok hK hm b1 fun X c ok hK hm => trT_gv _ _ _ _ e1 X c ok hK hm
        · exact Blk.of ok hK hm b1 fun X c ok hK hm => hf _ _ _ e5 X c ok hK hm
        · exact Blk.of ok hK hm b1 fun X c ok hK hm => trT_gv _ _ _ _ e1' X c ok hK hm
        · exact Blk.of ok hK hm b1 fun X c ok hK hm => hf _ _ _ e3 X c ok hK hm
        · exact Blk.of ok hK hm b1 fun X c ok hK hm => hf _ _ _ e4 X c ok hK hm
      · cases h
    · cases h
  · cases h

/-! ### calls -/
theorem prims_of {x : Str} {p : Pr} (h : prims.lookup x = some p) : ∃ pv, prV p = some pv ∧ x = Str.ofString pv.2 ∧ x ∈ blNames := by
  have hm := lookup_mem h
  simp only [prims, List.mem_cons, Prod.mk.injEq, List.not_mem_nil, or_false] at hm
  rcases hm with ⟨rfl, rfl⟩ | ⟨rfl, rfl⟩ | ⟨rfl, rfl⟩ | ⟨rfl, rfl⟩ | ⟨rfl, rfl⟩ | ⟨rfl, rfl⟩ | ⟨rfl, rfl⟩ | ⟨rfl, rfl⟩ | ⟨rfl, rfl⟩ | ⟨rfl, rfl⟩ | ⟨rfl, rfl⟩ | ⟨rfl, rfl⟩ | ⟨rfl, rfl⟩ <;>
    exact ⟨_, rfl, rfl, by simp [blNames]⟩
theorem isis_of {x : Str} {t : String} (h : isis.lookup x = some t) : t ∈ isiTys ∧ x = Str.ofString t ∧ x ∈ blNames := by
  have hm := lookup_mem h
  simp only [isis, List.mem_cons, Prod.mk.injEq, List.not_mem_nil, or_false] at hm
  rcases hm with ⟨rfl, rfl⟩ | ⟨rfl, rfl⟩ | ⟨rfl, rfl⟩ | ⟨rfl, rfl⟩ | ⟨rfl, rfl⟩ | ⟨rfl, rfl⟩ <;> exact ⟨by simp [isiTys], rfl, by simp [blNames]⟩
/-- a call of a def, in the form that its promise has -/
theorem def_call (hf : OkE ec f tc) (ok : Ok X tc ec) (hK : X.K = c.K) (hm : ec.md = c.md) {x : Str} {p0 : Pos} {g : Nat} {args : List Expr} {as : List E} (hd : dbg x = false) (hgl : isGl (tc.sc.names.lookup x) = true) (hx : tc.df.lookup x = some g) (e : trL f args = some as) :
    (ec.fr g = true → PE X (.Call (.Name x p0) args [] pos) (tF c (ev ec (.call g as)).e)) ∧ PE X (.Call (.Name x p0) args [] pos) (tD c (ev ec (.call g as)).e) := by
  obtain ⟨k, fa, fd, ps, F, hr, hmg, hk, hb⟩ := ok.df _ (lookup_mem hx)
  match args, as, e with
  | [], as, e =>
    cases e
    have pf : ec.fr g = true → PE X (.Call (.Name x p0) [] [] pos) (tF c (ev ec (.call g [])).e) := fun hfr => callPF0 hK hm rfl rfl F hr ok.gd (ok.gl hgl) hmg hk hb (dbg_of hd).1 hfr
    refine ⟨pf, ?_⟩
    cases hfr : ec.fr g with
    | true => exact PE.ofF (pf hfr)
    | false => exact callPD0 hK hm rfl rfl F hr ok.gd (ok.gl hgl) hmg hk hb (dbg_of hd).1 hfr
  | a :: args, as, e =>
    obtain ⟨a', e1, e⟩ := bs e
    obtain ⟨as', e2, rfl⟩ := ms e
    have sv : SVs X c ec (a :: args) (ev ec a' :: evs ec as') := .cons (hf _ _ e1 X c ok hK hm) (trL_sv hf _ _ e2 X c ok hK hm)
    have pf : ec.fr g = true → PE X (.Call (.Name x p0) (a :: args) [] pos) (tF c (ev ec (.call g (a' :: as'))).e) := fun hfr => callPF hK hm rfl rfl F hr ok.gd (ok.gl hgl) hmg hk hb (dbg_of hd).1 sv hfr
    refine ⟨pf, ?_⟩
    cases hfr : ec.fr g with
    | true => exact PE.ofF (pf hfr)
    | false => exact callPD hK hm rfl rfl F hr ok.gd (ok.gl hgl) hmg hk hb (dbg_of hd).1 sv hfr
theorem fn_sv (hf : OkE ec f tc) (ok : Ok X tc ec) (hK : X.K = c.K) (hm : ec.md = c.md) {x : Str} {p0 : Pos} {args : List Expr} (h : trFn f tc x args = some m) : SV X c ec (.Call (.Name x p0) args [] pos) (ev ec m) := by
  unfold trFn at h
  split at h
  · rename_i hh
    obtain ⟨hg, hd⟩ := hh
    split at h
    · rename_i g hx
      obtain ⟨as, e1, rfl⟩ := ms h
      exact callSV hK (def_call hf ok hK hm hd hg hx e1).2
    · split at h
      · cases h
      rename_i hne
      split at h
      · rename_i hx
        subst hx
        unfold trIsi at h
        split at h
        · rename_i a t p
          split at h
          · rename_i hgt
            obtain ⟨ty, e1, h⟩ := bs h
            obtain ⟨a', e2, rfl⟩ := ms h
            obtain ⟨h1, rfl, h3⟩ := isis_of e1
            exact callSV hK (isiPE hK h1 (ok.gl hg) (ok.bl _ (by simp [blNames])) (ok.gl hgt) (ok.bl _ h3) (hf _ _ e2 X c ok hK hm))
          · cases h
        · cases h
      · split at h
        · rename_i hx
          subst hx
          have hmn := ok.bl "range" (by simp [blNames])
          split at h
          · rename_i a
            obtain ⟨a', e1, rfl⟩ := ms h
            exact iterSV (fun _ _ => rfl) (fun _ _ => rfl) fun tg => rng1PI (ok.gl hg) hmn (hf _ _ e1 X c ok hK hm)
          · rename_i a b
            obtain ⟨a', e1, h⟩ := bs h
            obtain ⟨b', e2, rfl⟩ := ms h
            exact iterSV (fun _ _ => rfl) (fun _ _ => rfl) fun tg => rng2PI (ok.gl hg) hmn (hf _ _ e1 X c ok hK hm) (hf _ _ e2 X c ok hK hm)
          · cases h
        · split at h
          · rename_i hx
            obtain ⟨rfl, hx⟩ := hx
            obtain ⟨a, e1, h⟩ := bs h
            obtain ⟨a', e2, rfl⟩ := ms h
            unfold isSet at e1
            split at e1
            · rename_i y p1 b p2
              split at e1
              · rename_i hy
                obtain ⟨rfl, hy⟩ := hy
                cases e1
                exact callSV hK (lenSetPE hK ok.calm (ok.gl hg) (ok.bl _ (by simp [blNames])) (ok.gl hy) (ok.bl _ (by simp [blNames])) (hf _ _ e2 X c ok hK hm))
              · cases e1
            · cases e1
          · obtain ⟨p, e1, h⟩ := bs h
            obtain ⟨as, e2, rfl⟩ := ms h
            obtain ⟨pv, h1, rfl, h3⟩ := prims_of e1
            match args, as, e2, hne with
            | a :: args, as, e2, _ =>
              obtain ⟨a', e3, e2⟩ := bs e2
              obtain ⟨as', e4, rfl⟩ := ms e2
              exact callSV hK (primPE hK ok.gd ok.un ok.calm h1 (ok.gl hg) (ok.bl _ h3) (.cons (hf _ _ e3 X c ok hK hm) (trL_sv hf _ _ e4 X c ok hK hm)))
  · cases h
theorem me_sv (hf : OkE ec f tc) (ok : Ok X tc ec) (hK : X.K = c.K) (hm : ec.md = c.md) {o : Expr} {mt : Str} {ap : Pos} {args : List Expr} (h : trMe f tc o mt ap pos args = some m) : SV X c ec (.Call (.Attribute o mt ap) args [] pos) (ev ec m) := by
  have un := ok.un
  unfold trMe at h
  split at h
  · rename_i hl
    split at h
    · rename_i hx
      subst hx
      split at h
      · split at h
        · rename_i y p0 a0 as0 kk pp k x
          obtain ⟨o', e1, h⟩ := bs h
          obtain ⟨k', e2, h⟩ := bs h
          obtain ⟨x', e3, rfl⟩ := ms h
          exact callSV hK (dgetPE (by omega) (hf _ _ e1 X c ok hK hm) (hf _ _ e2 X c ok hK hm) (hf _ _ e3 X c ok hK hm) rfl hl)
        · cases h
      · split at h
        · obtain ⟨o', e1, h⟩ := bs h
          obtain ⟨k', e2, h⟩ := bs h
          obtain ⟨x', e3, rfl⟩ := ms h
          exact callSV hK (dgetPE (by omega) (hf _ _ e1 X c ok hK hm) (hf _ _ e2 X c ok hK hm) (hf _ _ e3 X c ok hK hm) rfl hl)
        · cases h
      · cases h
    · split at h
      · rename_i y p0
        split at h
        · rename_i hh
          obtain ⟨i, e1, h2⟩ := bs h
          obtain ⟨hv, _⟩ := ok.var (pos := p0) hh.1 e1 hh.2
          split at h2
          · split at h2
            · rename_i hx
              subst hx
              obtain ⟨e', e2, rfl⟩ := ms h2
              exact callSV hK (appPE hm hv (hf _ _ e2 X c ok hK hm) hl)
            · split at h2
              · rename_i hx
                subst hx
                obtain ⟨e', e2, rfl⟩ := ms h2
                exact callSV hK (extPE hK hm hv (hf _ _ e2 X c ok hK hm) hl)
              · split at h2
                · rename_i hx
                  subst hx
                  obtain ⟨e', e2, rfl⟩ := ms h2
                  exact callSV hK (updPE hK hm hv (hf _ _ e2 X c ok hK hm) hl)
                · cases h2
          · split at h2
            · rename_i hx
              subst hx
              cases h2
              exact callSV hK (popPE hm hv hl)
            · cases h2
          · cases h2
        · cases h
      · cases h
  · cases h
theorem call_sv (hf : OkE ec f tc) (ok : Ok X tc ec) (hK : X.K = c.K) (hm : ec.md = c.md) {fe : Expr} {args : List Expr} {ks : List Keyword} (h : trCall f tc fe args ks pos = some m) : SV X c ec (.Call fe args ks pos) (ev ec m) := by
  unfold trCall at h
  split at h
  · split at h
    · exact fn_sv hf ok hK hm h
    · exact me_sv hf ok hK hm h
    · cases h
  · cases h
end
section
variable {ec : Ec}
theorem keys_some : ∀ {ks : List (Option Expr)}, ks.all (·.isSome) = true → ks = (ks.filterMap id).map some
  | [], _ => rfl
  | some k :: ks, h => by
    simp only [List.all_cons, Bool.and_eq_true] at h
    rw [List.filterMap_cons_some (f := id) (b := k) rfl, List.map_cons, ← keys_some h.2]
  | none :: ks, h => by simp at h
/-- THE TRANSLATION IS SOUND -/
theorem trE_sv : ∀ n, OkEA ec (trE n)
  | 0, tc, e, m, h, X, c, ok, hK, hm => by cases h
  | n + 1, tc, e, m, h, X, c, ok, hK, hm => by
    have ih : OkEA ec (trE n) := trE_sv n
    cases e <;> first | (cases h; done) | skip
    case Constant k j p =>
      obtain ⟨d, e1, rfl⟩ := ms h
      exact con_sv hK e1
    case Name x p => exact name_sv ok hK hm h
    case BinOp a op b p =>
      obtain ⟨a', e1, h⟩ := bs h
      obtain ⟨b', e2, rfl⟩ := ms h
      exact binSV hK (ih _ _ _ e1 X c ok hK hm) (ih _ _ _ e2 X c ok hK hm)
    case UnaryOp op a p =>
      cases op <;> first | (cases h; done) | skip
      case USub =>
        obtain ⟨a', e1, rfl⟩ := ms h
        exact negSV hK (ih _ _ _ e1 X c ok hK hm)
      case Not =>
        obtain ⟨a', e1, rfl⟩ := ms h
        exact notSV hK (ih _ _ _ e1 X c ok hK hm)
    case BoolOp op es p =>
      have h : (if 2 ≤ es.length then (trL (trE n tc) es).bind (foldB op) else none) = some m := h
      split at h
      · rename_i hl
        obtain ⟨mm, e1, h⟩ := bs h
        exact foldB_sv hK hl (trL_sv (ih _) _ _ e1 X c ok hK hm) h
      · cases h
    case Compare a ops bs' p =>
      obtain ⟨a', e1, h⟩ := bs h
      exact cmp_sv (ih _) ok hK hm (ih _ _ _ e1 X c ok hK hm) h
    case IfExp t a b p =>
      obtain ⟨t', e1, h⟩ := bs h
      obtain ⟨a', e2, h⟩ := bs h
      obtain ⟨b', e3, rfl⟩ := ms h
      exact iteSV hK (ih _ _ _ e1 X c ok hK hm) (ih _ _ _ e2 X c ok hK hm) (ih _ _ _ e3 X c ok hK hm)
    case Tuple es k p =>
      obtain ⟨mm, e1, rfl⟩ := ms h
      exact tupSV hK (trL_sv (ih _) _ _ e1 X c ok hK hm)
    case List es p =>
      obtain ⟨mm, e1, rfl⟩ := ms h
      exact lstSV hK (trL_sv (ih _) _ _ e1 X c ok hK hm)
    case Dict ks vs p =>
      have h : (if ks.all (·.isSome) = true ∧ ks.length = vs.length then (trL (trE n tc) (ks.filterMap id)).bind fun ks' => (trL (trE n tc) vs).map fun vs' => E.dic ks' vs' else none) = some m := h
      split at h
      · rename_i hh
        obtain ⟨k', e1, h⟩ := bs h
        obtain ⟨v', e2, rfl⟩ := ms h
        have hk := keys_some hh.1
        have hl : (ks.filterMap id).length = vs.length := by rw [← hh.2]; conv => rhs; rw [hk, List.length_map]
        rw [hk]
        exact dicSV hK (fun c' k1 k2 => trL_sv (ih _) _ _ e1 X c' ok (by rw [k1]; exact hK) (by rw [k2]; exact hm)) (fun c' k1 k2 => trL_sv (ih _) _ _ e2 X c' ok (by rw [k1]; exact hK) (by rw [k2]; exact hm)) hl
      · cases h
    case Subscript a b p =>
      obtain ⟨a', e1, h⟩ := bs h
      exact sub_sv (ih _) ok hK hm (ih _ _ _ e1 X c ok hK hm) h
    case ListComp elt gs sc p =>
      obtain ⟨h1, e', h2⟩ := comp_pf (pos := p) ih ok hK hm h
      rw [h2] at h1 ⊢
      exact plainSV hK (PE.ofF h1) (fun _ => rfl) (fun _ _ => rfl) fun _ _ => rfl
    case DictComp k v gs sc p =>
      obtain ⟨h1, e', h2⟩ := dcomp_pf (pos := p) ih ok hK hm h
      rw [h2] at h1 ⊢
      exact plainSV hK (PE.ofF h1) (fun _ => rfl) (fun _ _ => rfl) fun _ _ => rfl
    case Call fe args ks p => exact call_sv (ih _) ok hK hm h
end
end Mp

/-! the translation of statements -/
namespace Mp
open PySem PySem.Spec PyProof.Rows L2

def tx (tc : Tc) (e : Expr) : Option E := trE 60 tc e
def freshC (tc : Tc) : E → Bool
  | .lst _ => true
  | .dic _ _ => true
  | .comp .. => true
  | .comp2 .. => true
  | .dcomp .. => true
  | .dcomp2 .. => true
  | .call f _ => tc.frs f
  | .var i => tc.md.getD i .fz == .ow
  | _ => false
def isLoc : Option NameKind → Bool
  | some .local => true
  | _ => false
def swOk (tc : Tc) (x : Str) (px : Pos) : Expr → Bool
  | .ListComp _ _ sc pos => !isLoc (tc.sc.names.lookup x) || (px.line == pos.line && !(sc.names.any fun (n, k) => n == x && (k == .local || k == .cell)))
  | .DictComp .. => !isLoc (tc.sc.names.lookup x)
  | .SetComp .. => false
  | _ => true
def notComp : Expr → Bool
  | .ListComp .. => false
  | .DictComp .. => false
  | .SetComp .. => false
  | _ => true
def isStar : Expr → Bool
  | .Starred .. => true
  | _ => false
def parB (tc : Tc) (x y : Str) (px py : Pos) (a b : Expr) : Bool :=
  isLoc (tc.sc.names.lookup x) && isLoc (tc.sc.names.lookup y) && py.line == px.line && !(x == y) && !isStar a && !isStar b && !([a, b].all (foldedForSure 8)) && !([a, b].all (constantsAlone 8))
def trPar (tc : Tc) : List Expr → List Expr → Option S
  | [.Name x px, .Name y py], [a, b] => if parB tc x y px py a b = true then (ixOf x tc.N).bind fun i => (ixOf y tc.N).bind fun j => (tx tc a).bind fun a' => (tx tc b).map fun b' => .par i j a' b' else none
  | _, _ => none
def notTup : Expr → Bool
  | .Tuple .. => false
  | _ => true
def trAsg (tc : Tc) (tg e : Expr) : Option S :=
  match tg with
  | .Name x px => if swOk tc x px e = true ∧ locK (tc.so.names.lookup x) = true then (ixOf x tc.N).bind fun i => (tx tc e).bind fun e' => (match tc.md.getD i .fz with
      | .fz => some (.set (.nm i) e')
      | .ow => some (.own i e')
      | .io => none) else none
  | .Tuple ts kt pt => (match e with
    | .Tuple vs _ _ => trPar tc ts vs
    | _ => if notTup e = true then (trT 9 tc (.Tuple ts kt pt)).bind fun t => (tx tc e).map fun e' => .set t e' else none)
  | .Subscript (.Name x _) k _ => if dbg x = false ∧ visK (tc.sc.names.lookup x) = true ∧ notSl k = true then (ixOf x tc.N).bind fun i => (tx tc k).bind fun k' => (tx tc e).map fun e' => .put i k' e' else none
  | _ => none
def trSL (f : Stmt → Option S) : List Stmt → Option (List S)
  | [] => some []
  | s :: ss => (f s).bind fun a => (trSL f ss).map fun as => a :: as
def trS : Nat → Tc → Stmt → Option S
  | 0, _, _ => none
  | n + 1, tc, st => match st with
    | .Assign tgs e _ => (match tgs with
      | [tg] => trAsg tc tg e
      | _ => none)
    | .AugAssign tg op e _ => (match tg with
      | .Name x _ => if locK (tc.so.names.lookup x) = true then (ixOf x tc.N).bind fun i => (tx tc e).map fun e' => .aug i op e' else none
      | _ => none)
    | .Expr e _ => if notComp e = true then (tx tc e).map .exp else none
    | .If t a b _ => (tx tc t).bind fun t' => (trSL (trS n tc) a).bind fun a' => (trSL (trS n tc) b).map fun b' => .ite t' a' b'
    | .For tg it body els p => (match els with
      | [] => (trT 9 tc tg).bind fun t => (tx tc it).bind fun i => (trSL (trS n tc) body).map fun b => .for_ ((tc.wp.lookup p.line).getD []) t i b
      | _ => none)
    | .While t body els p => (match els with
      | [] => (tx tc t).bind fun t' => (trSL (trS n tc) body).map fun b => .whl ((tc.wp.lookup p.line).getD []) t' b
      | _ => none)
    | .Return oe _ => (match oe with
      | some e => (tx tc e).bind fun e' => if tc.fr = true ∧ freshC tc e' = false then none else some (.ret e')
      | none => if tc.fr = true then none else some (.ret (.con .none)))
    | .Pass _ => some .pass
    | .Break _ => some .brk
    | .Continue _ => some .cnt
    | .Raise .. => some .nev
    | _ => none

section
variable {ec : Ec} {X : Cx} {c : Cf} {tc : Tc} {e : Expr} {m : E} {pos : Pos}
mutual
theorem assign_fz : ∀ {t : Tg} {d : D} {r r' : Env}, assign ec t d r = some r' → ∀ j ∈ slotsT t, ec.mode j = .fz
  | .nm i, d, r, r', h, j, hj => by
    unfold Mp.assign at h
    split at h
    · rename_i hh
      have : j = i := by simpa [slotsT] using hj
      rw [this]; exact hh.1
    · cases h
  | .tup ts, d, r, r', h, j, hj => by
    obtain ⟨ds, e1, h⟩ := bs (show (seq? d).bind (fun ds => assign.go ec ts ds r) = some r' from h)
    exact assigns_fz h j (by simpa [slotsT] using hj)
theorem assigns_fz : ∀ {ts : List Tg} {ds : List D} {r r' : Env}, assign.go ec ts ds r = some r' → ∀ j ∈ slotsTs ts, ec.mode j = .fz
  | [], _, r, r', h, j, hj => by simp [slotsTs] at hj
  | t :: ts, [], r, r', h, j, hj => by cases h
  | t :: ts, d :: ds, r, r', h, j, hj => by
    obtain ⟨r1, e1, h⟩ := bs (show (assign ec t d r).bind (fun r1 => assign.go ec ts ds r1) = some r' from h)
    have hj : j ∈ slotsT t ++ slotsTs ts := by simpa [slotsTs] using hj
    rcases List.mem_append.mp hj with z | z
    · exact assign_fz e1 j z
    · exact assigns_fz h j z
end
theorem freshC_of (ok : Ok X tc ec) (h : freshC tc m = true) : freshE ec m = true := by
  cases m <;> first | rfl | (cases h; done) | skip
  · unfold freshC at h
    unfold freshE Ec.mode
    rw [ok.md]; exact h
  · unfold freshC at h
    unfold freshE
    rw [ok.fr]; exact h
/-- what is just made, or a slot's own thing -/
theorem fresh_pf (ok : Ok X tc ec) (hK : X.K = c.K) (hm : ec.md = c.md) (h : tx tc e = some m) (hf : freshE ec m = true) : PE X e (tF c (ev ec m).e) := by
  have ih : OkEA ec (trE 59) := trE_sv 59
  have ihf : OkE ec (trE 59 tc) tc := ih tc
  change trE (59 + 1) tc e = some m at h
  revert h
  cases e <;> intro h
  all_goals first | (cases h; done) | skip
  case Constant k j p => obtain ⟨d, e1, rfl⟩ := ms h; cases hf
  case Name x p =>
    change trName tc x = some m at h
    unfold trName at h
    split at h
    · cases h
    · rename_i hd
      have hd : dbg x = false := by simpa using hd
      split at h
      · rename_i i hi
        split at h
        · rename_i hv
          cases h
          obtain ⟨h1, h2⟩ := ok.var (pos := p) hd hi hv
          have ho : c.mode i = .ow := by
            rw [← mode_eq hm]
            unfold freshE at hf
            simpa using hf
          exact varPF hm ho h1
        · cases h
      · split at h
        · obtain ⟨d, e1, rfl⟩ := ms h; cases hf
        · cases h
  case BinOp a op b p =>
    obtain ⟨a', e1, h⟩ := bs h
    obtain ⟨b', e2, rfl⟩ := ms h
    cases hf
  case UnaryOp op a p =>
    cases op <;> first | (cases h; done) | (obtain ⟨a', e1, rfl⟩ := ms h; cases hf)
  case BoolOp op es p =>
    change (if 2 ≤ es.length then (trL (trE 59 tc) es).bind (foldB op) else none) = some m at h
    split at h
    · rename_i hl
      obtain ⟨mm, e1, h⟩ := bs h
      match es, mm, e1, h, hl with
      | a :: b :: es, mm, e1, h, hl =>
        obtain ⟨a', f1, e1⟩ := bs e1
        obtain ⟨as', f2, rfl⟩ := ms e1
        obtain ⟨b', f3, f2⟩ := bs f2
        obtain ⟨bs', f4, rfl⟩ := ms f2
        obtain ⟨w, f5, rfl⟩ := ms (show (foldB op (b' :: bs')).map _ = some m from h)
        cases op <;> cases hf
    · cases h
  case Compare a ops bs' p =>
    obtain ⟨a', e1, h⟩ := bs h
    unfold trCmp at h
    split at h
    · split at h
      · split at h
        · obtain ⟨dv, e2, rfl⟩ := ms h; cases hf
        · cases h
      · split at h
        · cases h
        · obtain ⟨dv, e2, rfl⟩ := ms h; cases hf
    · split at h
      · cases h
      · obtain ⟨b', e2, h⟩ := bs h
        obtain ⟨d', e3, rfl⟩ := ms h
        cases hf
    · cases h
  case IfExp t a b p =>
    obtain ⟨t', e1, h⟩ := bs h
    obtain ⟨a', e2, h⟩ := bs h
    obtain ⟨b', e3, rfl⟩ := ms h
    cases hf
  case Tuple es k p =>
    obtain ⟨mm, e1, rfl⟩ := ms h
    cases hf
  case List es p =>
    obtain ⟨mm, e1, rfl⟩ := ms h
    exact lstPF (trL_sv ihf _ _ e1 X c ok hK hm)
  case Dict ks vs p =>
    change (if ks.all (·.isSome) = true ∧ ks.length = vs.length then (trL (trE 59 tc) (ks.filterMap id)).bind fun ks' => (trL (trE 59 tc) vs).map fun vs' => E.dic ks' vs' else none) = some m at h
    split at h
    · rename_i hh
      obtain ⟨k', e1, h⟩ := bs h
      obtain ⟨v', e2, rfl⟩ := ms h
      have hk := keys_some hh.1
      have hl : (ks.filterMap id).length = vs.length := by rw [← hh.2]; conv => rhs; rw [hk, List.length_map]
      rw [hk]
      exact dicPF (fun c' k1 k2 => trL_sv ihf _ _ e1 X c' ok (by rw [k1]; exact hK) (by rw [k2]; exact hm)) (fun c' k1 k2 => trL_sv ihf _ _ e2 X c' ok (by rw [k1]; exact hK) (by rw [k2]; exact hm)) hl
    · cases h
  case Subscript a b p =>
    obtain ⟨a', e1, h⟩ := bs h
    unfold trSub at h
    split at h
    · obtain ⟨l, e2, h⟩ := bs h
      obtain ⟨u, e3, rfl⟩ := ms h
      cases hf
    · cases h; cases hf
    · cases h
    · split at h
      · obtain ⟨b', e2, rfl⟩ := ms h; cases hf
      · cases h
  case ListComp elt gs sc p => exact (comp_pf (pos := p) ih ok hK hm h).1
  case DictComp k v gs sc p => exact (dcomp_pf (pos := p) ih ok hK hm h).1
  case Call fe args ks p =>
    change trCall (trE 59 tc) tc fe args ks p = some m at h
    unfold trCall at h
    split at h
    · split at h
      · rename_i x p0
        unfold trFn at h
        split at h
        · rename_i hh
          obtain ⟨hg, hd⟩ := hh
          split at h
          · rename_i g hx
            obtain ⟨as, e1, rfl⟩ := ms h
            exact (def_call ihf ok hK hm hd hg hx e1).1 hf
          · split at h
            · cases h
            split at h
            · unfold trIsi at h
              split at h
              · split at h
                · obtain ⟨ty, e1, h⟩ := bs h
                  obtain ⟨a', e2, rfl⟩ := ms h
                  cases hf
                · cases h
              · cases h
            · split at h
              · split at h
                · obtain ⟨a', e1, rfl⟩ := ms h; cases hf
                · obtain ⟨a', e1, h⟩ := bs h
                  obtain ⟨b', e2, rfl⟩ := ms h
                  cases hf
                · cases h
              · split at h
                · obtain ⟨a, e1, h⟩ := bs h
                  obtain ⟨a', e2, rfl⟩ := ms h
                  cases hf
                · obtain ⟨pp, e1, h⟩ := bs h
                  obtain ⟨as, e2, rfl⟩ := ms h
                  cases hf
        · cases h
      · rename_i o mt ap
        unfold trMe at h
        split at h
        · split at h
          · split at h
            · split at h
              · obtain ⟨o', e1, h⟩ := bs h
                obtain ⟨k', e2, h⟩ := bs h
                obtain ⟨x', e3, rfl⟩ := ms h
                cases hf
              · cases h
            · split at h
              · obtain ⟨o', e1, h⟩ := bs h
                obtain ⟨k', e2, h⟩ := bs h
                obtain ⟨x', e3, rfl⟩ := ms h
                cases hf
              · cases h
            · cases h
          · split at h
            · split at h
              · obtain ⟨i, e1, h2⟩ := bs h
                split at h2
                · split at h2
                  · obtain ⟨e', e2, rfl⟩ := ms h2; cases hf
                  · split at h2
                    · obtain ⟨e', e2, rfl⟩ := ms h2; cases hf
                    · split at h2
                      · obtain ⟨e', e2, rfl⟩ := ms h2; cases hf
                      · cases h2
                · split at h2
                  · cases h2; cases hf
                  · cases h2
                · cases h2
              · cases h
            · cases h
        · cases h
      · cases h
    · cases h
end
end Mp

/-! the translation of statements keeps what they mean -/
namespace Mp
open PySem PySem.Spec PyProof.Rows L2

section
variable {ec : Ec} {X : Cx} {c : Cf} {tc : Tc} {e : Expr} {m : E} {pos : Pos}
theorem isLoc_of {o : Option NameKind} (h : isLoc o = true) : o = some .local := by
  cases o with
  | none => cases h
  | some k => cases k <;> first | rfl | cases h
theorem tx_sv (ok : Ok X tc ec) (hK : X.K = c.K) (hm : ec.md = c.md) (h : tx tc e = some m) : SV X c ec e (ev ec m) := trE_sv 60 tc e m h X c ok hK hm
/-- name = value: the rule, from the value's reading as a plain one or as a fresh one -/
theorem name_set (ok : Ok X tc ec) (hK : X.K = c.K) (hm : ec.md = c.md) {x : Str} {px : Pos} {i : Nat} (hi : ixOf x tc.N = some i) (hl : locK (tc.so.names.lookup x) = true) (hs : swOk tc x px e = true) (h : tx tc e = some m) :
    PS X (.Assign [.Name x px] e pos) (tAsg (tD c (ev ec m).e) (gName i)) ∧ (freshE ec m = true → PS X (.Assign [.Name x px] e pos) (tAsg (tF c (ev ec m).e) (gName i))) := by
  have hN : X.N[i]? = some x := by rw [ok.N]; exact ixOf_get hi
  obtain ⟨l1, l2⟩ := ok.fn x (loc_of hl)
  have plain : ∀ {t : TE}, PE X e t → swapsWith e (some (.Name x px)) pos.line X.env = pure false → PS X (.Assign [.Name x px] e pos) (tAsg t (gName i)) := fun he hw => ps_set ok.nd hN l1 he hw l2
  by_cases hc : notComp e = true
  · have hw : swapsWith e (some (.Name x px)) pos.line X.env = pure false := by cases e <;> first | rfl | cases hc
    exact ⟨plain (tx_sv ok hK hm h).pe hw, fun hf => plain (fresh_pf ok hK hm h hf) hw⟩
  · by_cases hloc : isLoc (tc.sc.names.lookup x) = true
    case neg =>
      have hw : swapsWith e (some (.Name x px)) pos.line X.env = pure false := by
        have kx : (X.env.kindOf x == some .local) = false := by
          show (X.env.scope.names.lookup x == some .local) = false
          rw [ok.sc]
          cases z : tc.sc.names.lookup x with
          | none => rfl
          | some k => rw [z] at hloc; cases k <;> first | rfl | exact absurd rfl hloc
        cases e <;> first | (exact absurd rfl hc) | (cases hs; done) | skip
        all_goals
          unfold swapsWith
          simp only [kx, Bool.and_false, Bool.false_and]
      have hf : freshE ec m = true ∧ PE X e (tF c (ev ec m).e) := by
        have ih : OkEA ec (trE 59) := trE_sv 59
        cases e <;> first | (exact absurd rfl hc) | (cases hs; done) | skip
        case ListComp elt gs sc p =>
          have h : trComp (trE 59) tc sc elt gs = some m := h
          refine ⟨?_, (comp_pf (pos := p) ih ok hK hm h).1⟩
          unfold trComp at h
          split at h
          · simp only at h
            split at h
            · obtain ⟨t, e1, h⟩ := bs h
              split at h
              · obtain ⟨s, e2, h⟩ := bs h
                obtain ⟨is, e3, h⟩ := bs h
                obtain ⟨e', e4, rfl⟩ := ms h
                rfl
              · cases h
            · cases h
          · simp only at h
            split at h
            · obtain ⟨t, e1, h⟩ := bs h
              obtain ⟨t1, e1', h⟩ := bs h
              split at h
              · obtain ⟨s, e2, h⟩ := bs h
                obtain ⟨s1, e3, h⟩ := bs h
                obtain ⟨e', e4, rfl⟩ := ms h
                rfl
              · cases h
            · cases h
          · cases h
        case DictComp k v gs sc p =>
          have h : trDComp (trE 59) tc sc k v gs = some m := h
          refine ⟨?_, (dcomp_pf (pos := p) ih ok hK hm h).1⟩
          unfold trDComp at h
          split at h
          · simp only at h
            split at h
            · obtain ⟨t, e1, h⟩ := bs h
              split at h
              · obtain ⟨s, e2, h⟩ := bs h
                obtain ⟨a, e3, h⟩ := bs h
                obtain ⟨b, e4, rfl⟩ := ms h
                rfl
              · cases h
            · cases h
          · simp only at h
            split at h
            · obtain ⟨t, e1, h⟩ := bs h
              obtain ⟨t1, e1', h⟩ := bs h
              split at h
              · obtain ⟨s, e2, h⟩ := bs h
                obtain ⟨s1, e5, h⟩ := bs h
                obtain ⟨a, e3, h⟩ := bs h
                obtain ⟨b, e4, rfl⟩ := ms h
                rfl
              · cases h
            · cases h
          · cases h
      exact ⟨plain (PE.ofF hf.2) hw, fun _ => plain hf.2 hw⟩
    cases e <;> first | (exact absurd rfl hc) | (cases hs; done) | skip
    case DictComp k v gs sc p => unfold swOk at hs; rw [hloc] at hs; cases hs
    case ListComp elt gs sc p =>
      unfold swOk at hs
      rw [hloc] at hs
      simp only [Bool.not_true, Bool.false_or, Bool.and_eq_true, Bool.not_eq_true'] at hs
      obtain ⟨h2, h3⟩ := hs
      have h1 := hloc
      have hxl : X.env.scope.names.lookup x = some .local := by rw [ok.sc]; exact isLoc_of h1
      have ih : OkEA ec (trE 59) := trE_sv 59
      have key : PS X (.Assign [.Name x px] (.ListComp elt gs sc p) pos) (tAsg (tF c (ev ec m).e) (gName i)) := by
        rcases comp_sv ih ok hK hm (show trComp (trE 59) tc sc elt gs = some m from h) with ⟨own, vs, tg, it, ifs, t, ws, wifs, welt, rfl, hl, he⟩ | ⟨own, vs, vs1, tg, it, tg1, it1, t, ws, t1, ws1, welt, rfl, hl, he⟩
        · rw [he]
          refine PS.imp (ps_setLc hl.calm hl.nd hN hxl (sw_true ok.kd hxl h2 h3) (hl.src.pi tg) hl.blk (GV.all hl.tgt) (SVs.all hl.tst) (SV.all hl.elt) (hl.src.nf _)) fun D σ H q => ?_
          have ht := hl.ht
          have hv := hl.hv
          rw [← hl.ev] at q ht hv
          exact comp_rd hv ht q
        · rw [he]
          refine PS.imp (ps_setLc2 hl.calm hl.nd hN hxl (sw_true ok.kd hxl h2 h3) (hl.src.pi tg) hl.blk (by rw [hl.ev]; exact hl.hv1) (GV.all hl.tgt) (SVs.all (c := c) (ec := ec) (ws := []) fun _ _ _ _ _ _ _ _ => .nil) (SV.allI hl.src1) (GV.all hl.tgt1) (SVs.all (c := c) (ec := ec) (ws := []) fun _ _ _ _ _ _ _ _ => .nil) (SV.all hl.elt) (hl.src.nf _)
            (fun env x => (hl.src1 c rfl rfl X.s_0 X.H_0 0 [] []).nf env x)) fun D σ H q => ?_
          have ht := hl.ht
          have hv := hl.hv
          have hv1 := hl.hv1
          rw [← hl.ev] at q ht hv hv1
          exact comp2_rd hv hv1 ht hl.ht1 q
      have hlist : ∀ r d r', (ev ec m).e r = some (d, r') → ∃ ds, d = .list ds := fun r d r' em => by
        rcases comp_sv ih ok hK hm (show trComp (trE 59) tc sc elt gs = some m from h) with ⟨own, vs, tg, it, ifs, t, ws, wifs, welt, rfl, hl, he⟩ | ⟨own, vs, vs1, tg, it, tg1, it1, t, ws, t1, ws1, welt, rfl, hl, he⟩
        · rw [he] at em
          have em : compE ec vs t ws wifs welt r = some (d, r') := em
          unfold compE at em
          obtain ⟨p1, _, em⟩ := bs em
          obtain ⟨p2, _, em⟩ := ms em
          cases em
          exact ⟨_, rfl⟩
        · rw [he] at em
          have em : comp2E ec vs vs1 t ws t1 ws1 welt r = some (d, r') := em
          unfold comp2E at em
          obtain ⟨p1, _, em⟩ := bs em
          obtain ⟨p2, _, em⟩ := ms em
          cases em
          exact ⟨_, rfl⟩
      exact ⟨PS.imp key fun D σ H q => tF_of_tD hlist q, fun _ => key⟩
theorem par_sw {env : PySem.Env} {x y : Str} {px py pt pt2 : Pos} {kt k2 : Nat} {a b : Expr} (hk : env.scope.kind = .function) (hx : env.scope.names.lookup x = some .local) (hy : env.scope.names.lookup y = some .local) (hl : (py.line == px.line) = true) (hn : (x == y) = false)
    (ha : isStar a = false) (hb : isStar b = false) (h1 : ([a, b].all (foldedForSure 8)) = false) (h2 : ([a, b].all (constantsAlone 8)) = false) :
    swappedStores [.Tuple [.Name x px, .Name y py] kt pt] (.Tuple [a, b] k2 pt2) env = pure (some [x, y]) := by
  have kx : env.kindOf x = some .local := hx
  have ky : env.kindOf y = some .local := hy
  have bk : env.blockKind = .function := by unfold Env.blockKind; rw [hk]; rfl
  have st : ([a, b].any fun | .Starred .. => true | _ => false) = false := by
    cases a <;> first | (cases ha; done) | (cases b <;> first | (cases hb; done) | rfl)
  have hn' : (y == x) = false := by
    rw [beq_eq_false_iff_ne] at hn ⊢
    exact fun z => hn z.symm
  have dd : ([x, y] : List Str).eraseDups = [x, y] := by
    simp [List.eraseDups_cons, hn']
  have hl' : py.line = px.line := by simpa using hl
  unfold swappedStores
  simp only [bk, h1, h2]
  simp [kx, ky, hl', Expr.pos, dd, Bind.bind, Pure.pure]
  exact ⟨ha, hb⟩
theorem par_ps (ok : Ok X tc ec) (hK : X.K = c.K) (hm : ec.md = c.md) {fr : Bool} {ts vs : List Expr} {s : S} {kt k2 : Nat} {pt pt2 : Pos} (h : trPar tc ts vs = some s) : PS X (.Assign [.Tuple ts kt pt] (.Tuple vs k2 pt2) pos) (tSm c fr (ownsS s) (evS ec s)) := by
  unfold trPar at h
  split at h
  · rename_i x px y py a b
    split at h
    · rename_i hp
      obtain ⟨i, e1, h⟩ := bs h
      obtain ⟨j, e2, h⟩ := bs h
      obtain ⟨a', e3, h⟩ := bs h
      obtain ⟨b', e4, rfl⟩ := ms h
      unfold parB at hp
      simp only [Bool.and_eq_true, Bool.not_eq_true'] at hp
      obtain ⟨⟨⟨⟨⟨⟨⟨p1, p2⟩, p3⟩, p4⟩, p5⟩, p6⟩, p7⟩, p8⟩ := hp
      have hx : X.env.scope.names.lookup x = some .local := by rw [ok.sc]; exact isLoc_of p1
      have hy : X.env.scope.names.lookup y = some .local := by rw [ok.sc]; exact isLoc_of p2
      exact parPS hm ok.calm ok.nd (by rw [ok.N]; exact ixOf_get e1) (by rw [ok.N]; exact ixOf_get e2) hx hy (tx_sv ok hK hm e3) (tx_sv ok hK hm e4) (par_sw ok.kd hx hy p3 p4 p5 p6 p7 p8)
    · cases h
  · cases h
theorem asg_ps (ok : Ok X tc ec) (hK : X.K = c.K) (hm : ec.md = c.md) {fr : Bool} {tg : Expr} {s : S} (h : trAsg tc tg e = some s) : PS X (.Assign [tg] e pos) (tSm c fr (ownsS s) (evS ec s)) := by
  have un := ok.un
  unfold trAsg at h
  split at h
  · rename_i x px
    split at h
    · rename_i hh
      obtain ⟨i, e1, h⟩ := bs h
      obtain ⟨e', e2, h⟩ := bs h
      obtain ⟨n1, n2⟩ := name_set (pos := pos) ok hK hm e1 hh.2 hh.1 e2
      split at h
      · cases h
        exact setPS hm n1
      · cases h
        by_cases hf : freshE ec e' = true
        · exact ownPS hm (n2 hf)
        · refine PS.imp (nevPS (fr := fr) (c := c) (ws := [])) fun D σ H q => ?_
          obtain ⟨O, r, fl, r', R0, em, q⟩ := q
          simp only [evS] at em
          rw [if_neg (fun z => hf z.2.1)] at em
          cases em
      · cases h
    · cases h
  · rename_i ts kt pt
    split at h
    · exact par_ps ok hK hm h
    · split at h
      · rename_i hn
        obtain ⟨t, e1, h⟩ := bs h
        obtain ⟨e', e2, rfl⟩ := ms h
        refine asgPS hm (tx_sv ok hK hm e2).pe (trT_gv _ _ _ _ e1 X c ok hK hm) ?_ ?_ (fun {d r r'} h j hj => by rw [← mode_eq hm]; exact assign_fz h j hj)
        · cases e <;> first | rfl | cases hn
        · cases e <;> first | rfl | cases hn
      · cases h
  · rename_i x p0 k pk
    split at h
    · rename_i hh
      obtain ⟨i, e1, h⟩ := bs h
      obtain ⟨k', e2, h⟩ := bs h
      obtain ⟨e', e3, rfl⟩ := ms h
      obtain ⟨hv, _⟩ := ok.var (pos := p0) hh.1 e1 hh.2.1
      have hn := hh.2.2
      refine putPS hm (by omega) hv (tx_sv ok hK hm e2) (tx_sv ok hK hm e3) ?_ ?_ ?_ ?_
      · intro v
        cases k <;> first | rfl | cases hn
      · cases e <;> rfl
      · cases e <;> rfl
      · cases k <;> rfl
    · cases h
  · cases h
theorem trSL_ps {f : Stmt → Option S} (ih : ∀ st s, f st = some s → PS X st (tSm c tc.fr (ownsS s) (evS ec s))) : ∀ sts ss, trSL f sts = some ss → PSs X sts (tSm c tc.fr (ownsSs ss) (evSs ec ss))
  | [], ss, h => by cases h; exact nilPSs
  | st :: sts, ss, h => by
    obtain ⟨a, e1, h⟩ := bs h
    obtain ⟨as, e2, rfl⟩ := ms h
    exact consPSs (ih _ _ e1) (trSL_ps ih _ _ e2)
/-- THE TRANSLATION OF STATEMENTS IS SOUND -/
theorem trS_ps (ok : Ok X tc ec) (hK : X.K = c.K) (hm : ec.md = c.md) (hp : PassesOwn (model X.prog X.w) X.A X.env X.xe) : ∀ n st s, trS n tc st = some s → PS X st (tSm c tc.fr (ownsS s) (evS ec s))
  | 0, st, s, h => by cases h
  | n + 1, st, s, h => by
    have ih := trS_ps ok hK hm hp n
    have fz : ∀ {t : Tg} {d : D} {r r' : Env}, assign ec t d r = some r' → ∀ j ∈ slotsT t, c.mode j = .fz := fun {t d r r'} h j hj => by rw [← mode_eq hm]; exact assign_fz h j hj
    cases st <;> first | (cases h; done) | skip
    case Assign tgs e p =>
      match tgs, h with
      | [tg], h => exact asg_ps ok hK hm h
    case AugAssign tg op e p =>
      cases tg <;> first | (cases h; done) | skip
      case Name x p0 =>
        have h : (if locK (tc.so.names.lookup x) = true then (ixOf x tc.N).bind fun i => (tx tc e).map fun e' => S.aug i op e' else none) = some s := h
        split at h
        · rename_i hl
          obtain ⟨i, e1, h⟩ := bs h
          obtain ⟨e', e2, rfl⟩ := ms h
          obtain ⟨l1, l2⟩ := ok.fn x (loc_of hl)
          exact augPS hm ok.nd (by rw [ok.N]; exact ixOf_get e1) l1 l2 (tx_sv ok hK hm e2)
        · cases h
    case Expr e p =>
      have h : (if notComp e = true then (tx tc e).map S.exp else none) = some s := h
      split at h
      · rename_i hn
        obtain ⟨e', e1, rfl⟩ := ms h
        exact expPS (tx_sv ok hK hm e1).pe (by cases e <;> first | rfl | cases hn)
      · cases h
    case If t a b p =>
      obtain ⟨t', e1, h⟩ := bs h
      obtain ⟨a', e2, h⟩ := bs h
      obtain ⟨b', e3, rfl⟩ := ms h
      exact itePS (tx_sv ok hK hm e1) (trSL_ps ih _ _ e2) (trSL_ps ih _ _ e3)
    case For tg it body els p =>
      match els, h with
      | [], h =>
        obtain ⟨t, e1, h⟩ := bs h
        obtain ⟨i, e2, h⟩ := bs h
        obtain ⟨b, e3, rfl⟩ := ms h
        exact forPS ok.calm hp (tx_sv ok hK hm e2) (trT_gv _ _ _ _ e1 X c ok hK hm) (trSL_ps ih _ _ e3) fz
    case While t body els p =>
      match els, h with
      | [], h =>
        obtain ⟨t', e1, h⟩ := bs h
        obtain ⟨b, e2, rfl⟩ := ms h
        exact whPS hp (tx_sv ok hK hm e1) (trSL_ps ih _ _ e2)
    case Return oe p =>
      cases oe with
      | none =>
        have h : (if tc.fr = true then none else some (S.ret (.con .none))) = some s := h
        split at h
        · cases h
        · rename_i hf
          cases h
          exact retNPS (by simpa using hf)
      | some e =>
        obtain ⟨e', e1, h⟩ := bs h
        split at h
        · cases h
        · rename_i hf
          cases h
          cases hfr : tc.fr with
          | false => exact retPS rfl (tx_sv ok hK hm e1).pe
          | true =>
            have hc : freshC tc e' = true := by
              cases z : freshC tc e' with
              | true => rfl
              | false => exact absurd ⟨hfr, z⟩ hf
            exact retPF rfl (fresh_pf ok hK hm e1 (freshC_of ok hc))
    case Pass p => cases h; exact passPS
    case Break p => cases h; exact brkPS
    case Continue p => cases h; exact cntPS
    case Raise a b p => cases h; exact nevPS
end
end Mp

/-! a whole program, and the end of a law -/
namespace Mp
open PySem PySem.Spec PyProof.Rows L2

/-- a def of the text: its name, its statement, the names of its slots (parameters first), its parameters, its form, the slots that its loops forget -/
structure DR where
  name : Str
  st : Stmt
  N : List Str
  ps : List Str
  wp : List (Nat × List Nat)
  fd : FD
def DR.sc (d : DR) : Scope := C8.fnScope d.st
def tcOf (df : List (Str × Nat)) (cs : List (Str × D)) (frs : Nat → Bool) (d : DR) : Tc := ⟨d.N, d.sc, d.sc, df, cs, d.fd.md, d.wp, d.fd.fr, frs⟩
/-- what is seen of a def's text -/
def DR.look (d : DR) : Bool := C8.scC d.N d.ps d.sc && decide (d.N.length = d.fd.md.length) && decide (d.fd.ps.length = d.ps.length) && decide (d.fd.md.take d.fd.ps.length = d.fd.ps) && d.fd.ps.all fun m => decide (m ≠ .ow)
structure DR.Ok (df : List (Str × Nat)) (cs : List (Str × D)) (frs : Nat → Bool) (d : DR) : Prop where
  look : d.look = true
  body : trSL (trS 40 (tcOf df cs frs d)) (C8.fnBody d.st) = some d.fd.body
/-- a def as the top has written it -/
structure DR.At (K : PySem.W.Frag) (mg : Str → Option Value) (d : DR) (f : Addr) (fdat : FuncData) : Prop where
  fn : C8.Fun K d.name d.name d.st f fdat
  mgf : mg d.name = some (.ref f)
  kp : PySem.W.keepIn K (.ref f) = true
  bind : Binds K fdat d.ps []
theorem room_un {k : Nat} {A : Around} (r : Room (k + 20) A) : A.units + 500 < cLine := by have := r.un; omega
/-- every def keeps its promise, n calls deep -/
theorem prog_ok {P : Program} {w : World} {K : PySem.W.Frag} {mg : Str → Option Value} {base : Heap} {ds : List DR} {df : List (Str × Nat)} {cs : List (Str × D)} {frs : Nat → Bool} {wf : Nat}
    (hfr : ∀ g, frs g = ((ds[g]?).map fun d => d.fd.fr).getD false) (hok : ∀ p ∈ df, ∀ d, ds[p.2]? = some d → d.Ok df cs frs) (hdf : ∀ p ∈ df, ∃ d, ds[p.2]? = some d ∧ d.name = p.1)
    (hbl : ∀ b ∈ blNames, mg b = none) (hcs : ∀ p ∈ cs, ∃ u v, mg p.1 = some u ∧ RelV v u ∧ ∀ H O, Rep K H O v p.2) (hat : ∀ p ∈ df, ∀ d, ds[p.2]? = some d → ∃ f fdat, d.At K mg f fdat) :
    ∀ (n : Nat) (g : Nat) (x : Str), (x, g) ∈ df → ∀ (d : DR), ds[g]? = some d → ∀ f fdat, d.At K mg f fdat → FnG P w K mg base (n + 20) f fdat d.ps d.fd.ps d.fd.fr (run (ds.map DR.fd) wf n g) := by
  intro n
  induction n with
  | zero =>
    intro g x hx d hg f fdat at'
    have hl := (hok _ hx d hg).look
    unfold DR.look at hl
    simp only [Bool.and_eq_true, decide_eq_true_eq] at hl
    refine ⟨hl.1.1.2, fun A outer s H args us vs Q _ _ _ _ _ h => ?_⟩
    obtain ⟨O, as, d', out, _, _, e, _⟩ := h
    cases e
  | succ n ih =>
    intro g x hx d hg f fdat at'
    have hd := hok _ hx d hg
    have hl := hd.look
    unfold DR.look at hl
    simp only [Bool.and_eq_true, decide_eq_true_eq, List.all_eq_true] at hl
    obtain ⟨⟨⟨⟨l1, l2⟩, l3⟩, l4⟩, l5⟩ := hl
    have S : FnScope d.N d.ps d.sc := C8.fnScope_by l1
    obtain ⟨oc, od, dV, kV, doc, pm, an, cdv, ct, osl, rfl, lk, hcd⟩ := at'.fn.ex
    have er : run (ds.map DR.fd) wf (n + 1) g = d.fd.run wf (fun g => ((ds.map DR.fd)[g]?.map FD.ps).getD []) frs (run (ds.map DR.fd) wf n) := by
      funext args
      have e1 : (ds.map DR.fd)[g]? = some d.fd := by rw [List.getElem?_map, hg]; rfl
      have e2 : (fun g => ((ds.map DR.fd)[g]?.map FD.fr).getD false) = frs := by
        funext g'
        rw [hfr, List.getElem?_map, Option.map_map]
        rfl
      show ((ds.map DR.fd)[g]?).bind _ = _
      rw [e1, ← e2]
      rfl
    rw [er]
    refine fnG_of (ws := ownsSs d.fd.body) lk hcd S l2 l3 l4 l5 fun A outer s H c hr hgd hK hm => ?_
    have ok : Ok (cxOf C8.CX0 P w K mg base d.N d.name d.sc f cdv A outer s H C8.E0).nox (tcOf df cs frs d) ⟨d.fd.md, run (ds.map DR.fd) wf n, fun g => ((ds.map DR.fd)[g]?.map FD.ps).getD [], frs, wf⟩ :=
      ⟨rfl, S.nd, rfl, rfl, hgd, room_un hr, rfl, fun x hx => ⟨hx, .inl rfl⟩, hbl, hcs, fun p hp => by
        obtain ⟨d', h1, h2⟩ := hdf p hp
        obtain ⟨f', fdat', a'⟩ := hat p hp d' h1
        have F := ih p.2 p.1 hp d' h1 f' fdat' a'
        have e3 : ((ds.map DR.fd)[p.2]?.map FD.ps).getD [] = d'.fd.ps := by rw [List.getElem?_map, h1]; rfl
        have e4 : frs p.2 = d'.fd.fr := by rw [hfr, h1]; rfl
        refine ⟨n + 20, f', fdat', d'.ps, ?_, hr, by rw [← h2]; exact a'.mgf, a'.kp, a'.bind⟩
        show FnG _ _ _ _ _ (n + 20) f' fdat' d'.ps (((ds.map DR.fd)[p.2]?.map FD.ps).getD []) (frs p.2) (run (ds.map DR.fd) wf n p.2)
        rw [e3, e4]
        exact F, rfl, S.kind⟩
    exact trSL_ps (trS_ps ok hK.symm hm.symm PassesOwn.never 40) _ _ hd.body

/-! ### the end -/
def intsD (ns : List Int) : D := .list (ns.map .int)
theorem repA_ints {K : PySem.W.Frag} {H : Hp} {O : Addr → Prop} : ∀ ns : List Int, RepA K H O (ns.map V.int) (ns.map PyData.int)
  | [] => .nil
  | n :: ns => .cons (.int n) (repA_ints ns)
section
variable {P : Program} {w : World} {K : PySem.W.Frag} {mg mb : Str → Option Value} {s : Shared} {a fa : Addr} {vs : List Value} {ns : List Int}
/-- what a call from outside finds, where at most the script is tracked -/
theorem env_top {H : Hp} (KX : K.In s.heap) (hns : s.heap.Ns mainGlobals mg) (hb : s.heap.Ns builtinsNs mb) (hbb : ∀ x : Str, x ≠ "__name__" → mb x = bootBuiltins x) (hlim : s.heap.NoLimit) (hg : s.gens = #[])
    (ha : s.heap.get? a = some { cls := .type "list", data := .seq vs.toArray }) (hA : ∀ b, H b ≠ none → b = a) (hK : H a ≠ none → K.lookup a = none) (hok : HOk P w H s.heap) : Env0 P w K mg (hidT s.heap H) callerA [] s H := by
  have free : ∀ {b : Addr} {o : Obj}, s.heap.get? b = some o → (b ≠ a ∨ H a = none) → (hidT s.heap H).get? b = some o := fun {b o} e h => hidT_get e (by
    cases q : H b with
    | none => rfl
    | some u =>
      have z := hA b (by rw [q]; simp)
      subst z
      rcases h with h | h
      · exact absurd rfl h
      · rw [q] at h; cases h)
  have ns : ∀ {b : Addr} {m : Str → Option Value}, s.heap.Ns b m → (hidT s.heap H).Ns b m := fun {b m} ⟨o, es, ep, e, d, r⟩ => ⟨o, es, ep, free e (.inl fun z => by
    subst z
    rw [ha] at e
    cases e
    cases d), d, r⟩
  have kin : K.In (hidT s.heap H) := fun b o e => free (KX b o e) (by
    by_cases z : b = a
    · subst z
      right
      cases q : H b with
      | none => rfl
      | some u => rw [hK (by rw [q]; simp)] at e; cases e
    · exact .inl z)
  obtain ⟨mc, h1, h2⟩ := hlim
  exact ⟨rfl, ⟨kin, ns hns, ⟨mb, ns hb, hbb⟩, ⟨mc, ns h1, h2⟩⟩, fun b o e => of_hidT e, Nat.le_of_eq (hidT_size _ _), trivial, fun b hb => absurd (show b ∈ ([] : List Addr) from hb) (by simp), hok, .of_eq hg⟩
/-- from the law's promise to its call -/
theorem law_end {k : Nat} {fd : FuncData} {x : Str} {fn : List D → Option (D × List D)} (KX : K.In s.heap) (hns : s.heap.Ns mainGlobals mg) (hb : s.heap.Ns builtinsNs mb) (hbb : ∀ x : Str, x ≠ "__name__" → mb x = bootBuiltins x) (hlim : s.heap.NoLimit) (hg : s.gens = #[])
    (ha : s.heap.get? a = some { cls := .type "list", data := .seq vs.toArray }) (hi : IntsAre vs ns) (hl : ns.length ≤ sizeLine) (hr : Room k callerA)
    (F : ∀ base : Heap, FnG P w K mg base k fa fd [x] [.fz] false fn) (hbind : ∀ (s : Shared) (u : Value), BindsTo s fd ⟨[u], []⟩ [(x, u)]) {out : List D} (hfn : fn [intsD ns] = some (.bool true, out)) :
    codeAny (model P w) callerA (.call (.ref fa) ⟨[.ref a], []⟩) (fun r s' => r = .ok (.ret (.bool true)) ∧ OldK s.heap s'.heap ∧ s'.os = s.os ∧ AllBare s'.gens) s := by
  have rv := vals_ints hi
  have lv := hi.length
  have go : ∀ H : Hp, (∀ b, H b ≠ none → b = a) → (H a ≠ none → K.lookup a = none) → (∀ o, H a = some o → ∃ ob u, o = .frz ob u) → HOk P w H s.heap → Rep K H (fun _ => False) (.ref a) (intsD ns) →
      codeAny (model P w) callerA (.call (.ref fa) ⟨[.ref a], []⟩) (fun r s' => r = .ok (.ret (.bool true)) ∧ OldK s.heap s'.heap ∧ s'.os = s.os ∧ AllBare s'.gens) s := fun H hA hK hz hok hrep => by
    have e0 := env_top (P := P) (w := w) KX hns hb hbb hlim hg ha hA hK hok
    have sp : spM K [.fz] false fn [.ref a] H (fun v _ => v = .bl true) C8.E0 := by
      refine ⟨fun _ => False, [intsD ns], .bool true, out, fun _ h => h.elim, ⟨rfl, rfl, fun i v d h1 h2 h3 => ?_, fun i m v d h1 hm => ?_, fun i j m m' a' h1 hm => ?_⟩, hfn, fun v H' O' eo => ?_⟩
      · cases i with
        | zero => simp at h2 h3; subst h2 h3; exact hrep
        | succ i => simp at h1
      · cases i with
        | zero => simp at h1; exact absurd h1.symm hm
        | succ i => simp at h1
      · cases i with
        | zero => simp at h1; exact absurd h1.symm hm
        | succ i => simp at h1
      · obtain ⟨_, rb⟩ := eo.val
        exact RepX.bool (.inl rb)
    refine codeAny_mono ((F _).run callerA [] s H ⟨[.ref a], []⟩ [.ref a] [.ref a] _ hr rfl e0 (hbind s (.ref a)) (.cons rfl .nil) sp) fun r s' h => ?_
    match r, h with
    | .ok (.ret u), ⟨v, H', os, bare, un, hok', r', q⟩ =>
      have q : v = .bl true := q
      subst q
      obtain rfl : u = Value.bool true := r'
      refine ⟨rfl, OldK.of_keep fun b o e => ?_, os, bare⟩
      cases hb : H b with
      | none => exact un.keep b o e hb (by intro z; exact absurd (show b ∈ ([] : List Addr) from z) (by simp)) (by simp)
      | some u =>
        have z := hA b (by rw [hb]; simp)
        subst z
        obtain ⟨ob, u', rfl⟩ := hz u hb
        have e1 := (hok b _ hb).1
        have e2 := (hok' b _ (un.frzs b ob _ hb)).1
        rw [e] at e1
        cases e1
        exact e2
  cases hk : K.lookup a with
  | some o =>
    have e := KX a o hk
    rw [ha] at e
    cases e
    exact go (fun _ => none) (fun b z => absurd rfl z) (fun z => absurd rfl z) (fun o z => by cases z) (fun b u z => by cases z) (.lst (.inr ⟨vs, _, hk, by rw [lv]; exact hl, rv⟩) (repA_ints ns))
  | none =>
    have hh : ∀ {b : Addr} {u : HO}, (if b = a then some (HO.frz { cls := .type "list", data := .seq vs.toArray } (.lst (ns.map V.int))) else none) = some u → b = a ∧ u = .frz { cls := .type "list", data := .seq vs.toArray } (.lst (ns.map V.int)) := fun {b u} z => by
      split at z
      · cases z; exact ⟨‹_›, rfl⟩
      · cases z
    refine go (fun b => if b = a then some (.frz { cls := .type "list", data := .seq vs.toArray } (.lst (ns.map V.int))) else none) (fun b z => ?_) (fun _ => hk) (fun o z => ⟨_, _, (hh z).2⟩) (fun b u z => ?_) (.lst (.inl ⟨.inr ⟨_, if_pos rfl⟩, fun h => h⟩) (repA_ints ns))
    · by_cases hb : b = a
      · exact hb
      · exact absurd (if_neg hb) z
    · obtain ⟨rfl, rfl⟩ := hh z
      exact ⟨ha, by rw [List.length_map]; exact hl, vs, _, rv, ha⟩
end

theorem walkG {l : PySem.W.OpenLaw} {n k : Nat} {q : Program} {loose : List Str} {XP : (Str → Option Value) → Heap → Prop} {YP : World → Heap → Prop} {d : DefRec} {K : Params → PySem.W.Frag} {x : Str} {fn : List D → Option (D × List D)}
    (hn : l.most = some n) (hn2 : n ≤ sizeLine) (hdf : d.params.defaults = []) (hr : Room k callerA) (hY : ∀ (w : World) (h : Heap), YP w h → (K w.params).In h)
    (F : ∀ (w : World) (mg : Str → Option Value) (fa : Addr) (h : Heap), (K w.params).In h → h.Ns mainGlobals mg → mg d.name = some (.ref fa) →
      ∃ fd : FuncData, (∀ (s : Shared) (u : Value), BindsTo s fd ⟨[u], []⟩ [(x, u)]) ∧ ∀ base : Heap, FnG l.prog w (K w.params) mg base k fa fd [x] [.fz] false fn)
    (ht : ∀ ns : List Int, ns.length ≤ n → ∃ out, fn [intsD ns] = some (.bool true, out)) : PySem.W.WalkO q loose XP YP l.row.toRowW d [] (fun f vs => PySem.call f vs) :=
  Att.attach_call hn hdf fun w s₀ s₁ mg mb fa o pm cd doc a vs ns G Y ho hd hcd hmg hobj hints hlen hg => by
    obtain ⟨fd, hb, hF⟩ := F w mg fa _ (hY w _ Y) G.T.g hmg
    obtain ⟨out, e⟩ := ht ns hlen
    exact law_end (hY w _ Y) G.T.g G.T.b G.T.builtins G.T.nolimit hg hobj hints (Nat.le_trans hlen hn2) hr hF hb e
/-- a def from what the written part tells -/
theorem at_mk {K : PySem.W.Frag} {h : Heap} {mg : Str → Option Value} (X : K.In h) (G : h.Ns mainGlobals mg) {d : DR} {f : Addr} {oc kV doc pm cdv ct : Value} {od an : Option Addr} {osl : Array (Option Value)}
    (a : PySem.W.nsIn K mainGlobals d.name = some (some (.ref f))) (l : K.lookup f = some ⟨oc, od, .func (PySem.W.fnOf d.name d.name (C8.fnArgs d.st) (C8.fnBody d.st) (C8.fnScope d.st) .none kV doc pm an cdv ct), osl⟩)
    (c : PySem.W.codeIn K cdv d.name = true) (k : PySem.W.keepIn K (.ref f) = true)
    (b : ∀ (kV doc pm : Value) (an : Option Addr) (cdv ct : Value) (us : List Value), us.length = d.ps.length → bindArgs (PySem.W.fnOf d.name d.name (C8.fnArgs d.st) (C8.fnBody d.st) (C8.fnScope d.st) .none kV doc pm an cdv ct) ⟨us, []⟩ = pure (d.ps.zip us)) :
    d.At K mg f (PySem.W.fnOf d.name d.name (C8.fnArgs d.st) (C8.fnBody d.st) (C8.fnScope d.st) .none kV doc pm an cdv ct) := by
  have F : C8.Fun K d.name d.name d.st f (PySem.W.fnOf d.name d.name (C8.fnArgs d.st) (C8.fnBody d.st) (C8.fnScope d.st) .none kV doc pm an cdv ct) := ⟨oc, od, .none, kV, doc, pm, an, cdv, ct, osl, rfl, l, c⟩
  exact ⟨F, PySem.W.mg_of X G a, k, .all fun us hl => b kV doc pm an cdv ct us hl⟩
/-- a place that no def has -/
def noDef : DR := ⟨"", .Pass ⟨0, 0, 0, 0⟩, [], [], [], ⟨[], [], false, []⟩⟩
end Mp

/-! the shared forms, printed by mp.py -/
namespace Mf
open PySem Mp
def fd_is_name : FD := ⟨[.fz], [.fz, .fz], false,
   [.ite (.or (.not (.prim (.isi "str") [(.var 0)])) (.or (.not (.chn .LtE .LtE (.con (.int 1)) (.prim .len [(.var 0)]) (.con (.int 8)))) (.cmp .In (.var 0) (.con (.tuple [(.str "mark"), (.str "part"), (.str "same"), (.str "test"), (.str "sum"), (.str "not"), (.str "both"), (.str "either")]))))) [.ret (.con (.bool false))] [],
    .ret (.prim .all [(.comp [1] (.nm 1) (.var 0) [] (.cmp .In (.var 1) (.con (.str "abcdefghijklmnopqrstuvwxyz"))))])]⟩
def ix_is_name : Nat := 1
def fd_are_pairs : FD := ⟨[.fz, .fz], [.fz, .fz, .fz], false,
   [.ite (.or (.not (.prim (.isi "tuple") [(.var 0)])) (.not (.chn .LtE .LtE (.con (.int 1)) (.prim .len [(.var 0)]) (.var 1)))) [.ret (.con (.bool false))] [],
    .for_ [2] (.nm 2) (.var 0) [.ite (.or (.not (.prim (.isi "tuple") [(.var 2)])) (.or (.cmp .NotEq (.prim .len [(.var 2)]) (.con (.int 2))) (.or (.not (.call 1 [(.idx (.var 2) (.con (.int 0)))])) (.not (.prim (.isi "tuple") [(.idx (.var 2) (.con (.int 1)))]))))) [.ret (.con (.bool false))] []],
    .ret (.con (.bool true))]⟩
def ix_are_pairs : Nat := 2
def fd_least_sizes : FD := ⟨[.fz], [.fz, .ow, .fz, .fz, .fz, .fz, .fz, .fz, .fz], false,
   [.own 1 (.dic [(.con (.str "mark"))] [(.con (.int 1))]),
    .for_ [2, 3, 4, 5] (.nm 2) (.var 0) [.for_ [3, 4, 5] (.tup [(.nm 3), (.nm 4)]) (.var 0) [.set (.nm 5) (.comp [7, 8] (.tup [(.nm 7), (.nm 8)]) (.var 4) [(.prim .all [(.comp [6] (.nm 6) (.var 8) [] (.cmp .In (.var 6) (.var 1)))])] (.bin .Add (.con (.int 1)) (.prim .sum [(.comp [6] (.nm 6) (.var 8) [] (.idx (.var 1) (.var 6)))]))),
    .ite (.cmp .NotEq (.var 5) (.lst [])) [.put 1 (.var 3) (.prim .min [(.var 5)])] []]],
    .ret (.var 1)]⟩
def ix_least_sizes : Nat := 3
def fd_are_parts : FD := ⟨[.fz, .fz], [.fz, .fz, .fz], false,
   [.ret (.and (.cmp .LtE (.prim .len [(.var 0)]) (.con (.int 3))) (.prim .all [(.comp [2] (.nm 2) (.var 0) [] (.and (.prim (.isi "str") [(.var 2)]) (.cmp .In (.var 2) (.var 1))))]))]⟩
def ix_are_parts : Nat := 4
def fd_is_kinds : FD := ⟨[.fz], [.fz, .fz, .fz, .fz, .fz, .fz, .fz, .fz], false,
   [.ite (.or (.not (.call 2 [(.var 0), (.con (.int 5))])) (.not (.prim .all [(.comp [1, 2] (.tup [(.nm 1), (.nm 2)]) (.var 0) [] (.call 2 [(.var 2), (.con (.int 4))]))]))) [.ret (.con (.bool false))] [],
    .set (.nm 3) (.comp [1, 2] (.tup [(.nm 1), (.nm 2)]) (.var 0) [] (.var 1)),
    .set (.nm 4) (.comp2 [1, 2, 5] [5] (.tup [(.nm 1), (.nm 2)]) (.var 0) (.nm 5) (.var 2) (.var 5)),
    .ite (.cmp .NotEq (.prim .lenSet [(.bin .Add (.var 3) (.comp [6, 7] (.tup [(.nm 6), (.nm 7)]) (.var 4) [] (.var 6)))]) (.bin .Add (.prim .len [(.var 3)]) (.prim .len [(.var 4)]))) [.ret (.con (.bool false))] [],
    .ite (.not (.prim .all [(.comp [6, 7] (.tup [(.nm 6), (.nm 7)]) (.var 4) [] (.call 4 [(.var 7), (.bin .Add (.var 3) (.lst [(.con (.str "mark"))]))]))])) [.ret (.con (.bool false))] [],
    .ret (.cmp .Eq (.prim .len [(.call 3 [(.var 0)])]) (.bin .Add (.prim .len [(.var 0)]) (.con (.int 1))))]⟩
def ix_is_kinds : Nat := 5
def fd__law_pot : FD := ⟨[.fz, .fz], [.fz, .fz, .fz], true,
   [.set (.nm 2) (.con (.int 0)),
    .ite (.cmp .Lt (.var 1) (.prim .len [(.var 0)])) [.set (.nm 2) (.bin .Mod (.prim .abs [(.idx (.var 0) (.var 1))]) (.bin .Pow (.bin .Pow (.con (.int 10)) (.con (.int 60))) (.con (.int 10))))] [],
    .ret (.lst [(.bin .Mult (.var 2) (.prim .int [(.cmp .GtE (.var 2) (.bin .Pow (.con (.int 10)) (.con (.int 18))))])), (.bin .Mod (.bin .Pow (.bin .Add (.bin .Add (.bin .Mod (.var 2) (.con (.int 2147483629))) (.bin .Mult (.con (.int 7919)) (.var 1))) (.con (.int 1))) (.con (.int 5))) (.con (.int 2305843009213693951))), (.con (.int 0))])]⟩
def ix__law_pot : Nat := 6
def fd__law_take : FD := ⟨[.io, .fz], [.io, .fz, .fz, .fz, .fz], false,
   [.ite (.cmp .Gt (.idx (.var 0) (.con (.int 0))) (.con (.int 0))) [.set (.nm 2) (.bin .Mod (.idx (.var 0) (.con (.int 0))) (.var 1)),
    .put 0 (.con (.int 0)) (.bin .FloorDiv (.idx (.var 0) (.con (.int 0))) (.var 1)),
    .ret (.var 2)] [],
    .put 0 (.con (.int 2)) (.bin .Add (.idx (.var 0) (.con (.int 2))) (.con (.int 1))),
    .set (.nm 3) (.bin .Mod (.bin .Pow (.bin .Add (.idx (.var 0) (.con (.int 1))) (.bin .Mult (.con (.int 104729)) (.idx (.var 0) (.con (.int 2))))) (.con (.int 3))) (.con (.int 2305843009213693921))),
    .set (.nm 4) (.bin .Mod (.bin .Pow (.bin .Add (.bin .Add (.var 3) (.bin .Mod (.idx (.var 0) (.con (.int 1))) (.con (.int 65537)))) (.bin .Mult (.con (.int 31)) (.idx (.var 0) (.con (.int 2))))) (.con (.int 5))) (.con (.int 2305843009213693907))),
    .ret (.bin .Mod (.bin .FloorDiv (.var 4) (.con (.int 1024))) (.var 1))]⟩
def ix__law_take : Nat := 7
def fd__law_words : FD := ⟨[], [], false,
   [.ret (.lst [(.con (.str "mark")), (.con (.str "part")), (.con (.str "same")), (.con (.str "test")), (.con (.str "sum")), (.con (.str "not")), (.con (.str "both")), (.con (.str "either"))])]⟩
def ix__law_words : Nat := 8
def fd__law_is_name : FD := ⟨[.fz], [.fz, .fz], false,
   [.ite (.or (.not (.prim (.isi "str") [(.var 0)])) (.or (.not (.chn .LtE .LtE (.con (.int 1)) (.prim .len [(.var 0)]) (.con (.int 8)))) (.cmp .In (.var 0) (.call 8 [])))) [.ret (.con (.bool false))] [],
    .ret (.cmp .Eq (.comp [1] (.nm 1) (.var 0) [(.not (.chn .LtE .LtE (.con (.str "a")) (.var 1) (.con (.str "z"))))] (.var 1)) (.lst []))]⟩
def ix__law_is_name : Nat := 9
def fd__law_word : FD := ⟨[.io, .io], [.io, .io, .fz, .fz, .fz], false,
   [.set (.nm 2) (.con (.str "abcdefghijklmnopqrstuvwxyz")),
    .put 1 (.con (.int 0)) (.bin .Add (.bin .Add (.idx (.var 1) (.con (.int 0))) (.con (.int 1))) (.call 7 [(.var 0), (.con (.int 3))])),
    .set (.nm 3) (.bin .Add (.idx (.var 2) (.bin .Mod (.bin .Mult (.idx (.var 1) (.con (.int 0))) (.con (.int 11))) (.con (.int 26)))) (.idx (.var 2) (.bin .Mod (.bin .Mult (.bin .FloorDiv (.idx (.var 1) (.con (.int 0))) (.con (.int 26))) (.con (.int 7))) (.con (.int 26))))),
    .for_ [4] (.nm 4) (.rng [(.call 7 [(.var 0), (.con (.int 7))])]) [.set (.nm 3) (.bin .Add (.var 3) (.idx (.var 2) (.call 7 [(.var 0), (.con (.int 26))])))],
    .ite (.cmp .In (.var 3) (.lst [(.con (.str "mark")), (.con (.str "part")), (.con (.str "same")), (.con (.str "test")), (.con (.str "sum")), (.con (.str "not")), (.con (.str "both")), (.con (.str "either"))])) [.set (.nm 3) (.bin .Add (.var 3) (.con (.str "q")))] [],
    .ret (.var 3)]⟩
def ix__law_word : Nat := 10
def fd__law_row : FD := ⟨[.io, .io, .fz, .fz], [.io, .io, .fz, .fz, .fz, .fz], false,
   [.set (.nm 4) (.prim .tuple [(.comp [5] (.nm 5) (.rng [(.prim .min [(.var 3), (.idx (.lst [(.con (.int 0)), (.con (.int 1)), (.con (.int 2)), (.con (.int 2)), (.con (.int 1)), (.con (.int 3))]) (.call 7 [(.var 0), (.con (.int 6))]))])]) [] (.idx (.var 2) (.call 7 [(.var 0), (.prim .len [(.var 2)])])))]),
    .ret (.tup [(.call 10 [(.var 0), (.var 1)]), (.var 4)])]⟩
def ix__law_row : Nat := 11
def fd__law_kinds : FD := ⟨[.io, .io], [.io, .io, .fz, .fz, .fz, .fz, .fz, .fz, .fz, .fz, .fz, .fz, .fz, .ow, .ow, .fz, .fz], false,
   [.set (.nm 2) (.call 7 [(.var 0), (.con (.int 8))]),
    .set (.nm 3) (.comp [4] (.nm 4) (.rng [(.bin .Add (.con (.int 1)) (.call 7 [(.var 0), (.con (.int 5))]))]) [] (.call 10 [(.var 0), (.var 1)])),
    .ite (.cmp .Lt (.var 2) (.con (.int 4))) [.set (.nm 3) (.slc (.var 3) .abs (.con (.int 2))),
    .par 5 6 (.idx (.var 3) (.con (.int 0))) (.idx (.var 3) (.neg (.con (.int 1)))),
    .set (.tup [(.nm 7), (.nm 8), (.nm 9), (.nm 10), (.nm 11)]) (.comp [4] (.nm 4) (.rng [(.con (.int 5))]) [] (.call 10 [(.var 0), (.var 1)])),
    .set (.nm 12) (.lst [(.tup [(.tup [(.var 5), (.tup [(.tup [(.var 7), (.tup [])]), (.tup [(.var 8), (.tup [(.var 5)])])])])]), (.tup [(.tup [(.var 5), (.tup [(.tup [(.var 8), (.tup [(.con (.str "mark")), (.var 5)])]), (.tup [(.var 7), (.tup [])])])])]), (.tup [(.tup [(.var 5), (.tup [(.tup [(.var 7), (.tup [])]), (.tup [(.var 8), (.tup [])])])])]), (.tup [(.tup [(.var 5), (.tup [(.tup [(.var 8), (.tup [(.var 5), (.var 5)])]), (.tup [(.var 7), (.tup [])]), (.tup [(.var 9), (.tup [(.con (.str "mark"))])])])])])]),
    .ite (.and (.cmp .Gt (.prim .len [(.var 3)]) (.con (.int 1))) (.cmp .Eq (.call 7 [(.var 0), (.con (.int 2))]) (.con (.int 0)))) [.ret (.bin .Add (.idx (.var 12) (.var 2)) (.tup [(.tup [(.var 6), (.tup [(.tup [(.var 10), (.tup [(.var 5)])]), (.tup [(.var 11), (.tup [(.var 5), (.var 6)])])])])]))] [],
    .ret (.idx (.var 12) (.var 2))] [],
    .own 13 (.lst []),
    .for_ [4, 14, 15, 16] (.nm 4) (.rng [(.prim .len [(.var 3)])]) [.own 14 (.lst [(.call 11 [(.var 0), (.var 1), (.bin .Add (.slc (.var 3) .abs (.var 4)) (.lst [(.con (.str "mark"))])), (.con (.int 2))])]),
    .for_ [15] (.nm 15) (.rng [(.call 7 [(.var 0), (.con (.int 4))])]) [.exp (.app 14 (.call 11 [(.var 0), (.var 1), (.bin .Add (.var 3) (.lst [(.con (.str "mark"))])), (.con (.int 3))]))],
    .set (.nm 16) (.call 7 [(.var 0), (.prim .len [(.var 14)])]),
    .exp (.app 13 (.tup [(.idx (.var 3) (.var 4)), (.prim .tuple [(.bin .Add (.slc (.var 14) (.var 16) .abs) (.slc (.var 14) .abs (.var 16)))])]))],
    .set (.nm 16) (.call 7 [(.var 0), (.prim .len [(.var 13)])]),
    .ret (.prim .tuple [(.bin .Add (.slc (.var 13) (.var 16) .abs) (.slc (.var 13) .abs (.var 16)))])]⟩
def ix__law_kinds : Nat := 12
def fd__law_sizes : FD := ⟨[.fz], [.fz, .ow, .fz, .fz, .fz, .fz, .fz, .fz, .fz], false,
   [.own 1 (.dic [(.con (.str "mark"))] [(.con (.int 1))]),
    .for_ [2, 3, 4, 5] (.nm 2) (.rng [(.bin .Add (.prim .len [(.var 0)]) (.con (.int 1)))]) [.for_ [3, 4, 5] (.tup [(.nm 3), (.nm 4)]) (.var 0) [.set (.nm 5) (.comp [6, 7] (.tup [(.nm 6), (.nm 7)]) (.var 4) [(.cmp .Eq (.comp [8] (.nm 8) (.var 7) [(.cmp .NotIn (.var 8) (.var 1))] (.con (.int 1))) (.lst []))] (.var 7)),
    .ite (.cmp .NotEq (.var 5) (.lst [])) [.put 1 (.var 3) (.prim .min [(.comp [7] (.nm 7) (.var 5) [] (.bin .Add (.con (.int 1)) (.prim .sum [(.comp [8] (.nm 8) (.var 7) [] (.idx (.var 1) (.var 8)))])))])] []]],
    .ret (.var 1)]⟩
def ix__law_sizes : Nat := 13
def fd__law_odd : FD := ⟨[.io], [.io], false,
   [.ret (.idx (.lst [(.con .none), (.con (.bool true)), (.con (.bool false)), (.con (.int 0)), (.con (.int 1)), (.neg (.con (.int 1))), (.bin .Pow (.con (.int 10)) (.con (.int 39))), (.con (.str "")), (.con (.str "mark")), (.con (.str "a")), (.con (.str "zzzzzzzz")), (.con (.str "same")), (.con (.str "Ab")), (.tup []), (.lst []), (.dic [] []), (.tup [(.con (.str "a"))]), (.tup [(.con (.str "a")), (.tup [])]), (.tup [(.tup [])]), (.lst [(.con (.str "a"))]), (.con (.str "ninelongs")), (.con (.str "a b"))]) (.call 7 [(.var 0), (.con (.int 22))]))]⟩
def ix__law_odd : Nat := 14
def fd__law_bent : FD := ⟨[.io, .fz, .fz], [.io, .fz, .fz, .fz, .fz, .fz, .fz, .fz, .fz], false,
   [.set (.nm 3) (.call 7 [(.var 0), (.con (.int 8))]),
    .set (.nm 4) (.call 14 [(.var 0)]),
    .ite (.and (.prim (.isi "str") [(.var 1)]) (.cmp .Lt (.var 3) (.con (.int 6)))) [.set (.nm 5) (.call 7 [(.var 0), (.bin .Add (.prim .len [(.var 1)]) (.con (.int 1)))]),
    .set (.nm 6) (.idx (.lst [(.con (.str "a")), (.con (.str "z")), (.con (.str " ")), (.con (.str "A")), (.con (.str "1")), (.con (.str "q"))]) (.var 3)),
    .ret (.idx (.lst [(.bin .Add (.bin .Add (.slc (.var 1) .abs (.var 5)) (.var 6)) (.slc (.var 1) (.var 5) .abs)), (.bin .Add (.slc (.var 1) .abs (.var 5)) (.slc (.var 1) (.bin .Add (.var 5) (.con (.int 1))) .abs))]) (.call 7 [(.var 0), (.con (.int 2))]))] [],
    .ite (.not (.prim (.isi "tuple") [(.var 1)])) [.ite (.or (.not (.prim (.isi "int") [(.var 1)])) (.or (.prim (.isi "bool") [(.var 1)]) (.cmp .Gt (.var 3) (.con (.int 4))))) [.ret (.var 4)] [],
    .ret (.idx (.lst [(.bin .Add (.var 1) (.con (.int 1))), (.bin .Sub (.neg (.con (.int 1))) (.var 1)), (.cmp .Eq (.var 1) (.con (.int 1))), (.prim .str [(.var 1)]), (.con (.int 0))]) (.var 3))] [],
    .set (.nm 5) (.call 7 [(.var 0), (.prim .max [(.con (.int 1)), (.prim .len [(.var 1)])])]),
    .set (.nm 7) (.call 7 [(.var 0), (.prim .max [(.con (.int 1)), (.prim .len [(.var 1)])])]),
    .ite (.and (.cmp .Gt (.var 2) (.con (.int 0))) (.and (.cmp .NotEq (.var 1) (.tup [])) (.cmp .Gt (.call 7 [(.var 0), (.con (.int 4))]) (.con (.int 0))))) [.ret (.bin .Add (.bin .Add (.slc (.var 1) .abs (.var 5)) (.tup [(.call 15 [(.var 0), (.idx (.var 1) (.var 5)), (.bin .Sub (.var 2) (.con (.int 1)))])])) (.slc (.var 1) (.bin .Add (.var 5) (.con (.int 1))) .abs))] [],
    .set (.nm 8) (.lst [(.bin .Add (.slc (.var 1) .abs (.var 5)) (.slc (.var 1) (.bin .Add (.var 5) (.con (.int 1))) .abs)), (.bin .Add (.slc (.var 1) .abs (.bin .Add (.var 5) (.con (.int 1)))) (.slc (.var 1) (.var 5) .abs))]),
    .set (.nm 8) (.bin .Add (.var 8) (.lst [(.bin .Add (.bin .Add (.slc (.var 1) .abs (.var 5)) (.tup [(.var 4)])) (.slc (.var 1) (.var 5) .abs)), (.rev (.var 1)), (.prim .list [(.var 1)])])),
    .ret (.idx (.bin .Add (.var 8) (.lst [(.bin .Add (.bin .Add (.slc (.var 1) .abs (.var 5)) (.slc (.var 1) (.var 7) (.bin .Add (.var 7) (.con (.int 1))))) (.slc (.var 1) (.bin .Add (.var 5) (.con (.int 1))) .abs)), (.bin .Add (.var 1) (.tup [(.var 4)])), (.var 4)])) (.var 3))]⟩
def ix__law_bent : Nat := 15
def fd__law_are_kinds : FD := ⟨[.fz], [.fz, .ow, .ow, .fz, .fz, .fz, .fz], false,
   [.ite (.or (.not (.prim (.isi "tuple") [(.var 0)])) (.not (.chn .LtE .LtE (.con (.int 1)) (.prim .len [(.var 0)]) (.con (.int 5))))) [.ret (.con (.bool false))] [],
    .own 1 (.lst []),
    .own 2 (.lst []),
    .for_ [4] (.nm 3) (.var 0) [.ite (.or (.not (.prim (.isi "tuple") [(.var 3)])) (.or (.cmp .NotEq (.prim .len [(.var 3)]) (.con (.int 2))) (.not (.call 9 [(.idx (.var 3) (.con (.int 0)))])))) [.ret (.con (.bool false))] [],
    .ite (.or (.not (.prim (.isi "tuple") [(.idx (.var 3) (.con (.int 1)))])) (.not (.chn .LtE .LtE (.con (.int 1)) (.prim .len [(.idx (.var 3) (.con (.int 1)))]) (.con (.int 4))))) [.ret (.con (.bool false))] [],
    .exp (.app 1 (.idx (.var 3) (.con (.int 0)))),
    .for_ [4] (.nm 4) (.idx (.var 3) (.con (.int 1))) [.ite (.or (.not (.prim (.isi "tuple") [(.var 4)])) (.or (.cmp .NotEq (.prim .len [(.var 4)]) (.con (.int 2))) (.not (.call 9 [(.idx (.var 4) (.con (.int 0)))])))) [.ret (.con (.bool false))] [],
    .ite (.or (.not (.prim (.isi "tuple") [(.idx (.var 4) (.con (.int 1)))])) (.cmp .Gt (.prim .len [(.idx (.var 4) (.con (.int 1)))]) (.con (.int 3)))) [.ret (.con (.bool false))] [],
    .exp (.app 1 (.idx (.var 4) (.con (.int 0)))),
    .exp (.ext 2 (.prim .list [(.idx (.var 4) (.con (.int 1)))]))]],
    .ite (.cmp .NotEq (.prim .lenSet [(.var 1)]) (.prim .len [(.var 1)])) [.ret (.con (.bool false))] [],
    .set (.nm 5) (.bin .Add (.comp [3] (.nm 3) (.var 0) [] (.idx (.var 3) (.con (.int 0)))) (.lst [(.con (.str "mark"))])),
    .ite (.cmp .NotEq (.comp [6] (.nm 6) (.var 2) [(.or (.not (.prim (.isi "str") [(.var 6)])) (.cmp .NotIn (.var 6) (.var 5)))] (.var 6)) (.lst [])) [.ret (.con (.bool false))] [],
    .ret (.cmp .Eq (.prim .len [(.call 13 [(.var 0)])]) (.prim .len [(.var 5)]))]⟩
def ix__law_are_kinds : Nat := 16
def fd__law_written : FD := ⟨[], [.fz, .fz, .fz, .fz, .fz, .fz, .fz, .fz, .fz], false,
   [.set (.nm 0) (.lst [(.con (.str "ka")), (.con (.str "kb")), (.con (.str "kc")), (.con (.str "kd")), (.con (.str "ke")), (.con (.str "kf"))]),
    .set (.nm 1) (.comp [2] (.nm 2) (.rng [(.con (.int 6))]) [] (.tup [(.idx (.var 0) (.var 2)), (.tup [(.tup [(.bin .Add (.con (.str "m")) (.idx (.var 0) (.var 2))), (.bin .Mult (.tup [(.idx (.var 0) (.var 2))]) (.con (.int 3)))]), (.tup [(.bin .Add (.con (.str "n")) (.idx (.var 0) (.var 2))), (.tup [])])])])),
    .set (.nm 3) (.prim .tuple [(.comp [4] (.nm 4) (.slc (.var 0) .abs (.con (.int 4))) [] (.tup [(.bin .Add (.con (.str "m")) (.var 4)), (.tup [(.con (.str "mark"))])]))]),
    .set (.nm 5) (.lst [(.prim .tuple [(.slc (.var 1) .abs (.con (.int 5)))]), (.prim .tuple [(.var 1)]), (.tup [(.tup [(.con (.str "ka")), (.var 3)])]), (.tup [(.tup [(.con (.str "ka")), (.bin .Add (.var 3) (.tup [(.tup [(.con (.str "mm")), (.tup [])])]))])]), (.tup [(.tup [(.con (.str "ka")), (.tup [])])])]),
    .set (.nm 5) (.bin .Add (.var 5) (.lst [(.tup [(.tup [(.con (.str "ka")), (.tup [(.tup [(.con (.str "ma")), (.bin .Mult (.tup [(.con (.str "mark"))]) (.con (.int 4)))]), (.tup [(.con (.str "mb")), (.tup [])])])])]), (.tup [(.tup [(.con (.str "ka")), (.tup [(.tup [(.con (.str "ma")), (.tup [(.con (.str "ka"))])])])])]), (.tup [])])),
    .set (.nm 5) (.bin .Add (.var 5) (.lst [(.tup [(.tup [(.con (.str "ka")), (.tup [(.tup [(.con (.str "ma")), (.tup [(.con (.str "kb"))])])])]), (.tup [(.con (.str "kb")), (.tup [(.tup [(.con (.str "mb")), (.tup [(.con (.str "ka"))])])])])])])),
    .set (.nm 5) (.bin .Add (.var 5) (.lst [(.tup [(.tup [(.con (.str "ka")), (.tup [(.tup [(.con (.str "ma")), (.tup [(.con (.str "kb"))])])])]), (.tup [(.con (.str "kb")), (.tup [(.tup [(.con (.str "mb")), (.tup [(.con (.str "ka"))])]), (.tup [(.con (.str "mc")), (.tup [])])])])])])),
    .set (.nm 5) (.bin .Add (.var 5) (.lst [(.tup [(.tup [(.con (.str "ka")), (.tup [(.tup [(.con (.str "ka")), (.tup [])])])])]), (.tup [(.tup [(.con (.str "ka")), (.tup [(.tup [(.con (.str "ma")), (.tup [])]), (.tup [(.con (.str "ma")), (.tup [])])])])]), (.tup [(.tup [(.con (.str "mark")), (.tup [(.tup [(.con (.str "ma")), (.tup [])])])])])])),
    .set (.nm 5) (.bin .Add (.var 5) (.lst [(.tup [(.tup [(.con (.str "ka")), (.tup [(.tup [(.con (.str "ma")), (.tup [])])])]), (.tup [(.con (.str "kb")), (.tup [(.tup [(.con (.str "ma")), (.tup [])])])])]), (.tup [(.tup [(.con (.str "ka")), (.tup [(.tup [(.con (.str "same")), (.tup [])])])])])])),
    .set (.nm 5) (.bin .Add (.var 5) (.lst [(.tup [(.tup [(.con (.str "ka")), (.tup [(.tup [(.con (.str "ma")), (.tup [(.con (.str "kz"))])])])])]), (.tup [(.tup [(.con (.str "ka")), (.tup [(.tup [(.con (.str "ma")), (.tup [(.tup [])])])])])]), (.tup [(.tup [(.con (.str "ka")), (.tup [(.tup [(.con (.str "ma")), (.con (.str "mark"))])])])])])),
    .set (.nm 5) (.bin .Add (.var 5) (.lst [(.tup [(.tup [(.con (.str "ka")), (.tup [(.tup [(.con (.str "ma")), (.tup [])])])]), (.tup [(.con (.str "ka")), (.tup [(.tup [(.con (.str "mb")), (.tup [])])])])]), (.tup [(.tup [(.con (.str "ka")), (.tup [(.tup [(.con (.str "kb")), (.tup [])])])]), (.tup [(.con (.str "kb")), (.tup [(.tup [(.con (.str "mb")), (.tup [])])])])])])),
    .set (.nm 6) (.tup [(.con (.str "ka")), (.tup [(.tup [(.con (.str "ma")), (.tup [])])])]),
    .set (.nm 5) (.bin .Add (.var 5) (.lst [(.tup [(.var 6), (.tup [(.con (.str "kb")), (.var 3)])]), (.tup [(.var 6), (.tup [(.con (.str "kb")), (.bin .Add (.var 3) (.tup [(.tup [(.con (.str "mm")), (.tup [])])]))])])])),
    .set (.nm 5) (.bin .Add (.var 5) (.lst [(.tup [(.var 6), (.tup [(.con (.str "kb")), (.tup [(.tup [(.con (.str "mb")), (.tup [])]), (.tup [(.con (.str "mc")), (.bin .Mult (.tup [(.con (.str "ka"))]) (.con (.int 4)))])])])]), (.tup [(.var 6), (.tup [(.con (.str "kb")), (.tup [(.tup [(.con (.str "mb")), (.tup [])]), (.tup [(.con (.str "mc")), (.bin .Mult (.tup [(.con (.str "ka"))]) (.con (.int 3)))])])])])])),
    .set (.nm 7) (.comp [4] (.nm 4) (.slc (.var 0) .abs (.con (.int 5))) [] (.tup [(.var 4), (.prim .tuple [(.comp [8] (.nm 8) (.con (.str "mnop")) [] (.tup [(.bin .Add (.var 8) (.var 4)), (.bin .Mult (.tup [(.var 4), (.con (.str "mark"))]) (.prim .int [(.cmp .Eq (.var 8) (.con (.str "m")))]))]))])])),
    .set (.nm 5) (.bin .Add (.var 5) (.lst [(.prim .tuple [(.var 7)]), (.prim .tuple [(.bin .Add (.slc (.var 7) .abs (.con (.int 4))) (.lst [(.tup [(.con (.str "ke")), (.bin .Add (.idx (.idx (.var 7) (.con (.int 4))) (.con (.int 1))) (.tup [(.tup [(.con (.str "qq")), (.tup [])])]))])]))])])),
    .ret (.bin .Add (.var 5) (.lst [(.con .none), (.con (.int 5)), (.con (.bool true)), (.con (.str "kinds")), (.dic [] []), (.lst []), (.tup [(.con .none)]), (.tup [(.tup [])]), (.tup [(.tup [(.con (.str "ka"))])]), (.tup [(.tup [(.con (.str "ka")), (.con (.int 5))])]), (.tup [(.tup [(.con (.str "ka")), (.tup [(.con (.str "ma"))])])])]))]⟩
def ix__law_written : Nat := 17
def fd__law_texts : FD := ⟨[.io, .fz], [.io, .fz, .fz, .fz, .fz, .fz], false,
   [.set (.nm 2) (.con (.str "abcdefghijklmnopqrstuvwxyzABZ019 _-.,~()\n")),
    .set (.nm 3) (.con (.str "")),
    .for_ [4] (.nm 4) (.rng [(.call 7 [(.var 0), (.con (.int 10))])]) [.set (.nm 3) (.bin .Add (.var 3) (.idx (.var 2) (.call 7 [(.var 0), (.prim .len [(.var 2)])])))],
    .set (.nm 5) (.idx (.call 8 []) (.call 7 [(.var 0), (.con (.int 8))])),
    .ret (.lst [(.idx (.idx (.var 1) (.con (.int 0))) (.con (.int 0))), (.idx (.idx (.idx (.idx (.var 1) (.neg (.con (.int 1)))) (.con (.int 1))) (.neg (.con (.int 1)))) (.con (.int 0))), (.var 5), (.bin .Add (.var 5) (.con (.str "s"))), (.var 3), (.con (.str "")), (.con (.str "a")), (.con (.str "abcdefgh")), (.con (.str "abcdefghi")), (.con (.str "Mark")), (.con (.str "a ")), (.con .none), (.con (.int 5)), (.con (.bool true)), (.tup [(.con (.str "a"))]), (.lst [(.con (.str "a"))])])]⟩
def ix__law_texts : Nat := 18
def fd_maker_rows : FD := ⟨[.fz], [.fz, .fz, .fz, .fz, .fz], false,
   [.ret (.dcomp2 [1, 2, 3, 4] [3, 4] (.tup [(.nm 1), (.nm 2)]) (.var 0) (.tup [(.nm 3), (.nm 4)]) (.var 2) (.var 3) (.tup [(.var 1), (.var 4)]))]⟩
def ix_maker_rows : Nat := 19
def fd_need_kinds : FD := ⟨[.fz], [.fz], false,
   [.ite (.not (.call 5 [(.var 0)])) [.nev] []]⟩
def ix_need_kinds : Nat := 20
def fd_is_kind : FD := ⟨[.fz, .fz], [.fz, .fz], false,
   [.ret (.and (.prim (.isi "str") [(.var 1)]) (.or (.cmp .Eq (.var 1) (.con (.str "mark"))) (.cmp .In (.var 1) (.prim .dict [(.var 0)]))))]⟩
def ix_is_kind : Nat := 21
def fd_need_kind : FD := ⟨[.fz, .fz], [.fz, .fz], false,
   [.exp (.call 20 [(.var 0)]),
    .ite (.not (.call 21 [(.var 0), (.var 1)])) [.nev] []]⟩
def ix_need_kind : Nat := 22
def fd_need_maker : FD := ⟨[.fz, .fz], [.fz, .fz], false,
   [.exp (.call 20 [(.var 0)]),
    .ite (.or (.not (.prim (.isi "str") [(.var 1)])) (.cmp .NotIn (.var 1) (.call 19 [(.var 0)]))) [.nev] []]⟩
def ix_need_maker : Nat := 23
def fd_makers_in : FD := ⟨[.fz, .fz], [.fz, .fz], false,
   [.ret (.dget (.prim .dict [(.var 0)]) (.var 1) (.tup []))]⟩
def ix_makers_in : Nat := 24
def fd_makers_of : FD := ⟨[.fz, .fz], [.fz, .fz], false,
   [.exp (.call 22 [(.var 0), (.var 1)]),
    .ret (.call 24 [(.var 0), (.var 1)])]⟩
def ix_makers_of : Nat := 25
def fd_kind_by : FD := ⟨[.fz, .fz], [.fz, .fz], false,
   [.exp (.call 23 [(.var 0), (.var 1)]),
    .ret (.idx (.idx (.call 19 [(.var 0)]) (.var 1)) (.con (.int 0)))]⟩
def ix_kind_by : Nat := 26
def fd__law_makers : FD := ⟨[.fz], [.fz, .ow, .fz, .fz, .fz, .fz], false,
   [.own 1 (.dic [] []),
    .for_ [2, 3, 4, 5] (.tup [(.nm 2), (.nm 3)]) (.var 0) [.for_ [4, 5] (.tup [(.nm 4), (.nm 5)]) (.var 3) [.put 1 (.var 4) (.tup [(.var 2), (.var 5)])]],
    .ret (.var 1)]⟩
def ix__law_makers : Nat := 27
def fd_least_size : FD := ⟨[.fz, .fz], [.fz, .fz], false,
   [.exp (.call 22 [(.var 0), (.var 1)]),
    .ret (.idx (.call 3 [(.var 0)]) (.var 1))]⟩
def ix_least_size : Nat := 28
def fd_led_to : FD := ⟨[.fz, .fz], [.fz, .fz, .ow, .ow, .fz, .fz, .fz], false,
   [.own 2 (.dic [] []),
    .own 3 (.lst [(.var 1)]),
    .whl [4, 5] (.cmp .NotEq (.var 3) (.lst [])) [.for_ [4, 5] (.tup [(.nm 4), (.nm 5)]) (.call 24 [(.var 0), (.pop 3)]) [.exp (.ext 3 (.comp [6] (.nm 6) (.var 5) [(.cmp .NotIn (.var 6) (.var 2))] (.var 6))),
    .exp (.upd 2 (.dcomp [6] (.nm 6) (.var 5) (.var 6) (.con (.bool true))))]],
    .ret (.var 2)]⟩
def ix_led_to : Nat := 29
def fd_is_finite : FD := ⟨[.fz, .fz], [.fz, .fz, .fz, .fz], false,
   [.exp (.call 22 [(.var 0), (.var 1)]),
    .set (.nm 2) (.call 29 [(.var 0), (.var 1)]),
    .ite (.or (.cmp .Eq (.var 1) (.con (.str "mark"))) (.or (.cmp .In (.con (.str "mark")) (.var 2)) (.cmp .In (.var 1) (.var 2)))) [.ret (.con (.bool false))] [],
    .ret (.prim .all [(.comp [3] (.nm 3) (.var 2) [] (.cmp .NotIn (.var 3) (.call 29 [(.var 0), (.var 3)])))])]⟩
def ix_is_finite : Nat := 30
def fd__law_led : FD := ⟨[.fz, .fz], [.fz, .fz, .ow, .ow, .fz, .fz, .fz, .fz, .fz, .fz], false,
   [.own 2 (.lst []),
    .own 3 (.lst [(.var 1)]),
    .whl [4, 5, 6, 7, 8] (.cmp .NotEq (.var 3) (.lst [])) [.set (.nm 4) (.pop 3),
    .for_ [5, 6, 7, 8] (.tup [(.nm 5), (.nm 6)]) (.var 0) [.for_ [7, 8] (.tup [(.nm 7), (.nm 8)]) (.var 6) [.ite (.cmp .Eq (.var 5) (.var 4)) [.exp (.ext 3 (.comp [9] (.nm 9) (.var 8) [(.cmp .NotIn (.var 9) (.var 2))] (.var 9))),
    .exp (.ext 2 (.comp [9] (.nm 9) (.var 8) [(.cmp .NotIn (.var 9) (.var 2))] (.var 9)))] []]]],
    .ret (.var 2)]⟩
def ix__law_led : Nat := 31
def fd__law_ends : FD := ⟨[.fz, .fz], [.fz, .fz, .fz, .fz], false,
   [.set (.nm 2) (.bin .Add (.call 31 [(.var 0), (.var 1)]) (.lst [(.var 1)])),
    .ite (.cmp .In (.con (.str "mark")) (.var 2)) [.ret (.con (.bool false))] [],
    .ret (.cmp .Eq (.comp [3] (.nm 3) (.var 2) [(.cmp .In (.var 3) (.call 31 [(.var 0), (.var 3)]))] (.var 3)) (.lst []))]⟩
def ix__law_ends : Nat := 32
def fd__law_right : FD := ⟨[.fz, .fz], [.fz, .fz, .fz, .fz], false,
   [.for_ [2, 3] (.nm 2) (.rng [(.con (.int 2))]) [.ite (.cmp .NotEq (.prim .repr [(.call 28 [(.var 0), (.var 1)])]) (.prim .repr [(.idx (.call 13 [(.var 0)]) (.var 1))])) [.ret (.con (.bool false))] [],
    .set (.nm 3) (.call 30 [(.var 0), (.var 1)]),
    .ite (.or (.not (.prim (.isi "bool") [(.var 3)])) (.cmp .NotEq (.var 3) (.call 32 [(.var 0), (.var 1)]))) [.ret (.con (.bool false))] []],
    .ret (.con (.bool true))]⟩
def ix__law_right : Nat := 33
def fd_is_whole : FD := ⟨[.fz], [.fz], false,
   [.ret (.and (.prim (.isi "int") [(.var 0)]) (.not (.prim (.isi "bool") [(.var 0)])))]⟩
def ix_is_whole : Nat := 34
def fd_is_made : FD := ⟨[.fz, .fz, .fz], [.fz, .fz, .fz], false,
   [.ite (.or (.not (.prim (.isi "tuple") [(.var 2)])) (.or (.cmp .Eq (.var 2) (.tup [])) (.or (.not (.prim (.isi "str") [(.idx (.var 2) (.con (.int 0)))])) (.cmp .NotIn (.idx (.var 2) (.con (.int 0))) (.var 0))))) [.ret (.con (.bool false))] [],
    .ret (.and (.cmp .Eq (.idx (.idx (.var 0) (.idx (.var 2) (.con (.int 0)))) (.con (.int 0))) (.var 1)) (.cmp .Eq (.prim .len [(.var 2)]) (.bin .Add (.con (.int 1)) (.prim .len [(.idx (.idx (.var 0) (.idx (.var 2) (.con (.int 0)))) (.con (.int 1)))]))))]⟩
def ix_is_made : Nat := 35
def fd_is_tree : FD := ⟨[.fz, .fz, .fz], [.fz, .fz, .fz], false,
   [.exp (.call 22 [(.var 0), (.var 1)]),
    .ret (.call 36 [(.var 0), (.var 1), (.var 2)])]⟩
def ix_is_tree : Nat := 37
def fd__law_least : FD := ⟨[.fz, .fz], [.fz, .fz, .fz, .fz, .fz, .fz], false,
   [.ite (.cmp .Eq (.var 1) (.con (.str "mark"))) [.ret (.con (.int 0))] [],
    .set (.nm 2) (.call 13 [(.var 0)]),
    .for_ [3, 4] (.tup [(.nm 3), (.nm 4)]) (.idx (.prim .dict [(.var 0)]) (.var 1)) [.ite (.cmp .Eq (.bin .Add (.con (.int 1)) (.prim .sum [(.comp [5] (.nm 5) (.var 4) [] (.idx (.var 2) (.var 5)))])) (.idx (.var 2) (.var 1))) [.ret (.bin .Add (.tup [(.var 3)]) (.prim .tuple [(.comp [5] (.nm 5) (.var 4) [] (.call 38 [(.var 0), (.var 5)]))]))] []],
    .ret (.con .none)]⟩
def ix__law_least : Nat := 38
def fd__law_size : FD := ⟨[.fz], [.fz, .fz], false,
   [.ret (.ite (.prim (.isi "int") [(.var 0)]) (.con (.int 1)) (.bin .Add (.con (.int 1)) (.prim .sum [(.comp [1] (.nm 1) (.slc (.var 0) (.con (.int 1)) .abs) [] (.call 39 [(.var 1)]))])))]⟩
def ix__law_size : Nat := 39
def fd__law_tree : FD := ⟨[.io, .fz, .fz, .fz], [.io, .fz, .fz, .fz, .fz, .fz, .fz, .fz, .fz, .fz, .fz, .ow, .fz, .fz], false,
   [.ite (.cmp .Eq (.var 2) (.con (.str "mark"))) [.ret (.idx (.lst [(.con (.int 0)), (.call 7 [(.var 0), (.con (.int 3))]), (.call 7 [(.var 0), (.con (.int 1000))])]) (.call 7 [(.var 0), (.con (.int 3))]))] [],
    .set (.nm 4) (.call 13 [(.var 1)]),
    .set (.nm 5) (.comp [6] (.nm 6) (.idx (.prim .dict [(.var 1)]) (.var 2)) [(.cmp .LtE (.bin .Add (.con (.int 1)) (.prim .sum [(.comp [7] (.nm 7) (.idx (.var 6) (.con (.int 1))) [] (.idx (.var 4) (.var 7)))])) (.var 3))] (.var 6)),
    .ite (.cmp .Eq (.var 5) (.lst [])) [.ret (.call 38 [(.var 1), (.var 2)])] [],
    .set (.tup [(.nm 8), (.nm 9)]) (.idx (.var 5) (.call 7 [(.var 0), (.prim .len [(.var 5)])])),
    .set (.nm 10) (.bin .Sub (.bin .Sub (.var 3) (.con (.int 1))) (.prim .sum [(.comp [7] (.nm 7) (.var 9) [] (.idx (.var 4) (.var 7)))])),
    .own 11 (.lst [(.var 8)]),
    .for_ [7, 12, 13] (.nm 7) (.var 9) [.set (.nm 12) (.call 7 [(.var 0), (.bin .Add (.var 10) (.con (.int 1)))]),
    .set (.nm 13) (.call 40 [(.var 0), (.var 1), (.var 7), (.bin .Add (.idx (.var 4) (.var 7)) (.var 12))]),
    .set (.nm 10) (.prim .max [(.con (.int 0)), (.bin .Add (.bin .Sub (.var 10) (.call 39 [(.var 13)])) (.idx (.var 4) (.var 7)))]),
    .exp (.app 11 (.var 13))],
    .ret (.prim .tuple [(.var 11)])]⟩
def ix__law_tree : Nat := 40
def fd__law_whole : FD := ⟨[.fz], [.fz], false,
   [.ret (.and (.prim (.isi "int") [(.var 0)]) (.not (.prim (.isi "bool") [(.var 0)])))]⟩
def ix__law_whole : Nat := 41
def fd__law_is_tree : FD := ⟨[.fz, .fz, .fz], [.fz, .fz, .fz, .fz, .ow, .fz, .fz, .fz], false,
   [.set (.nm 3) (.call 27 [(.var 0)]),
    .own 4 (.lst [(.tup [(.var 1), (.var 2)])]),
    .whl [5, 6] (.cmp .NotEq (.var 4) (.lst [])) [.set (.tup [(.nm 5), (.nm 6)]) (.pop 4),
    .ite (.cmp .Eq (.var 5) (.con (.str "mark"))) [.ite (.or (.not (.call 41 [(.var 6)])) (.cmp .Lt (.var 6) (.con (.int 0)))) [.ret (.con (.bool false))] []] [.ite (.or (.not (.prim (.isi "tuple") [(.var 6)])) (.or (.cmp .Eq (.var 6) (.tup [])) (.not (.prim (.isi "str") [(.idx (.var 6) (.con (.int 0)))])))) [.ret (.con (.bool false))] [],
    .ite (.or (.cmp .NotIn (.idx (.var 6) (.con (.int 0))) (.var 3)) (.cmp .NotEq (.idx (.idx (.var 3) (.idx (.var 6) (.con (.int 0)))) (.con (.int 0))) (.var 5))) [.ret (.con (.bool false))] [],
    .ite (.cmp .NotEq (.prim .len [(.var 6)]) (.bin .Add (.con (.int 1)) (.prim .len [(.idx (.idx (.var 3) (.idx (.var 6) (.con (.int 0)))) (.con (.int 1)))]))) [.ret (.con (.bool false))] [],
    .exp (.ext 4 (.comp [7] (.nm 7) (.rng [(.bin .Sub (.prim .len [(.var 6)]) (.con (.int 1)))]) [] (.tup [(.idx (.idx (.idx (.var 3) (.idx (.var 6) (.con (.int 0)))) (.con (.int 1))) (.var 7)), (.idx (.var 6) (.bin .Add (.con (.int 1)) (.var 7)))])))]],
    .ret (.con (.bool true))]⟩
def ix__law_is_tree : Nat := 42
def fd__law_things : FD := ⟨[.io, .fz, .fz], [.io, .fz, .fz, .fz, .fz, .ow, .fz, .fz, .fz, .fz], false,
   [.set (.nm 3) (.call 40 [(.var 0), (.var 1), (.var 2), (.bin .Add (.con (.int 1)) (.call 7 [(.var 0), (.con (.int 12))]))]),
    .set (.nm 4) (.call 27 [(.var 1)]),
    .own 5 (.bin .Add (.lst [(.var 3), (.call 38 [(.var 1), (.var 2)])]) (.comp [6] (.nm 6) (.rng [(.con (.int 8))]) [] (.call 15 [(.var 0), (.var 3), (.con (.int 9))]))),
    .for_ [7, 8] (.nm 7) (.var 4) [.set (.nm 8) (.idx (.idx (.var 4) (.var 7)) (.con (.int 1))),
    .exp (.app 5 (.bin .Add (.tup [(.var 7)]) (.prim .tuple [(.comp [9] (.nm 9) (.var 8) [] (.call 38 [(.var 1), (.var 9)]))]))),
    .exp (.app 5 (.bin .Add (.tup [(.var 7)]) (.prim .tuple [(.comp [9] (.nm 9) (.slc (.var 8) (.con (.int 1)) .abs) [] (.call 38 [(.var 1), (.var 9)]))]))),
    .exp (.app 5 (.bin .Add (.tup [(.var 7)]) (.bin .Mult (.tup [(.var 3)]) (.prim .len [(.var 8)])))),
    .exp (.app 5 (.bin .Add (.lst [(.var 7)]) (.comp [9] (.nm 9) (.var 8) [] (.call 38 [(.var 1), (.var 9)]))))],
    .own 5 (.bin .Add (.var 5) (.lst [(.con (.int 0)), (.con (.int 7)), (.bin .Pow (.con (.int 10)) (.con (.int 39))), (.neg (.con (.int 1))), (.con (.bool true)), (.con (.bool false)), (.con .none), (.con (.str "0")), (.tup [(.con (.int 0))]), (.lst [(.con (.int 0))]), (.tup []), (.tup [(.var 2)]), (.dic [] []), (.tup [(.con (.str "mark"))]), (.con (.str "mark")), (.tup [(.con .none)])])),
    .ret (.bin .Add (.var 5) (.lst [(.tup [(.var 3)]), (.ite (.prim (.isi "tuple") [(.var 3)]) (.prim .list [(.var 3)]) (.lst [(.var 3)])), (.tup [(.lst [(.con (.str "a"))])]), (.tup [(.dic [] [])]), (.tup [(.tup [])])]))]⟩
def ix__law_things : Nat := 43
def fd_need_tree : FD := ⟨[.fz, .fz, .fz], [.fz, .fz, .fz], false,
   [.exp (.call 22 [(.var 0), (.var 1)]),
    .ite (.not (.call 36 [(.var 0), (.var 1), (.var 2)])) [.nev] []]⟩
def ix_need_tree : Nat := 44
def fd_size_in : FD := ⟨[.fz], [.fz, .fz, .ow, .fz], false,
   [.set (.nm 1) (.con (.int 0)),
    .own 2 (.lst [(.var 0)]),
    .whl [3] (.cmp .NotEq (.var 2) (.lst [])) [.set (.nm 3) (.pop 2),
    .aug 1 .Add (.con (.int 1)),
    .ite (.prim (.isi "tuple") [(.var 3)]) [.exp (.ext 2 (.slc (.var 3) (.con (.int 1)) .abs))] []],
    .ret (.var 1)]⟩
def ix_size_in : Nat := 45
def fd_size_of : FD := ⟨[.fz, .fz, .fz], [.fz, .fz, .fz], false,
   [.exp (.call 44 [(.var 0), (.var 1), (.var 2)]),
    .ret (.call 45 [(.var 2)])]⟩
def ix_size_of : Nat := 46
def fd_least_of : FD := ⟨[.fz, .fz], [.fz, .fz, .fz, .fz, .fz, .fz, .fz], false,
   [.ite (.cmp .Eq (.var 1) (.con (.str "mark"))) [.ret (.con (.int 0))] [],
    .set (.nm 2) (.call 3 [(.var 0)]),
    .set (.nm 3) (.comp [4, 5] (.tup [(.nm 4), (.nm 5)]) (.call 24 [(.var 0), (.var 1)]) [(.cmp .Eq (.bin .Add (.con (.int 1)) (.prim .sum [(.comp [6] (.nm 6) (.var 5) [] (.idx (.var 2) (.var 6)))])) (.idx (.var 2) (.var 1)))] (.tup [(.var 4), (.var 5)])),
    .set (.tup [(.nm 4), (.nm 5)]) (.idx (.var 3) (.con (.int 0))),
    .ret (.bin .Add (.tup [(.var 4)]) (.prim .tuple [(.comp [6] (.nm 6) (.var 5) [] (.call 47 [(.var 0), (.var 6)]))]))]⟩
def ix_least_of : Nat := 47
def fd_least_tree : FD := ⟨[.fz, .fz], [.fz, .fz], false,
   [.exp (.call 22 [(.var 0), (.var 1)]),
    .ret (.call 47 [(.var 0), (.var 1)])]⟩
def ix_least_tree : Nat := 48
def fd_is_ahead : FD := ⟨[.fz, .fz, .fz, .fz], [.fz, .fz, .fz, .fz], false,
   [.exp (.call 44 [(.var 0), (.var 1), (.var 2)]),
    .exp (.call 44 [(.var 0), (.var 1), (.var 3)]),
    .ret (.call 50 [(.var 0), (.var 2), (.var 3)])]⟩
def ix_is_ahead : Nat := 51
def fd__law_otherwise : FD := ⟨[.io, .fz, .fz, .fz], [.io, .fz, .fz, .fz, .fz, .fz, .fz], false,
   [.ite (.prim (.isi "int") [(.var 3)]) [.ret (.bin .Add (.var 3) (.call 7 [(.var 0), (.con (.int 2))]))] [],
    .set (.nm 4) (.idx (.idx (.call 27 [(.var 1)]) (.idx (.var 3) (.con (.int 0)))) (.con (.int 1))),
    .ite (.or (.cmp .Eq (.var 4) (.tup [])) (.cmp .Eq (.call 7 [(.var 0), (.con (.int 4))]) (.con (.int 0)))) [.ret (.call 40 [(.var 0), (.var 1), (.var 2), (.bin .Add (.call 39 [(.var 3)]) (.call 7 [(.var 0), (.con (.int 2))]))])] [],
    .set (.nm 5) (.call 7 [(.var 0), (.prim .len [(.var 4)])]),
    .set (.nm 6) (.call 53 [(.var 0), (.var 1), (.idx (.var 4) (.var 5)), (.idx (.var 3) (.bin .Add (.con (.int 1)) (.var 5)))]),
    .ret (.bin .Add (.bin .Add (.slc (.var 3) .abs (.bin .Add (.con (.int 1)) (.var 5))) (.tup [(.var 6)])) (.slc (.var 3) (.bin .Add (.con (.int 2)) (.var 5)) .abs))]⟩
def ix__law_otherwise : Nat := 53
def fd__law_some : FD := ⟨[.io, .fz, .fz], [.io, .fz, .fz, .ow, .fz], false,
   [.own 3 (.lst [(.call 40 [(.var 0), (.var 1), (.var 2), (.bin .Add (.con (.int 1)) (.call 7 [(.var 0), (.con (.int 14))]))]), (.call 38 [(.var 1), (.var 2)])]),
    .for_ [4] (.nm 4) (.rng [(.con (.int 5))]) [.exp (.app 3 (.call 53 [(.var 0), (.var 1), (.var 2), (.idx (.var 3) (.call 7 [(.var 0), (.prim .len [(.var 3)])]))]))],
    .ret (.var 3)]⟩
def ix__law_some : Nat := 54
def fd_is_within : FD := ⟨[.fz, .fz, .fz], [.fz, .fz, .fz], false,
   [.ret (.and (.call 34 [(.var 0)]) (.chn .LtE .LtE (.var 1) (.var 0) (.var 2)))]⟩
def ix_is_within : Nat := 55
def fd_part_in : FD := ⟨[.fz, .fz, .fz, .fz], [.fz, .fz, .fz, .fz], false,
   [.ite (.cmp .Eq (.idx (.var 3) (.con (.int 0))) (.var 1)) [.ret (.idx (.var 3) (.bin .Add (.con (.int 1)) (.var 2)))] [],
    .ret (.call 47 [(.var 0), (.idx (.idx (.idx (.call 19 [(.var 0)]) (.var 1)) (.con (.int 1))) (.var 2))])]⟩
def ix_part_in : Nat := 56
def fd_part_of : FD := ⟨[.fz, .fz, .fz, .fz], [.fz, .fz, .fz, .fz, .fz, .fz], false,
   [.exp (.call 23 [(.var 0), (.var 1)]),
    .set (.tup [(.nm 4), (.nm 5)]) (.idx (.call 19 [(.var 0)]) (.var 1)),
    .ite (.not (.call 55 [(.var 2), (.con (.int 0)), (.bin .Sub (.prim .len [(.var 5)]) (.con (.int 1)))])) [.nev] [],
    .exp (.call 44 [(.var 0), (.var 4), (.var 3)]),
    .ret (.call 56 [(.var 0), (.var 1), (.var 2), (.var 3)])]⟩
def ix_part_of : Nat := 57
def fd__law_due : FD := ⟨[.fz, .fz, .fz, .fz], [.fz, .fz, .fz, .fz], false,
   [.ite (.cmp .Eq (.idx (.var 3) (.con (.int 0))) (.var 1)) [.ret (.idx (.var 3) (.bin .Add (.con (.int 1)) (.var 2)))] [],
    .ret (.call 38 [(.var 0), (.idx (.idx (.idx (.call 27 [(.var 0)]) (.var 1)) (.con (.int 1))) (.var 2))])]⟩
def ix__law_due : Nat := 58
def fd__law_by : FD := ⟨[.io, .fz, .fz], [.io, .fz, .fz, .fz, .fz], false,
   [.set (.nm 3) (.idx (.idx (.call 27 [(.var 1)]) (.var 2)) (.con (.int 1))),
    .ret (.bin .Add (.tup [(.var 2)]) (.prim .tuple [(.comp [4] (.nm 4) (.var 3) [] (.call 40 [(.var 0), (.var 1), (.var 4), (.bin .Add (.con (.int 1)) (.call 7 [(.var 0), (.con (.int 6))]))]))]))]⟩
def ix__law_by : Nat := 59
def fd__law_products : FD := ⟨[.fz], [.fz, .fz, .fz, .ow, .fz, .fz], false,
   [.set (.nm 1) (.lst [(.tup [])]),
    .for_ [2, 3, 4] (.nm 2) (.var 0) [.own 3 (.lst []),
    .for_ [4] (.nm 4) (.var 1) [.exp (.ext 3 (.comp [5] (.nm 5) (.var 2) [] (.bin .Add (.var 4) (.tup [(.var 5)]))))],
    .set (.nm 1) (.slc (.var 3) .abs (.con (.int 300)))],
    .ret (.var 1)]⟩
def ix__law_products : Nat := 60
def fd__law_splits : FD := ⟨[.fz, .fz], [.fz, .fz, .ow, .fz, .fz], false,
   [.ite (.cmp .Eq (.var 1) (.con (.int 0))) [.ret (.bin .Mult (.lst [(.tup [])]) (.prim .int [(.cmp .Eq (.var 0) (.con (.int 0)))]))] [],
    .own 2 (.lst []),
    .for_ [3] (.nm 3) (.rng [(.con (.int 1)), (.bin .Add (.var 0) (.con (.int 1)))]) [.exp (.ext 2 (.comp [4] (.nm 4) (.call 61 [(.bin .Sub (.var 0) (.var 3)), (.bin .Sub (.var 1) (.con (.int 1)))]) [] (.bin .Add (.tup [(.var 3)]) (.var 4))))],
    .ret (.var 2)]⟩
def ix__law_splits : Nat := 61
def fd__law_ordered : FD := ⟨[.fz, .fz, .fz], [.fz, .fz, .fz, .fz, .fz, .fz], false,
   [.set (.nm 3) (.lst []),
    .for_ [4, 5] (.nm 4) (.var 2) [.set (.nm 5) (.con (.int 0)),
    .whl [] (.and (.cmp .Lt (.var 5) (.prim .len [(.var 3)])) (.call 51 [(.var 0), (.var 1), (.idx (.var 3) (.var 5)), (.var 4)])) [.set (.nm 5) (.bin .Add (.var 5) (.con (.int 1)))],
    .set (.nm 3) (.bin .Add (.bin .Add (.slc (.var 3) .abs (.var 5)) (.lst [(.var 4)])) (.slc (.var 3) (.var 5) .abs))],
    .ret (.var 3)]⟩
def ix__law_ordered : Nat := 63
def fd__law_ends_right : FD := ⟨[.fz, .fz, .fz, .fz], [.fz, .fz, .fz, .fz, .fz, .fz], false,
   [.set (.nm 4) (.comp [5] (.nm 5) (.rng [(.con (.int 1)), (.bin .Add (.var 3) (.con (.int 1)))]) [(.cmp .NotEq (.idx (.var 2) (.tup [(.var 1), (.var 5)])) (.lst []))] (.var 5)),
    .ite (.and (.cmp .NotEq (.var 4) (.lst [])) (.cmp .NotEq (.prim .min [(.var 4)]) (.call 28 [(.var 0), (.var 1)]))) [.ret (.con (.bool false))] [],
    .ret (.or (.cmp .NotEq (.var 4) (.lst [])) (.cmp .Gt (.call 28 [(.var 0), (.var 1)]) (.var 3)))]⟩
def ix__law_ends_right : Nat := 66
end Mf

/-! the forms of the defs of law_k01_names_and_kinds_known, printed by mp.py -/
namespace Mq
open PySem PySem.Spec PyProof.Rows L2 Mp

def topOf (i : Nat) : Stmt := PySem.Challenge.pw_madesure_k01_names_and_kinds_known.main.body.getD i (.Pass ⟨0, 0, 0, 0⟩)
def fd_law : FD := ⟨[.fz], [.fz, .fz, .ow, .fz, .fz, .fz, .fz, .fz], false,
   [.for_ [1, 2, 3, 4, 6, 7] (.nm 1) (.rng [(.prim .max [(.con (.int 3)), (.prim .min [(.con (.int 12)), (.prim .len [(.var 0)])])])]) [.own 2 (.call 6 [(.var 0), (.var 1)]),
    .set (.nm 3) (.call 12 [(.var 2), (.lst [(.call 7 [(.var 2), (.con (.int 26))])])]),
    .ite (.cmp .IsNot (.call 5 [(.var 3)]) (.con (.bool true))) [.ret (.con (.bool false))] [],
    .for_ [4, 6, 7] (.nm 4) (.bin .Add (.bin .Add (.comp [5] (.nm 5) (.rng [(.con (.int 10))]) [] (.call 15 [(.var 2), (.var 3), (.con (.int 5))])) (.call 17 [])) (.lst [(.prim .list [(.var 3)]), (.var 3)])) [.set (.nm 6) (.prim .repr [(.var 4)]),
    .set (.nm 7) (.call 5 [(.var 4)]),
    .ite (.or (.not (.prim (.isi "bool") [(.var 7)])) (.or (.cmp .NotEq (.var 7) (.call 16 [(.var 4)])) (.cmp .NotEq (.prim .repr [(.var 4)]) (.var 6)))) [.ret (.con (.bool false))] []],
    .for_ [4, 7] (.nm 4) (.call 18 [(.var 2), (.var 3)]) [.set (.nm 7) (.call 1 [(.var 4)]),
    .ite (.or (.not (.prim (.isi "bool") [(.var 7)])) (.cmp .NotEq (.var 7) (.call 9 [(.var 4)]))) [.ret (.con (.bool false))] []]],
    .ret (.con (.bool true))]⟩
def dr_0 : DR := ⟨"law", topOf 27, ["script", "k", "pot", "kinds", "thing", "turn", "shown", "found"], ["script"], [(171, [1, 2, 3, 4, 6, 7]), (176, [4, 6, 7]), (181, [4, 7])], fd_law⟩
def dr_1 : DR := ⟨"is_name", topOf 8, ["thing", "sign"], ["thing"], [], Mf.fd_is_name⟩
def dr_2 : DR := ⟨"are_pairs", topOf 9, ["thing", "most", "pair"], ["thing", "most"], [(16, [2])], Mf.fd_are_pairs⟩
def dr_3 : DR := ⟨"least_sizes", topOf 10, ["kinds", "found", "turn", "kind", "makers", "some", "part", "maker", "parts"], ["kinds"], [(22, [2, 3, 4, 5]), (23, [3, 4, 5])], Mf.fd_least_sizes⟩
def dr_4 : DR := ⟨"are_parts", topOf 11, ["thing", "some", "part"], ["thing", "some"], [], Mf.fd_are_parts⟩
def dr_5 : DR := ⟨"is_kinds", topOf 12, ["thing", "kind", "makers", "some", "rows", "row", "maker", "parts"], ["thing"], [], Mf.fd_is_kinds⟩
def dr_6 : DR := ⟨"_law_pot", topOf 14, ["script", "k", "cell"], ["script", "k"], [], Mf.fd__law_pot⟩
def dr_7 : DR := ⟨"_law_take", topOf 15, ["pot", "many", "found", "one", "other"], ["pot", "many"], [], Mf.fd__law_take⟩
def dr_8 : DR := ⟨"_law_words", topOf 16, [], [], [], Mf.fd__law_words⟩
def dr_9 : DR := ⟨"_law_is_name", topOf 17, ["thing", "sign"], ["thing"], [], Mf.fd__law_is_name⟩
def dr_10 : DR := ⟨"_law_word", topOf 18, ["pot", "book", "letters", "word", "turn"], ["pot", "book"], [(65, [4])], Mf.fd__law_word⟩
def dr_11 : DR := ⟨"_law_row", topOf 19, ["pot", "book", "some", "most", "parts", "k"], ["pot", "book", "some", "most"], [], Mf.fd__law_row⟩
def dr_12 : DR := ⟨"_law_kinds", topOf 20, ["pot", "book", "way", "words", "k", "one", "other", "a", "b", "c", "d", "e", "some", "found", "rows", "turn", "by"], ["pot", "book"], [(85, [4, 14, 15, 16]), (87, [15])], Mf.fd__law_kinds⟩
def dr_13 : DR := ⟨"_law_sizes", topOf 21, ["kinds", "found", "turn", "kind", "rows", "some", "maker", "parts", "part"], ["kinds"], [(95, [2, 3, 4, 5]), (96, [3, 4, 5])], Mf.fd__law_sizes⟩
def dr_14 : DR := ⟨"_law_odd", topOf 22, ["pot"], ["pot"], [], Mf.fd__law_odd⟩
def dr_15 : DR := ⟨"_law_bent", topOf 23, ["pot", "thing", "deep", "way", "odd", "at", "sign", "to", "some"], ["pot", "thing", "deep"], [], Mf.fd__law_bent⟩
def dr_16 : DR := ⟨"_law_are_kinds", topOf 24, ["thing", "found", "parts", "pair", "row", "kinds", "part"], ["thing"], [(126, [4]), (132, [4])], Mf.fd__law_are_kinds⟩
def dr_17 : DR := ⟨"_law_written", topOf 25, ["some", "rows", "k", "four", "word", "found", "later", "full", "sign"], [], [], Mf.fd__law_written⟩
def dr_18 : DR := ⟨"_law_texts", topOf 26, ["pot", "kinds", "signs", "text", "turn", "word"], ["pot", "kinds"], [(166, [4])], Mf.fd__law_texts⟩
def dsAll : List DR := [dr_0, dr_1, dr_2, dr_3, dr_4, dr_5, dr_6, dr_7, dr_8, dr_9, dr_10, dr_11, dr_12, dr_13, dr_14, dr_15, dr_16, dr_17, dr_18]
def dfAll : List (Str × Nat) := [("law", 0), ("is_name", 1), ("are_pairs", 2), ("least_sizes", 3), ("are_parts", 4), ("is_kinds", 5), ("_law_pot", 6), ("_law_take", 7), ("_law_words", 8), ("_law_is_name", 9), ("_law_word", 10), ("_law_row", 11), ("_law_kinds", 12), ("_law_sizes", 13), ("_law_odd", 14), ("_law_bent", 15), ("_law_are_kinds", 16), ("_law_written", 17), ("_law_texts", 18)]
def csAll : List (Str × D) := [("MARK", (.str "mark")), ("WORDS", (.tuple [(.str "mark"), (.str "part"), (.str "same"), (.str "test"), (.str "sum"), (.str "not"), (.str "both"), (.str "either")])), ("LETTERS", (.str "abcdefghijklmnopqrstuvwxyz")), ("MOST_LETTERS", (.int 8)), ("MOST_KINDS", (.int 5)), ("MOST_MAKERS", (.int 4)), ("MOST_PARTS", (.int 3))]
def frAll (g : Nat) : Bool := ((dsAll[g]?).map fun d => d.fd.fr).getD false
theorem ok_0 : dr_0.Ok dfAll csAll frAll := ⟨by kernel_rfl, by kernel_rfl⟩
theorem ok_1 : dr_1.Ok dfAll csAll frAll := ⟨by kernel_rfl, by kernel_rfl⟩
theorem ok_2 : dr_2.Ok dfAll csAll frAll := ⟨by kernel_rfl, by kernel_rfl⟩
theorem ok_3 : dr_3.Ok dfAll csAll frAll := ⟨by kernel_rfl, by kernel_rfl⟩
theorem ok_4 : dr_4.Ok dfAll csAll frAll := ⟨by kernel_rfl, by kernel_rfl⟩
theorem ok_5 : dr_5.Ok dfAll csAll frAll := ⟨by kernel_rfl, by kernel_rfl⟩
theorem ok_6 : dr_6.Ok dfAll csAll frAll := ⟨by kernel_rfl, by kernel_rfl⟩
theorem ok_7 : dr_7.Ok dfAll csAll frAll := ⟨by kernel_rfl, by kernel_rfl⟩
theorem ok_8 : dr_8.Ok dfAll csAll frAll := ⟨by kernel_rfl, by kernel_rfl⟩
theorem ok_9 : dr_9.Ok dfAll csAll frAll := ⟨by kernel_rfl, by kernel_rfl⟩
theorem ok_10 : dr_10.Ok dfAll csAll frAll := ⟨by kernel_rfl, by kernel_rfl⟩
theorem ok_11 : dr_11.Ok dfAll csAll frAll := ⟨by kernel_rfl, by kernel_rfl⟩
theorem ok_12 : dr_12.Ok dfAll csAll frAll := ⟨by kernel_rfl, by kernel_rfl⟩
theorem ok_13 : dr_13.Ok dfAll csAll frAll := ⟨by kernel_rfl, by kernel_rfl⟩
theorem ok_14 : dr_14.Ok dfAll csAll frAll := ⟨by kernel_rfl, by kernel_rfl⟩
theorem ok_15 : dr_15.Ok dfAll csAll frAll := ⟨by kernel_rfl, by kernel_rfl⟩
theorem ok_16 : dr_16.Ok dfAll csAll frAll := ⟨by kernel_rfl, by kernel_rfl⟩
theorem ok_17 : dr_17.Ok dfAll csAll frAll := ⟨by kernel_rfl, by kernel_rfl⟩
theorem ok_18 : dr_18.Ok dfAll csAll frAll := ⟨by kernel_rfl, by kernel_rfl⟩
/-- the law, as the machine runs it -/
def lawRun (ns : List Int) : Option (D × List D) := run (dsAll.map DR.fd) 1000 20 0 [intsD ns]
end Mq

/-! expressions that change nothing: what they are worth -/
namespace Mh
open PySem L2 Mp

/-- what a call is worth -/
def fnC (C : Nat → List D → Option (D × List D)) (f : Nat) (ds : List D) : Option D := (C f ds).bind fun q => if q.2.length = ds.length then some q.1 else none
structure PV where
  e : Mp.Env → Option D
  t : Mp.Env → Option Bool
  i : Mp.Env → Option (List D)
  v : Option Nat
  p : Mp.Env → Option (Option Int)
def PV.o (w : PV) (r : Mp.Env) : Option D := match w.v with
  | some i => Mp.get r i
  | none => w.e r
def bD : D → Option Bool
  | .bool b => some b
  | _ => none
def iD : D → Option Int
  | .int i => some i
  | _ => none
def itsD : D → Option (List D)
  | .list ds => some ds
  | .tuple ds => some ds
  | .str x => if x.length ≤ sizeLine then some (x.cps.toList.map fun c => .str ⟨#[c]⟩) else none
  | .dict kvs => some (kvs.map (·.1))
  | _ => none
def lD : D → Option (List D)
  | .list ds => some ds
  | _ => none
def ppl (e : Mp.Env → Option D) : PV := { e := e, t := fun r => (e r).bind bD, i := fun r => (e r).bind itsD, v := none, p := fun r => (e r).bind fun d => (iD d).map some }
def pvar (c : Ec) (i : Nat) : PV :=
  let e : Mp.Env → Option D := fun r => if c.mode i = .fz then Mp.get r i else none
  { e := e, t := fun r => (e r).bind bD, i := fun r => (Mp.get r i).bind fun d => if c.mode i = .fz then itsD d else lD d, v := some i, p := fun r => (e r).bind fun d => (iD d).map some }
def pes : List PV → Mp.Env → Option (List D)
  | [], _ => some []
  | w :: ws, r => (w.e r).bind fun d => (pes ws r).map (d :: ·)
def pos : List PV → Mp.Env → Option (List D)
  | [], _ => some []
  | w :: ws, r => (w.o r).bind fun d => (pos ws r).map (d :: ·)
def pts : List PV → Mp.Env → Option Bool
  | [], _ => some true
  | [w], r => w.t r
  | _, _ => none
def sDof : D → Option Str
  | .str s => some s
  | _ => none
def pkv : List PV → List PV → Mp.Env → Option (List (Str × D))
  | [], [], _ => some []
  | k :: ks, v :: vs, r => (k.e r).bind fun a => (v.e r).bind fun b => (sDof a).bind fun x => (pkv ks vs r).map ((x, b) :: ·)
  | _, _, _ => none
mutual
def tgIn (vs : List Nat) : Tg → Bool
  | .nm i => vs.contains i
  | .tup ts => tgsIn vs ts
def tgsIn (vs : List Nat) : List Tg → Bool
  | [] => true
  | t :: ts => tgIn vs t && tgsIn vs ts
end
def outV (vs : List Nat) : Option Nat → Bool
  | none => true
  | some k => !vs.contains k
/-- a row gone through, each item left out or made another one -/
def fmM {α β : Type} (f : α → Option (Option β)) : List α → Option (List β)
  | [] => some []
  | x :: xs => (f x).bind fun o => (fmM f xs).map fun ys => match o with
    | some y => y :: ys
    | none => ys
/-- .. made some -/
def fcM {α β : Type} (f : α → Option (List β)) : List α → Option (List β)
  | [] => some []
  | x :: xs => (f x).bind fun o => (fcM f xs).map fun ys => o ++ ys
def guardL {β : Type} (l : List β) : Option (List β) := if l.length ≤ sizeLine then some l else none
def pcomp (c : Ec) (vs : List Nat) (tg : Tg) (ifs : List PV) (elt : PV) (r : Mp.Env) (d : D) : Option (Option D) :=
  (Mp.assign c tg d (Mp.wipe r vs)).bind fun r1 => (pts ifs r1).bind fun b => if b then (elt.e r1).map some else some none
def pdcomp (c : Ec) (vs : List Nat) (tg : Tg) (k v : PV) (r : Mp.Env) (d : D) : Option (Option (Str × D)) :=
  (Mp.assign c tg d (Mp.wipe r vs)).bind fun r1 => (k.e r1).bind fun a => (v.e r1).bind fun b => (sDof a).map fun x => some (x, b)
def rngP : List PV → Mp.Env → Option (List D)
  | [a], r => (a.e r).bind fun x => (iD x).bind fun j => if small62 j then some (intRange 0 j.toNat) else none
  | [a, b], r => (a.e r).bind fun x => (b.e r).bind fun y => (iD x).bind fun i => (iD y).bind fun j => if small62 i && small62 j then some (intRange i (j - i).toNat) else none
  | _, _ => none
def dgetP (x : D) (k : D) (z : D) : Option D := match x, k with
  | .dict kvs, .str k => some ((Mp.dget kvs k).getD z)
  | _, _ => none
mutual
def pv (c : Ec) : E → PV
  | .con d => ppl fun _ => some d
  | .var i => pvar c i
  | .bin o a b => ppl fun r => ((pv c a).o r).bind fun x => ((pv c b).o r).bind fun y => Mp.bin o x y
  | .neg a => ppl fun r => ((pv c a).e r).bind fun x => (iD x).map fun i => .int (-i)
  | .not a => { ppl (fun r => ((pv c a).e r).bind fun x => (bD x).map fun b => .bool (!b)) with t := fun r => ((pv c a).t r).map fun b => !b }
  | .and a b => { ppl (fun r => ((pv c a).e r).bind fun x => (bD x).bind fun q => if q then (pv c b).e r else some (.bool false)) with t := fun r => ((pv c a).t r).bind fun q => if q then (pv c b).t r else some false }
  | .or a b => { ppl (fun r => ((pv c a).e r).bind fun x => (bD x).bind fun q => if q then some (.bool true) else (pv c b).e r) with t := fun r => ((pv c a).t r).bind fun q => if q then some true else (pv c b).t r }
  | .cmp o a b => ppl fun r => ((pv c a).o r).bind fun x => ((pv c b).o r).bind fun y => Mp.cmp o x y
  | .chn o o' a b d => ppl fun r => ((pv c a).e r).bind fun x => ((pv c b).e r).bind fun y => (Mp.cmp o x y).bind fun z => (bD z).bind fun q => if q then ((pv c d).e r).bind fun u => Mp.cmp o' y u else some (.bool false)
  | .ite t a b => { ppl (fun r => ((pv c t).t r).bind fun q => if q then (pv c a).e r else (pv c b).e r) with t := fun r => ((pv c t).t r).bind fun q => if q then (pv c a).t r else (pv c b).t r }
  | .call f as => ppl fun r => if c.fm f = List.replicate as.length Md.fz then (pes (pvs c as) r).bind fun ds => fnC c.C f ds else none
  | .prim p as => ppl fun r => (pos (pvs c as) r).bind fun ds => Mp.prim p ds
  | .idx a b => ppl fun r => ((pv c a).o r).bind fun x => ((pv c b).e r).bind fun y => Mp.idx x y
  | .slc a lo hi => ppl fun r => ((pv c a).o r).bind fun x => ((pv c lo).p r).bind fun l => ((pv c hi).p r).bind fun h => Mp.slice x l h
  | .rev a => ppl fun r => ((pv c a).o r).bind fun x => Mp.revD x
  | .abs => { ppl (fun _ => none) with p := fun _ => some none }
  | .tup es => ppl fun r => (pes (pvs c es) r).bind fun ds => (guardL ds).map .tuple
  | .lst es => ppl fun r => (pes (pvs c es) r).bind fun ds => (guardL ds).map .list
  | .dic ks vs => ppl fun r => (pkv (pvs c ks) (pvs c vs) r).bind fun ps => if ps.length ≤ 15 then some (.dict (mkDict ps)) else none
  | .comp vs tg src ifs elt => ppl fun r => if outV vs (pv c src).v && tgIn vs tg then ((pv c src).i r).bind fun ds => (fmM (pcomp c vs tg (pvs c ifs) (pv c elt) r) ds).bind fun ys => (guardL ys).map .list else none
  | .comp2 vs vs1 tg src tg1 src1 elt => ppl fun r => if outV vs (pv c src).v && tgIn vs tg && outV vs1 (pv c src1).v && tgIn vs1 tg1 && vs1.all vs.contains then
      ((pv c src).i r).bind fun ds => (fcM (fun d => (Mp.assign c tg d (Mp.wipe r vs)).bind fun r1 => ((pv c src1).i r1).bind fun es => fmM (pcomp c vs1 tg1 [] (pv c elt) r1) es) ds).bind fun ys => (guardL ys).map .list else none
  | .dcomp vs tg src k v => ppl fun r => if outV vs (pv c src).v && tgIn vs tg then ((pv c src).i r).bind fun ds => (fmM (pdcomp c vs tg (pv c k) (pv c v) r) ds).bind fun ys => (guardL ys).map fun ys => .dict (mkDict ys) else none
  | .dcomp2 vs vs1 tg src tg1 src1 k v => ppl fun r => if outV vs (pv c src).v && tgIn vs tg && outV vs1 (pv c src1).v && tgIn vs1 tg1 && vs1.all vs.contains then
      ((pv c src).i r).bind fun ds => (fcM (fun d => (Mp.assign c tg d (Mp.wipe r vs)).bind fun r1 => ((pv c src1).i r1).bind fun es => fmM (pdcomp c vs1 tg1 (pv c k) (pv c v) r1) es) ds).bind fun ys => (guardL ys).map fun ys => .dict (mkDict ys) else none
  | .rng as => { ppl (fun _ => none) with i := rngP (pvs c as) }
  | .enm a => { ppl (fun _ => none) with i := fun r => ((pv c a).e r).bind fun x => (lD x).map (enmD 0) }
  | .zip a b => { ppl (fun _ => none) with i := fun r => ((pv c a).e r).bind fun x => ((pv c b).e r).bind fun y => (seq? x).bind fun xs => (seq? y).map fun ys => zipD xs ys }
  | .itm _ => ppl fun _ => none
  | .app _ _ => ppl fun _ => none
  | .ext _ _ => ppl fun _ => none
  | .pop _ => ppl fun _ => none
  | .upd _ _ => ppl fun _ => none
  | .dget o k x => ppl fun r => ((pv c o).o r).bind fun x0 => ((pv c k).e r).bind fun k0 => ((pv c x).e r).bind fun z => dgetP x0 k0 z
def pvs (c : Ec) : List E → List PV
  | [] => []
  | e :: es => pv c e :: pvs c es
end
end Mh

/-! .. and that the machine tells just that -/
namespace Mh
open PySem L2 Mp

/-- alike outside some slots -/
def Ag (vs : List Nat) (r r' : Mp.Env) : Prop := r'.length = r.length ∧ ∀ k, k ∉ vs → r'[k]? = r[k]?
theorem Ag.refl {vs : List Nat} {r : Mp.Env} : Ag vs r r := ⟨rfl, fun _ _ => rfl⟩
theorem Ag.trans {vs : List Nat} {r r' r'' : Mp.Env} (h : Ag vs r r') (h' : Ag vs r' r'') : Ag vs r r'' := ⟨h'.1.trans h.1, fun k hk => (h'.2 k hk).trans (h.2 k hk)⟩
theorem Ag.mono {vs vs' : List Nat} {r r' : Mp.Env} (h : Ag vs r r') (hs : ∀ k ∈ vs, k ∈ vs') : Ag vs' r r' := ⟨h.1, fun k hk => h.2 k fun z => hk (hs k z)⟩
theorem Ag.get {vs : List Nat} {r r' : Mp.Env} (h : Ag vs r r') {k : Nat} (hk : k ∉ vs) : Mp.get r' k = Mp.get r k := by
  unfold Mp.get
  rw [h.2 k hk]
theorem wipe_len (r : Mp.Env) : ∀ vs, (Mp.wipe r vs).length = r.length
  | [] => rfl
  | v :: vs => by rw [Mp.wipe, List.length_set, wipe_len r vs]
theorem wipe_get (r : Mp.Env) : ∀ (vs : List Nat) (k : Nat), (Mp.wipe r vs)[k]? = if k ∈ vs ∧ k < r.length then some none else r[k]?
  | [], k => by simp [Mp.wipe]
  | v :: vs, k => by
    rw [Mp.wipe, List.getElem?_set, wipe_len, wipe_get r vs k]
    by_cases hv : v = k
    · subst hv
      by_cases hl : v < r.length
      · simp [hl]
      · simp [hl]
    · simp [hv, Ne.symm hv]
theorem wipe_ag (r : Mp.Env) (vs : List Nat) : Ag vs r (Mp.wipe r vs) := ⟨wipe_len r vs, fun k hk => by rw [wipe_get, if_neg fun z => hk z.1]⟩
theorem Ag.wipe {vs : List Nat} {r r' : Mp.Env} (h : Ag vs r r') : Mp.wipe r' vs = Mp.wipe r vs := by
  apply List.ext_getElem?
  intro k
  rw [wipe_get, wipe_get, h.1]
  by_cases hk : k ∈ vs
  · by_cases hl : k < r.length
    · rw [if_pos ⟨hk, hl⟩, if_pos ⟨hk, hl⟩]
    · rw [if_neg fun z => hl z.2, if_neg fun z => hl z.2, List.getElem?_eq_none (by rw [h.1]; omega), List.getElem?_eq_none (by omega)]
  · rw [if_neg fun z => hk z.1, if_neg fun z => hk z.1, h.2 k hk]
theorem wipe_wipe (r : Mp.Env) (vs : List Nat) : Mp.wipe (Mp.wipe r vs) vs = Mp.wipe r vs := (wipe_ag r vs).wipe
theorem back_len (r r' : Mp.Env) : ∀ vs, (Mp.back r r' vs).length = r'.length
  | [] => rfl
  | v :: vs => by rw [Mp.back, List.length_set, back_len r r' vs]
theorem back_get (r r' : Mp.Env) : ∀ (vs : List Nat) (k : Nat), (Mp.back r r' vs)[k]? = if k ∈ vs ∧ k < r'.length then some (Mp.get r k) else r'[k]?
  | [], k => by simp [Mp.back]
  | v :: vs, k => by
    rw [Mp.back, List.getElem?_set, back_len, back_get r r' vs k]
    by_cases hv : v = k
    · subst hv
      by_cases hl : v < r'.length
      · simp [hl]
      · simp [hl]
    · simp [hv, Ne.symm hv]
theorem back_wipe {r : Mp.Env} {vs : List Nat} : Mp.back r (Mp.wipe r vs) vs = r := by
  apply List.ext_getElem?
  intro k
  rw [back_get, wipe_get, wipe_len]
  by_cases hk : k ∈ vs ∧ k < r.length
  · rw [if_pos hk]
    unfold Mp.get
    rw [List.getElem?_eq_getElem hk.2]
  · rw [if_neg hk, if_neg hk]
theorem put_ag {vs : List Nat} {r : Mp.Env} {i : Nat} {d : D} (h : i ∈ vs) : Ag vs r (Mp.put r i d) := ⟨by simp [Mp.put], fun k hk => by
  unfold Mp.put
  rw [List.getElem?_set, if_neg]
  rintro rfl
  exact hk h⟩
mutual
theorem assign_ag {c : Ec} {vs : List Nat} : ∀ (t : Tg) (d : D) (r r' : Mp.Env), tgIn vs t = true → Mp.assign c t d r = some r' → Ag vs r r'
  | .nm i, d, r, r', h, e => by
    simp only [tgIn, List.contains_iff_mem] at h
    unfold Mp.assign at e
    split at e
    · cases e
      exact put_ag h
    · cases e
  | .tup ts, d, r, r', h, e => by
    simp only [tgIn] at h
    unfold Mp.assign at e
    cases hd : seq? d with
    | none => rw [hd] at e; cases e
    | some ds => rw [hd] at e; exact assigns_ag ts ds r r' h e
theorem assigns_ag {c : Ec} {vs : List Nat} : ∀ (ts : List Tg) (ds : List D) (r r' : Mp.Env), tgsIn vs ts = true → Mp.assign.go c ts ds r = some r' → Ag vs r r'
  | [], [], r, r', _, e => by unfold Mp.assign.go at e; cases e; exact .refl
  | [], _ :: _, r, r', _, e => by unfold Mp.assign.go at e; cases e
  | _ :: _, [], r, r', _, e => by unfold Mp.assign.go at e; cases e
  | t :: ts, d :: ds, r, r', h, e => by
    simp only [tgsIn, Bool.and_eq_true] at h
    unfold Mp.assign.go at e
    cases h1 : Mp.assign c t d r with
    | none => rw [h1] at e; cases e
    | some r1 =>
      rw [h1] at e
      exact (assign_ag t d r r1 h.1 h1).trans (assigns_ag ts ds r1 r' h.2 e)
end

structure Snd (c : Ec) (w : View) (q : PV) : Prop where
  v : w.v = q.v
  e : ∀ r d, q.e r = some d → w.e r = some (d, r)
  t : ∀ r b, q.t r = some b → w.t r = some (b, r)
  i : ∀ r ds, q.i r = some ds → ∃ t : Its, w.i r = some (t, r) ∧ t.ds = ds ∧ (t.at_ = none ∨ ∃ k, q.v = some k ∧ c.mode k ≠ .fz ∧ t.at_ = some (k, ds) ∧ Mp.get r k = some (.list ds))
  p : ∀ r x, q.p r = some x → w.p r = some (x, r)
/-- of expressions that are no names -/
theorem Snd.mk' {c : Ec} {e : Mp.Env → Option (D × Mp.Env)} {f : Mp.Env → Option D} (h : ∀ r d, f r = some d → e r = some (d, r)) : Snd c (plainV e) (ppl f) := by
  refine ⟨rfl, h, fun r b hb => ?_, fun r ds hd => ?_, fun r x hx => ?_⟩
  · simp only [ppl] at hb
    cases hf : f r with
    | none => rw [hf] at hb; cases hb
    | some d =>
      rw [hf] at hb
      show asT e r = _
      unfold asT
      rw [h r d hf]
      cases d <;> simp [bD] at hb ⊢
      exact hb
  · simp only [ppl] at hd
    cases hf : f r with
    | none => rw [hf] at hd; cases hd
    | some d =>
      rw [hf] at hd
      refine ⟨⟨ds, none⟩, ?_, rfl, .inl rfl⟩
      show asI (fun r => (e r).map fun p => (Op.val p.1, p.2)) r = _
      unfold asI
      simp only [h r d hf, Option.map_some, Option.bind_some]
      cases d <;> simp [itsD, itsOf] at hd ⊢
      all_goals exact hd
  · simp only [ppl] at hx
    cases hf : f r with
    | none => rw [hf] at hx; cases hx
    | some d =>
      rw [hf] at hx
      show asP e r = _
      unfold asP
      rw [h r d hf]
      cases d <;> simp [iD] at hx ⊢
      exact hx
theorem Snd.o {c : Ec} {w : View} {q : PV} (h : Snd c w q) {r : Mp.Env} {d : D} (hd : q.o r = some d) : ∃ op, w.o c r = some (op, r) ∧ op.res r = some d := by
  unfold PV.o at hd
  unfold View.o
  rw [h.v]
  cases hq : q.v with
  | none =>
    rw [hq] at hd
    exact ⟨.val d, by simp only [h.e r d hd, Option.map_some], rfl⟩
  | some i =>
    rw [hq] at hd
    simp only at hd ⊢
    rw [hd]
    by_cases hm : c.mode i = .fz
    · exact ⟨.val d, by simp [hm], rfl⟩
    · exact ⟨.by_ i, by simp [hm], hd⟩
theorem bind_some {α β : Type} {x : Option α} {f : α → Option β} {b : β} (h : x.bind f = some b) : ∃ a, x = some a ∧ f a = some b := Option.bind_eq_some_iff.mp h
theorem map_some' {α β : Type} {x : Option α} {f : α → β} {b : β} (h : x.map f = some b) : ∃ a, x = some a ∧ f a = b := Option.map_eq_some_iff.mp h
inductive Snds (c : Ec) : List View → List PV → Prop
  | nil : Snds c [] []
  | cons {w q ws qs} : Snd c w q → Snds c ws qs → Snds c (w :: ws) (q :: qs)
theorem Snds.pes {c : Ec} {ws : List View} {qs : List PV} (h : Snds c ws qs) {r : Mp.Env} : ∀ {ds}, pes qs r = some ds → esV ws r = some (ds, r) := by
  induction h with
  | nil => intro ds e; cases e; rfl
  | cons h1 h2 ih =>
    intro ds e
    obtain ⟨a, e1, e2⟩ := bind_some e
    obtain ⟨b, e3, e4⟩ := map_some' e2
    subst e4
    unfold esV
    rw [h1.e r a e1]
    simp only [Option.bind_some, ih e3, Option.map_some]
theorem Snds.pos {c : Ec} {ws : List View} {qs : List PV} (h : Snds c ws qs) {r : Mp.Env} : ∀ {ds}, pos qs r = some ds → ∃ os, osV c ws r = some (os, r) ∧ resAll r os = some ds := by
  induction h with
  | nil => intro ds e; cases e; exact ⟨[], rfl, rfl⟩
  | cons h1 h2 ih =>
    intro ds e
    obtain ⟨a, e1, e2⟩ := bind_some e
    obtain ⟨b, e3, e4⟩ := map_some' e2
    subst e4
    obtain ⟨op, o1, o2⟩ := h1.o e1
    obtain ⟨os, o3, o4⟩ := ih e3
    refine ⟨op :: os, ?_, ?_⟩
    · unfold osV
      rw [o1]
      simp only [Option.bind_some, o3, Option.map_some]
    · unfold resAll
      rw [o2]
      simp only [Option.bind_some, o4]
theorem Snds.pts {c : Ec} {ws : List View} {qs : List PV} (h : Snds c ws qs) {r : Mp.Env} {b : Bool} (e : pts qs r = some b) : tsV ws r = some (b, r) := by
  cases h with
  | nil => cases e; rfl
  | cons h1 h2 =>
    cases h2 with
    | nil => exact h1.t r b e
    | cons _ _ => cases e
theorem Snds.pkv {c : Ec} {ws : List View} {qs : List PV} (h : Snds c ws qs) {r : Mp.Env} : ∀ {vs : List View} {us : List PV}, Snds c vs us → ∀ {ps}, pkv qs us r = some ps → kvV ws vs r = some (ps, r) := by
  induction h with
  | nil =>
    intro vs us h' ps e
    cases h' with
    | nil => cases e; rfl
    | cons _ _ => cases e
  | cons h1 h2 ih =>
    intro vs us h' ps e
    cases h' with
    | nil => cases e
    | cons h3 h4 =>
      obtain ⟨a, e1, e2⟩ := bind_some e
      obtain ⟨b, e3, e4⟩ := bind_some e2
      obtain ⟨x, e5, e6⟩ := bind_some e4
      obtain ⟨q, e7, e8⟩ := map_some' e6
      subst e8
      unfold kvV
      rw [h1.e r a e1]
      simp only [Option.bind_some, h3.e r b e3]
      cases a <;> simp [sDof] at e5
      subst e5
      simp [ih h4 e7]
theorem Snds.asV {c : Ec} {ws : List View} {qs : List PV} (h : Snds c ws qs) {r : Mp.Env} : ∀ {ds}, Mh.pes qs r = some ds → Mp.asV c (List.replicate ws.length Md.fz) ws r = some (ds.map Ar.val, r) := by
  induction h with
  | nil => intro ds e; cases e; rfl
  | cons h1 h2 ih =>
    intro ds e
    obtain ⟨a, e1, e2⟩ := bind_some e
    obtain ⟨b, e3, e4⟩ := map_some' e2
    subst e4
    rw [List.length_cons, List.replicate_succ]
    unfold Mp.asV
    rw [h1.e r a e1]
    simp only [Option.bind_some, ih e3, Option.map_some, List.map_cons]
theorem Snds.len {c : Ec} {ws : List View} {qs : List PV} (h : Snds c ws qs) : qs.length = ws.length := by
  induction h with
  | nil => rfl
  | cons _ _ ih => simp [ih]
theorem refs_val : ∀ ds : List D, refsOf (ds.map Ar.val) = []
  | [] => rfl
  | _ :: ds => refs_val ds
theorem arAll_val (r : Mp.Env) : ∀ ds : List D, arAll r (ds.map Ar.val) = some ds
  | [] => rfl
  | d :: ds => by
    rw [List.map_cons, arAll]
    simp only [Ar.res, Option.bind_some, arAll_val r ds]
theorem outs_val (r : Mp.Env) : ∀ ds os : List D, outs r (ds.map Ar.val) os = r
  | [], _ => by simp [outs]
  | d :: ds, [] => by simp [outs]
  | d :: ds, o :: os => by rw [List.map_cons, outs]; exact outs_val r ds os; intro i; simp
theorem call_pure {c : Ec} {f : Nat} {ds : List D} {d : D} {r : Mp.Env} (h : fnC c.C f ds = some d)   : Mp.callWith c f (ds.map Ar.val) r = some (d, r) := by
  obtain ⟨q, e1, e2⟩ := bind_some h
  split at e2
  · cases e2
    unfold Mp.callWith
    rw [refs_val, if_pos List.nodup_nil, arAll_val]
    simp only [Option.bind_some, e1]
    rw [if_pos (by simpa using by assumption), outs_val]
    rfl
  · cases e2
end Mh

/-! .. comprehensions, and all expressions -/
namespace Mh
open PySem L2 Mp

theorem compL_pure {ok : Mp.Env → Bool} {w : Mp.Env → Mp.Env} {tg : D → Mp.Env → Option Mp.Env} {cond : Mp.Env → Option (Bool × Mp.Env)} {elt : Mp.Env → Option (D × Mp.Env)} (f : D → Option (Option D)) {R : Mp.Env} (hok : ok R = true)
    (h : ∀ d o, f d = some o → ∃ r1 b r2, tg d (w R) = some r1 ∧ cond r1 = some (b, r2) ∧ ((b = false ∧ o = none ∧ w r2 = R) ∨ (b = true ∧ ∃ y r3, o = some y ∧ elt r2 = some (y, r3) ∧ w r3 = R))) :
    ∀ (ds acc ys : List D), fmM f ds = some ys → acc.length + ys.length ≤ sizeLine → compL ok w tg cond elt ds acc R = some (acc ++ ys, R)
  | [], acc, ys, e, _ => by cases e; unfold compL; rw [if_pos hok]; simp
  | d :: ds, acc, ys, e, hl => by
    obtain ⟨o, e1, e2⟩ := bind_some e
    obtain ⟨zs, e3, e4⟩ := map_some' e2
    obtain ⟨r1, b, r2, a1, a2, a3⟩ := h d o e1
    unfold compL
    rw [if_pos hok, a1]
    simp only [Option.bind_some, a2]
    rcases a3 with ⟨rfl, rfl, a3⟩ | ⟨rfl, y, r3, rfl, a4, a3⟩
    · simp only [Bool.false_eq_true, if_false] at e4 ⊢
      subst e4
      rw [a3]
      exact compL_pure f hok h ds acc _ e3 hl
    · simp only [if_true] at e4 ⊢
      subst e4
      simp only [List.length_cons] at hl
      rw [a4]
      simp only [Option.bind_some]
      rw [if_pos (by omega), a3, compL_pure f hok h ds (acc ++ [y]) _ e3 (by simp; omega)]
      simp
theorem dput_len (k : Str) (v : D) : ∀ kvs : List (D × D), (Mp.dput kvs k v).length ≤ kvs.length + 1
  | [] => by simp [Mp.dput]
  | (.str x, u) :: r => by
    have := dput_len k v r
    rw [Mp.dput]
    split <;> simp <;> omega
  | (.none, u) :: r => by have := dput_len k v r; simp [Mp.dput]; omega
  | (.bool _, u) :: r => by have := dput_len k v r; simp [Mp.dput]; omega
  | (.int _, u) :: r => by have := dput_len k v r; simp [Mp.dput]; omega
  | (.list _, u) :: r => by have := dput_len k v r; simp [Mp.dput]; omega
  | (.tuple _, u) :: r => by have := dput_len k v r; simp [Mp.dput]; omega
  | (.dict _, u) :: r => by have := dput_len k v r; simp [Mp.dput]; omega
theorem dputs_len : ∀ (ps : List (Str × D)) (acc : List (D × D)), (ps.foldl (fun kvs p => Mp.dput kvs p.1 p.2) acc).length ≤ acc.length + ps.length
  | [], acc => by simp
  | p :: ps, acc => by
    have h1 := dput_len p.1 p.2 acc
    have h2 := dputs_len ps (Mp.dput acc p.1 p.2)
    simp only [List.foldl_cons, List.length_cons] at h2 ⊢
    omega
theorem dcompL_pure {ok : Mp.Env → Bool} {w : Mp.Env → Mp.Env} {tg : D → Mp.Env → Option Mp.Env} {kf vf : Mp.Env → Option (D × Mp.Env)} (f : D → Option (Option (Str × D))) {R : Mp.Env} (hok : ok R = true)
    (h : ∀ d o, f d = some o → ∃ r1 x r2 y r3, tg d (w R) = some r1 ∧ kf r1 = some (.str x, r2) ∧ vf r2 = some (y, r3) ∧ o = some (x, y) ∧ w r3 = R) :
    ∀ (ds : List D) (acc : List (D × D)) (ps : List (Str × D)), fmM f ds = some ps → acc.length + ps.length ≤ sizeLine → dcompL ok w tg kf vf ds acc R = some (ps.foldl (fun kvs p => Mp.dput kvs p.1 p.2) acc, R)
  | [], acc, ys, e, _ => by cases e; unfold dcompL; rw [if_pos hok]; simp
  | d :: ds, acc, ys, e, hl => by
    obtain ⟨o, e1, e2⟩ := bind_some e
    obtain ⟨zs, e3, e4⟩ := map_some' e2
    obtain ⟨r1, x, r2, y, r3, a1, a2, a3, rfl, a4⟩ := h d o e1
    simp only at e4
    subst e4
    simp only [List.length_cons] at hl
    unfold dcompL
    rw [if_pos hok, a1]
    simp only [Option.bind_some, a2, a3]
    have := dput_len x y acc
    rw [if_pos (by omega), a4, dcompL_pure f hok h ds (Mp.dput acc x y) _ e3 (by omega)]
    rfl
theorem comp2L_list {ok : Mp.Env → Bool} {w : Mp.Env → Mp.Env} {tg : D → Mp.Env → Option Mp.Env} {inner : List D → Mp.Env → Option (List D × Mp.Env)} (f : D → Option (List D)) {R : Mp.Env} (hok : ok R = true)
    (h : ∀ d ys, f d = some ys → ∃ r1, tg d (w R) = some r1 ∧ ∀ acc, acc.length + ys.length ≤ sizeLine → ∃ r2, inner acc r1 = some (acc ++ ys, r2) ∧ w r2 = R) :
    ∀ (ds acc out : List D), fcM f ds = some out → acc.length + out.length ≤ sizeLine → comp2L ok w tg inner ds acc R = some (acc ++ out, R)
  | [], acc, ys, e, _ => by cases e; unfold comp2L; rw [if_pos hok]; simp
  | d :: ds, acc, ys, e, hl => by
    obtain ⟨o, e1, e2⟩ := bind_some e
    obtain ⟨zs, e3, e4⟩ := map_some' e2
    subst e4
    obtain ⟨r1, a1, a2⟩ := h d o e1
    simp only [List.length_append] at hl
    obtain ⟨r2, a3, a4⟩ := a2 acc (by omega)
    unfold comp2L
    rw [if_pos hok, a1]
    simp only [Option.bind_some, a3]
    rw [a4, comp2L_list f hok h ds (acc ++ o) _ e3 (by simp; omega)]
    simp
theorem comp2L_dict {ok : Mp.Env → Bool} {w : Mp.Env → Mp.Env} {tg : D → Mp.Env → Option Mp.Env} {inner : List (D × D) → Mp.Env → Option (List (D × D) × Mp.Env)} (f : D → Option (List (Str × D))) {R : Mp.Env} (hok : ok R = true)
    (h : ∀ d ys, f d = some ys → ∃ r1, tg d (w R) = some r1 ∧ ∀ acc : List (D × D), acc.length + ys.length ≤ sizeLine → ∃ r2, inner acc r1 = some (ys.foldl (fun kvs p => Mp.dput kvs p.1 p.2) acc, r2) ∧ w r2 = R) :
    ∀ (ds : List D) (acc : List (D × D)) (out : List (Str × D)), fcM f ds = some out → acc.length + out.length ≤ sizeLine → comp2L ok w tg inner ds acc R = some (out.foldl (fun kvs p => Mp.dput kvs p.1 p.2) acc, R)
  | [], acc, ys, e, _ => by cases e; unfold comp2L; rw [if_pos hok]; simp
  | d :: ds, acc, ys, e, hl => by
    obtain ⟨o, e1, e2⟩ := bind_some e
    obtain ⟨zs, e3, e4⟩ := map_some' e2
    subst e4
    obtain ⟨r1, a1, a2⟩ := h d o e1
    simp only [List.length_append] at hl
    obtain ⟨r2, a3, a4⟩ := a2 acc (by omega)
    unfold comp2L
    rw [if_pos hok, a1]
    simp only [Option.bind_some, a3]
    have := dputs_len o acc
    rw [a4, comp2L_dict f hok h ds _ _ e3 (by omega)]
    simp
theorem Snd.ok {c : Ec} {w : View} {q : PV} (h : Snd c w q) {r : Mp.Env} {ds : List D} (hi : q.i r = some ds) {vs : List Nat} (ho : outV vs q.v = true) {R : Mp.Env} (ag : Ag vs r R) :
    ∃ t : Its, w.i r = some (t, r) ∧ t.ds = ds ∧ t.ok R = true := by
  obtain ⟨t, e1, e2, e3⟩ := h.i r ds hi
  refine ⟨t, e1, e2, ?_⟩
  unfold Its.ok
  rcases e3 with e3 | ⟨k, k1, k2, k3, k4⟩
  · rw [e3]
  · rw [k3]
    rw [k1] at ho
    simp only [outV, Bool.not_eq_true', List.contains_eq_mem, decide_eq_false_iff_not] at ho
    simp only [ag.get ho, k4]
    exact deqs_refl ds
theorem Snd.t' {c : Ec} {w : View} {q : PV} (h : Snd c w q) {t : Mp.Env → Option (Bool × Mp.Env)} {t' : Mp.Env → Option Bool} (ht : ∀ r b, t' r = some b → t r = some (b, r)) : Snd c { w with t := t } { q with t := t' } := ⟨h.v, h.e, ht, h.i, h.p⟩
theorem Snd.l' {c : Ec} {w : View} {q : PV} (h : Snd c w q) {l} : Snd c { w with l := l } q := ⟨h.v, h.e, h.t, h.i, h.p⟩
theorem guardL_some {β : Type} {l k : List β} (h : guardL l = some k) : k = l ∧ l.length ≤ sizeLine := by
  unfold guardL at h
  split at h
  · cases h; exact ⟨rfl, by assumption⟩
  · cases h
theorem pcomp_step {c : Ec} {vs : List Nat} {tg : Tg} {ifs : List View} {ifs' : List PV} {elt : View} {elt' : PV} (hi : Snds c ifs ifs') (he : Snd c elt elt') (ht : tgIn vs tg = true) {r : Mp.Env} {d : D} {o : Option D} (h : pcomp c vs tg ifs' elt' r d = some o) :
    ∃ r1 b r2, Mp.assign c tg d (Mp.wipe (Mp.wipe r vs) vs) = some r1 ∧ tsV ifs r1 = some (b, r2) ∧ ((b = false ∧ o = none ∧ Mp.wipe r2 vs = Mp.wipe r vs) ∨ (b = true ∧ ∃ y r3, o = some y ∧ elt.e r2 = some (y, r3) ∧ Mp.wipe r3 vs = Mp.wipe r vs)) := by
  obtain ⟨r1, e1, e2⟩ := bind_some h
  obtain ⟨b, e3, e4⟩ := bind_some e2
  have ag := (wipe_ag r vs).trans (assign_ag tg d _ _ ht e1)
  refine ⟨r1, b, r1, by rw [wipe_wipe]; exact e1, hi.pts e3, ?_⟩
  cases b with
  | false => cases e4; exact .inl ⟨rfl, rfl, ag.wipe⟩
  | true =>
    obtain ⟨y, e5, e6⟩ := map_some' e4
    exact .inr ⟨rfl, y, r1, e6.symm, he.e _ _ e5, ag.wipe⟩
theorem pdcomp_step {c : Ec} {vs : List Nat} {tg : Tg} {k v : View} {k' v' : PV} (hk : Snd c k k') (hv : Snd c v v') (ht : tgIn vs tg = true) {r : Mp.Env} {d : D} {o : Option (Str × D)} (h : pdcomp c vs tg k' v' r d = some o) :
    ∃ r1 x r2 y r3, Mp.assign c tg d (Mp.wipe (Mp.wipe r vs) vs) = some r1 ∧ k.e r1 = some (.str x, r2) ∧ v.e r2 = some (y, r3) ∧ o = some (x, y) ∧ Mp.wipe r3 vs = Mp.wipe r vs := by
  obtain ⟨r1, e1, e2⟩ := bind_some h
  obtain ⟨a, e3, e4⟩ := bind_some e2
  obtain ⟨b, e5, e6⟩ := bind_some e4
  obtain ⟨x, e7, e8⟩ := map_some' e6
  have ag := (wipe_ag r vs).trans (assign_ag tg d _ _ ht e1)
  cases a <;> simp [sDof] at e7
  subst e7
  exact ⟨r1, _, r1, b, r1, by rw [wipe_wipe]; exact e1, hk.e _ _ e3, hv.e _ _ e5, e8.symm, ag.wipe⟩
theorem sub_of {vs vs1 : List Nat} (h : vs1.all vs.contains = true) : ∀ k ∈ vs1, k ∈ vs := fun k hk => by
  have := List.all_eq_true.mp h k hk
  simpa [List.contains_iff_mem] using this
theorem bD_some {d : D} {b : Bool} (h : bD d = some b) : d = .bool b := by
  cases d <;> simp [bD] at h
  rw [h]
theorem iD_some {d : D} {i : Int} (h : iD d = some i) : d = .int i := by
  cases d <;> simp [iD] at h
  rw [h]
mutual
theorem snd (c : Ec) : ∀ e : E, Snd c (ev c e) (pv c e)
  | .con d => by rw [ev, pv]; exact .mk' fun r x h => by cases h; rfl
  | .var i => by
    rw [ev, pv]
    have he : ∀ r d, (pvar c i).e r = some d → varE c i r = some (d, r) := fun r d h => by
      simp only [pvar] at h
      split at h
      · unfold varE
        rw [h]
        simp only [Option.bind_some]
        rename_i hm
        rw [hm]
      · cases h
    have ht := Snd.mk' (c := c) he
    refine ⟨rfl, he, ht.t, fun r ds h => ?_, ht.p⟩
    simp only [pvar] at h
    obtain ⟨d, e1, e2⟩ := bind_some h
    show ∃ t, asI (fun r => (Mp.get r i).map fun d => (if c.mode i = .fz then Op.val d else .by_ i, r)) r = _ ∧ _
    unfold asI
    simp only [e1, Option.map_some, Option.bind_some]
    by_cases hm : c.mode i = .fz
    · rw [if_pos hm] at e2 ⊢
      refine ⟨⟨ds, none⟩, ?_, rfl, .inl rfl⟩
      cases d <;> simp [itsD, itsOf] at e2 ⊢
      all_goals exact e2
    · rw [if_neg hm] at e2 ⊢
      cases d <;> simp [lD] at e2
      subst e2
      exact ⟨⟨_, some (i, _)⟩, by simp [itsOf, e1], rfl, .inr ⟨i, rfl, hm, rfl, e1⟩⟩
  | .bin o a b => by
    rw [ev, pv]
    refine .mk' fun r d h => ?_
    obtain ⟨x, e1, e2⟩ := bind_some h
    obtain ⟨y, e3, e4⟩ := bind_some e2
    obtain ⟨p, p1, p2⟩ := (snd c a).o e1
    obtain ⟨q, q1, q2⟩ := (snd c b).o e3
    unfold binE
    simp only [p1, q1, p2, q2, e4, Option.bind_some, Option.map_some]
  | .cmp o a b => by
    rw [ev, pv]
    refine .mk' fun r d h => ?_
    obtain ⟨x, e1, e2⟩ := bind_some h
    obtain ⟨y, e3, e4⟩ := bind_some e2
    obtain ⟨p, p1, p2⟩ := (snd c a).o e1
    obtain ⟨q, q1, q2⟩ := (snd c b).o e3
    unfold binE
    simp only [p1, q1, p2, q2, e4, Option.bind_some, Option.map_some]
  | .neg a => by
    rw [ev, pv]
    refine .mk' fun r d h => ?_
    obtain ⟨x, e1, e2⟩ := bind_some h
    obtain ⟨i, e3, e4⟩ := map_some' e2
    cases iD_some e3
    unfold negE
    rw [(snd c a).e r _ e1]
    simp only [Option.bind_some, e4]
  | .not a => by
    rw [ev, pv]
    refine Snd.t' (.mk' fun r d h => ?_) fun r b h => ?_
    · obtain ⟨x, e1, e2⟩ := bind_some h
      obtain ⟨i, e3, e4⟩ := map_some' e2
      cases bD_some e3
      unfold notE
      rw [(snd c a).e r _ e1]
      simp only [Option.bind_some, e4]
    · obtain ⟨x, e1, e2⟩ := map_some' h
      rw [(snd c a).t r _ e1]
      simp only [Option.map_some, e2]
  | .and a b => by
    rw [ev, pv]
    refine Snd.t' (.mk' fun r d h => ?_) fun r q h => ?_
    · obtain ⟨x, e1, e2⟩ := bind_some h
      obtain ⟨i, e3, e4⟩ := bind_some e2
      cases bD_some e3
      unfold andE
      rw [(snd c a).e r _ e1]
      cases i
      · simp at e4 ⊢; exact e4
      · simp at e4 ⊢; exact (snd c b).e r _ e4
    · obtain ⟨x, e1, e2⟩ := bind_some h
      rw [(snd c a).t r _ e1]
      cases x
      · simp at e2 ⊢; exact e2
      · simp at e2 ⊢; exact (snd c b).t r _ e2
  | .or a b => by
    rw [ev, pv]
    refine Snd.t' (.mk' fun r d h => ?_) fun r q h => ?_
    · obtain ⟨x, e1, e2⟩ := bind_some h
      obtain ⟨i, e3, e4⟩ := bind_some e2
      cases bD_some e3
      unfold orE
      rw [(snd c a).e r _ e1]
      cases i
      · simp at e4 ⊢; exact (snd c b).e r _ e4
      · simp at e4 ⊢; exact e4
    · obtain ⟨x, e1, e2⟩ := bind_some h
      rw [(snd c a).t r _ e1]
      cases x
      · simp at e2 ⊢; exact (snd c b).t r _ e2
      · simp at e2 ⊢; exact e2
  | .chn o o' a b d => by
    rw [ev, pv]
    refine .mk' fun r z h => ?_
    obtain ⟨x, e1, e2⟩ := bind_some h
    obtain ⟨y, e3, e4⟩ := bind_some e2
    obtain ⟨u, e5, e6⟩ := bind_some e4
    obtain ⟨q, e7, e8⟩ := bind_some e6
    cases bD_some e7
    unfold chnE
    rw [(snd c a).e r _ e1]
    simp only [Option.bind_some, (snd c b).e r _ e3, e5]
    cases q
    · simp at e8 ⊢; exact e8
    · simp only [if_true] at e8 ⊢
      obtain ⟨v, e9, e10⟩ := bind_some e8
      simp only [(snd c d).e r _ e9, Option.bind_some, e10, Option.map_some]
  | .ite t a b => by
    rw [ev, pv]
    refine Snd.t' (.mk' fun r d h => ?_) fun r q h => ?_
    · obtain ⟨x, e1, e2⟩ := bind_some h
      unfold iteE
      rw [(snd c t).t r _ e1]
      cases x
      · simp at e2 ⊢; exact (snd c b).e r _ e2
      · simp at e2 ⊢; exact (snd c a).e r _ e2
    · obtain ⟨x, e1, e2⟩ := bind_some h
      rw [(snd c t).t r _ e1]
      cases x
      · simp at e2 ⊢; exact (snd c b).t r _ e2
      · simp at e2 ⊢; exact (snd c a).t r _ e2
  | .call f as => by
    rw [ev, pv]
    refine .mk' fun r d h => ?_
    split at h
    · rename_i hf
      obtain ⟨ds, e1, e2⟩ := bind_some h
      have hl : (evs c as).length = as.length := evs_len c as
      rw [hf, ← hl, (snds c as).asV e1]
      simp only [Option.bind_some, call_pure e2]
    · cases h
  | .prim p as => by
    rw [ev, pv]
    refine .mk' fun r d h => ?_
    obtain ⟨ds, e1, e2⟩ := bind_some h
    obtain ⟨os, e3, e4⟩ := (snds c as).pos e1
    unfold primE
    simp only [e3, Option.bind_some, e4, e2, Option.map_some]
  | .idx a b => by
    rw [ev, pv]
    refine .mk' fun r d h => ?_
    obtain ⟨x, e1, e2⟩ := bind_some h
    obtain ⟨y, e3, e4⟩ := bind_some e2
    obtain ⟨p, p1, p2⟩ := (snd c a).o e1
    unfold idxE
    simp only [p1, p2, (snd c b).e r _ e3, e4, Option.bind_some, Option.map_some]
  | .slc a lo hi => by
    rw [ev, pv]
    refine .mk' fun r d h => ?_
    obtain ⟨x, e1, e2⟩ := bind_some h
    obtain ⟨l, e3, e4⟩ := bind_some e2
    obtain ⟨u, e5, e6⟩ := bind_some e4
    obtain ⟨p, p1, p2⟩ := (snd c a).o e1
    unfold slcE
    simp only [p1, p2, (snd c lo).p r _ e3, (snd c hi).p r _ e5, e6, Option.bind_some, Option.map_some]
  | .rev a => by
    rw [ev, pv]
    refine .mk' fun r d h => ?_
    obtain ⟨x, e1, e2⟩ := bind_some h
    obtain ⟨p, p1, p2⟩ := (snd c a).o e1
    unfold revE
    simp only [p1, p2, e2, Option.bind_some, Option.map_some]
  | .abs => by
    rw [ev, pv]
    have h := Snd.mk' (c := c) (e := noneE) (f := fun _ => none) fun r d h => by cases h
    exact ⟨h.v, h.e, h.t, h.i, fun r x hx => by cases hx; rfl⟩
  | .tup es => by
    rw [ev, pv]
    refine .mk' fun r d h => ?_
    obtain ⟨ds, e1, e2⟩ := bind_some h
    obtain ⟨ds', e3, e4⟩ := map_some' e2
    obtain ⟨rfl, hl⟩ := guardL_some e3
    rw [(snds c es).pes e1]
    simp only [Option.bind_some, if_pos hl, e4]
  | .lst es => by
    rw [ev, pv]
    refine Snd.l' (.mk' fun r d h => ?_)
    obtain ⟨ds, e1, e2⟩ := bind_some h
    obtain ⟨ds', e3, e4⟩ := map_some' e2
    obtain ⟨rfl, hl⟩ := guardL_some e3
    unfold listE
    rw [(snds c es).pes e1]
    simp only [Option.bind_some, if_pos hl, e4]
  | .dic ks vs => by
    rw [ev, pv]
    refine .mk' fun r d h => ?_
    obtain ⟨ps, e1, e2⟩ := bind_some h
    split at e2
    · cases e2
      rw [(snds c ks).pkv (snds c vs) e1]
      simp only [Option.bind_some]
      rw [if_pos (by assumption)]
    · cases e2
  | .comp vs tg src ifs elt => by
    rw [ev, pv]
    refine .mk' fun r d h => ?_
    split at h
    · rename_i hc
      simp only [Bool.and_eq_true] at hc
      obtain ⟨ds, e1, e2⟩ := bind_some h
      obtain ⟨ys, e3, e4⟩ := bind_some e2
      obtain ⟨ys', e5, e6⟩ := map_some' e4
      obtain ⟨rfl, hl⟩ := guardL_some e5
      obtain ⟨t, t1, t2, t3⟩ := (snd c src).ok e1 hc.1 (wipe_ag r vs)
      unfold compE
      rw [t1]
      simp only [Option.bind_some]
      rw [compL_pure (pcomp c vs tg (pvs c ifs) (pv c elt) r) (R := Mp.wipe r vs) t3 (fun d o h => pcomp_step (snds c ifs) (snd c elt) hc.2 h) t.ds [] _ (by rw [t2]; exact e3) (by simpa using hl)]
      simp only [Option.map_some, List.nil_append, e6, back_wipe]
    · cases h
  | .comp2 vs vs1 tg src tg1 src1 elt => by
    rw [ev, pv]
    refine .mk' fun r d h => ?_
    split at h
    · rename_i hc
      simp only [Bool.and_eq_true] at hc
      obtain ⟨⟨⟨⟨hc1, hc2⟩, hc3⟩, hc4⟩, hc5⟩ := hc
      obtain ⟨ds, e1, e2⟩ := bind_some h
      obtain ⟨ys, e3, e4⟩ := bind_some e2
      obtain ⟨ys', e5, e6⟩ := map_some' e4
      obtain ⟨rfl, hl⟩ := guardL_some e5
      obtain ⟨t, t1, t2, t3⟩ := (snd c src).ok e1 hc1 (wipe_ag r vs)
      unfold comp2E
      rw [t1]
      simp only [Option.bind_some]
      rw [comp2L_list _ (R := Mp.wipe r vs) t3 (fun d ys h => ?_) t.ds [] _ (by rw [t2]; exact e3) (by simpa using hl)]
      · simp only [Option.map_some, List.nil_append, e6, back_wipe]
      · obtain ⟨r1, a1, a2⟩ := bind_some h
        obtain ⟨es, a3, a4⟩ := bind_some a2
        have ag := (wipe_ag r vs).trans (assign_ag tg d _ _ hc2 a1)
        obtain ⟨s, s1, s2, s3⟩ := (snd c src1).ok a3 hc3 (wipe_ag r1 vs1)
        refine ⟨r1, by rw [wipe_wipe]; exact a1, fun acc hacc => ⟨Mp.wipe r1 vs1, ?_, (ag.trans ((wipe_ag r1 vs1).mono (sub_of hc5))).wipe⟩⟩
        rw [s1]
        simp only [Option.bind_some]
        exact compL_pure (pcomp c vs1 tg1 [] (pv c elt) r1) (R := Mp.wipe r1 vs1) s3 (fun d o h => pcomp_step .nil (snd c elt) hc4 h) s.ds acc _ (by rw [s2]; exact a4) hacc
    · cases h
  | .dcomp vs tg src k v => by
    rw [ev, pv]
    refine .mk' fun r d h => ?_
    split at h
    · rename_i hc
      simp only [Bool.and_eq_true] at hc
      obtain ⟨ds, e1, e2⟩ := bind_some h
      obtain ⟨ys, e3, e4⟩ := bind_some e2
      obtain ⟨ys', e5, e6⟩ := map_some' e4
      obtain ⟨rfl, hl⟩ := guardL_some e5
      obtain ⟨t, t1, t2, t3⟩ := (snd c src).ok e1 hc.1 (wipe_ag r vs)
      unfold dcompE
      rw [t1]
      simp only [Option.bind_some]
      rw [dcompL_pure (pdcomp c vs tg (pv c k) (pv c v) r) (R := Mp.wipe r vs) t3 (fun d o h => pdcomp_step (snd c k) (snd c v) hc.2 h) t.ds [] _ (by rw [t2]; exact e3) (by simpa using hl)]
      rw [← e6]
      simp only [Option.map_some, back_wipe]
      rfl
    · cases h
  | .dcomp2 vs vs1 tg src tg1 src1 k v => by
    rw [ev, pv]
    refine .mk' fun r d h => ?_
    split at h
    · rename_i hc
      simp only [Bool.and_eq_true] at hc
      obtain ⟨⟨⟨⟨hc1, hc2⟩, hc3⟩, hc4⟩, hc5⟩ := hc
      obtain ⟨ds, e1, e2⟩ := bind_some h
      obtain ⟨ys, e3, e4⟩ := bind_some e2
      obtain ⟨ys', e5, e6⟩ := map_some' e4
      obtain ⟨rfl, hl⟩ := guardL_some e5
      obtain ⟨t, t1, t2, t3⟩ := (snd c src).ok e1 hc1 (wipe_ag r vs)
      unfold dcomp2E
      rw [t1]
      simp only [Option.bind_some]
      rw [comp2L_dict _ (R := Mp.wipe r vs) t3 (fun d ys h => ?_) t.ds [] _ (by rw [t2]; exact e3) (by simpa using hl)]
      · rw [← e6]
        simp only [Option.map_some, back_wipe]
        rfl
      · obtain ⟨r1, a1, a2⟩ := bind_some h
        obtain ⟨es, a3, a4⟩ := bind_some a2
        have ag := (wipe_ag r vs).trans (assign_ag tg d _ _ hc2 a1)
        obtain ⟨s, s1, s2, s3⟩ := (snd c src1).ok a3 hc3 (wipe_ag r1 vs1)
        refine ⟨r1, by rw [wipe_wipe]; exact a1, fun acc hacc => ⟨Mp.wipe r1 vs1, ?_, (ag.trans ((wipe_ag r1 vs1).mono (sub_of hc5))).wipe⟩⟩
        rw [s1]
        simp only [Option.bind_some]
        exact dcompL_pure (pdcomp c vs1 tg1 (pv c k) (pv c v) r1) (R := Mp.wipe r1 vs1) s3 (fun d o h => pdcomp_step (snd c k) (snd c v) hc4 h) s.ds acc _ (by rw [s2]; exact a4) hacc
    · cases h
  | .rng as => by
    rw [ev, pv]
    have h := Snd.mk' (c := c) (e := noneE) (f := fun _ => none) fun r d h => by cases h
    refine ⟨h.v, h.e, h.t, fun r ds hd => ?_, h.p⟩
    refine ⟨⟨ds, none⟩, ?_, rfl, .inl rfl⟩
    show rngV (evs c as) r = _
    have hs := snds c as
    revert hd hs
    show rngP (pvs c as) r = some ds → _
    generalize evs c as = ws
    generalize pvs c as = qs
    intro hd hs
    match ws, qs, hs with
    | [], [], _ => cases hd
    | [w], [q], .cons h1 _ =>
      obtain ⟨x, e1, e2⟩ := bind_some hd
      obtain ⟨j, e3, e4⟩ := bind_some e2
      cases iD_some e3
      simp only [rngV, h1.e _ _ e1, Option.bind_some]
      split at e4
      · rw [if_pos (by assumption)]; cases e4; rfl
      · cases e4
    | [w, w'], [q, q'], .cons h1 (.cons h2 _) =>
      obtain ⟨x, e1, e2⟩ := bind_some hd
      obtain ⟨y, e3, e4⟩ := bind_some e2
      obtain ⟨i, e5, e6⟩ := bind_some e4
      obtain ⟨j, e7, e8⟩ := bind_some e6
      cases iD_some e5
      cases iD_some e7
      simp only [rngV, h1.e _ _ e1, Option.bind_some, h2.e _ _ e3]
      split at e8
      · rw [if_pos (by assumption)]; cases e8; rfl
      · cases e8
    | _ :: _ :: _ :: _, _ :: _ :: _ :: _, _ => cases hd
  | .enm a => by
    rw [ev, pv]
    have h := Snd.mk' (c := c) (e := noneE) (f := fun _ => none) fun r d h => by cases h
    refine ⟨h.v, h.e, h.t, fun r ds hd => ?_, h.p⟩
    obtain ⟨x, e1, e2⟩ := bind_some hd
    obtain ⟨l, e3, e4⟩ := map_some' e2
    refine ⟨⟨ds, none⟩, ?_, rfl, .inl rfl⟩
    cases x <;> simp [lD] at e3
    subst e3 e4
    simp only [(snd c a).e _ _ e1, Option.bind_some]
  | .zip a b => by
    rw [ev, pv]
    have h := Snd.mk' (c := c) (e := noneE) (f := fun _ => none) fun r d h => by cases h
    refine ⟨h.v, h.e, h.t, fun r ds hd => ?_, h.p⟩
    obtain ⟨x, e1, e2⟩ := bind_some hd
    obtain ⟨y, e3, e4⟩ := bind_some e2
    obtain ⟨xs, e5, e6⟩ := bind_some e4
    obtain ⟨ys, e7, e8⟩ := map_some' e6
    refine ⟨⟨ds, none⟩, ?_, rfl, .inl rfl⟩
    simp only [(snd c a).e _ _ e1, (snd c b).e _ _ e3, Option.bind_some, e5, e7, e8]
  | .itm _ => by rw [ev, pv]; exact .mk' fun r d h => by cases h
  | .app _ _ => by rw [ev, pv]; exact .mk' fun r d h => by cases h
  | .ext _ _ => by rw [ev, pv]; exact .mk' fun r d h => by cases h
  | .pop _ => by rw [ev, pv]; exact .mk' fun r d h => by cases h
  | .upd _ _ => by rw [ev, pv]; exact .mk' fun r d h => by cases h
  | .dget o k x => by
    rw [ev, pv]
    refine .mk' fun r d h => ?_
    obtain ⟨x0, e1, e2⟩ := bind_some h
    obtain ⟨k0, e3, e4⟩ := bind_some e2
    obtain ⟨z, e5, e6⟩ := bind_some e4
    obtain ⟨p, p1, p2⟩ := (snd c o).o e1
    unfold dgetE
    cases x0 <;> cases k0 <;> simp [dgetP] at e6
    rw [p1]
    simp only [Option.bind_some, p2, isDct, if_true, (snd c k).e _ _ e3, (snd c x).e _ _ e5, e6]
theorem snds (c : Ec) : ∀ es : List E, Snds c (evs c es) (pvs c es)
  | [] => by rw [evs, pvs]; exact .nil
  | e :: es => by rw [evs, pvs]; exact .cons (snd c e) (snds c es)
theorem evs_len (c : Ec) : ∀ es : List E, (evs c es).length = es.length
  | [] => by rw [evs]; rfl
  | e :: es => by rw [evs, List.length_cons, List.length_cons, evs_len c es]
end
end Mh

/-! the laws' generator: drawn numbers -/
namespace Mg
open PySem L2 Mp

abbrev fmOf (P : List FD) : Nat → List Md := fun g => (P[g]?.map FD.ps).getD []
abbrev frOf (P : List FD) : Nat → Bool := fun g => (P[g]?.map FD.fr).getD false
theorem run_eq {P : List FD} {g : Nat} {fd : FD} (h : P[g]? = some fd) (wf n : Nat) (args : List D) : run P wf (n + 1) g args = fd.run wf (fmOf P) (frOf P) (run P wf n) args := by
  show (P[g]?).bind _ = _
  rw [h]
  rfl
/-- a number that products and powers may be made of -/
def Mid (i : Int) : Prop := i.natAbs < 2 ^ 4000
theorem log2_lt {i : Int} (h : Mid i) : i.natAbs.log2 < 4000 := by
  by_cases z : i.natAbs = 0
  · rw [z]; decide
  · exact (Nat.log2_lt z).mpr h
theorem bin_mul {i j : Int} (hi : Mid i) (hj : Mid j) : Mp.bin .Mult (.int i) (.int j) = some (.int (i * j)) := by
  have := log2_lt hi
  have := log2_lt hj
  show (if i.natAbs.log2 + j.natAbs.log2 < 1000000 then _ else _) = _
  rw [if_pos (by omega)]
theorem bin_fdiv {i j : Int} (h : 0 < j) (hj : Mid j) : Mp.bin .FloorDiv (.int i) (.int j) = some (.int (i / j)) := by
  have := log2_lt hj
  show (if 0 < j ∧ j.natAbs.log2 < 9000 then _ else _) = _
  rw [if_pos ⟨h, by omega⟩]
theorem bin_mod {i j : Int} (h : 0 < j) : Mp.bin .Mod (.int i) (.int j) = some (.int (i % j)) := by
  show (if 0 < j then _ else _) = _
  rw [if_pos h]
theorem fd_rt {fd : FD} {wf : Nat} {fm : Nat → List Md} {fr : Nat → Bool} {C : Nat → List D → Option (D × List D)} {args : List D} {d : D} {r' : Mp.Env} (hl : args.length = fd.ps.length)
    (e : evSs ⟨fd.md, C, fm, fr, wf⟩ fd.body (args.map some ++ List.replicate (fd.md.length - args.length) none) = some (.rt d, r')) (hio : ((List.range fd.ps.length).all fun i => fd.ps.getD i .fz == .fz || (Mp.get r' i).isSome) = true) :
    fd.run wf fm fr C args = some (d, (List.range fd.ps.length).map fun i => (Mp.get r' i).getD .none) := by
  unfold FD.run
  rw [if_pos hl, e]
  show (if _ then _ else _) = _
  rw [if_pos hio]
end Mg

namespace Mg
open PySem L2 Mp

theorem bin_pow {i : Int} {k : Nat} (hi : Mid i) (hk : k ≤ 1000) : Mp.bin .Pow (.int i) (.int (k : Int)) = some (.int (i ^ k)) := by
  have h1 := log2_lt hi
  have h2 : Builtin.Int.intBits i ≤ 4001 := by
    unfold Builtin.Int.intBits
    split <;> omega
  show (if 0 ≤ (k : Int) ∧ (Builtin.Int.intBits i : Int) * (k : Int) ≤ 2 ^ 27 then some (PyData.int (i ^ (k : Int).toNat)) else none) = _
  have h3 : (Builtin.Int.intBits i : Int) * (k : Int) ≤ 4001 * 1000 := Int.mul_le_mul (by omega) (by omega) (by omega) (by omega)
  rw [if_pos ⟨by omega, by omega⟩]
  simp
theorem bin_add {i j : Int} : Mp.bin .Add (.int i) (.int j) = some (.int (i + j)) := rfl
theorem cmp_gt {i j : Int} : Mp.cmp .Gt (.int i) (.int j) = some (.bool (decide (j < i))) := rfl
theorem idx3_0 {x y z : D} : Mp.idx (.list [x, y, z]) (.int 0) = some x := rfl
theorem idx3_1 {x y z : D} : Mp.idx (.list [x, y, z]) (.int 1) = some y := rfl
theorem idx3_2 {x y z : D} : Mp.idx (.list [x, y, z]) (.int 2) = some z := rfl
/-- what a pot is: a cell's digits left, a number, how many numbers were taken -/
def Pot (m : Nat) (d : D) : Prop := ∃ a b c : Int, d = .list [.int a, .int b, .int c] ∧ 0 ≤ a ∧ a < 10 ^ 600 ∧ 0 ≤ b ∧ b < 2305843009213693951 ∧ 0 ≤ c ∧ c ≤ m
theorem mid_of {i : Int} {B : Nat} (h0 : 0 ≤ i) (h : i < B) (hB : B ≤ 2 ^ 4000) : Mid i := by
  unfold Mid
  omega
theorem take_spec {P : List FD} (h : P[7]? = some Mf.fd__law_take) {wf n m : Nat} {d : D} {k : Int} (hp : Pot m d) (hm : m ≤ 1000000) (h0 : 0 < k) (hk : k ≤ 1000000) :
    ∃ v d', run P wf (n + 1) 7 [d, .int k] = some (.int v, [d', .int k]) ∧ 0 ≤ v ∧ v < k ∧ Pot (m + 1) d' := by
  obtain ⟨a, b, c, rfl, a0, a1, b0, b1, c0, c1⟩ := hp
  rw [run_eq h]
  have hmk : Mid k := mid_of (B := 1000001) (by omega) (by omega) (Nat.le_of_lt (by decide))
  by_cases ha : 0 < a
  · refine ⟨a % k, .list [.int (a / k), .int b, .int c], ?_, Int.emod_nonneg _ (by omega), Int.emod_lt_of_pos _ h0, a / k, b, c, rfl, Int.ediv_nonneg a0 (by omega), ?_, b0, b1, c0, by omega⟩
    · simp [FD.run, Mf.fd__law_take, evSs, evS, thenS, ev, evs, varV, varE, plainV, asT, View.o, binE, idxE, Op.res, Mp.get, Mp.put, Mp.assign, Ec.mode, nx, idx3_0, idx3_1, idx3_2, bin_mod h0, bin_fdiv h0 hmk, cmp_gt, ha, ixN, esV, List.range, List.range.loop]
    · exact Int.lt_of_le_of_lt (Int.ediv_le_self _ a0) a1
  · have ha0 : a = 0 := by omega
    subst ha0
    have hb : Mid (b % 65537) := mid_of (B := 65537) (Int.emod_nonneg _ (by omega)) (Int.emod_lt_of_pos _ (by omega)) (Nat.le_of_lt (by decide))
    have h7 : Mid (31 : Int) := by unfold Mid; decide
    have h8 : Mid (104729 : Int) := by unfold Mid; decide
    have hc1 : Mid (c + 1) := mid_of (B := 1000002) (by omega) (by omega) (Nat.le_of_lt (by decide))
    have hx : Mid (b + 104729 * (c + 1)) := mid_of (B := 2 ^ 100) (by omega) (by omega) (Nat.le_of_lt (by decide))
    generalize ho : (b + 104729 * (c + 1)) ^ 3 % 2305843009213693921 = one
    have o0 : 0 ≤ one := by rw [← ho]; exact Int.emod_nonneg _ (by omega)
    have o1 : one < 2305843009213693921 := by rw [← ho]; exact Int.emod_lt_of_pos _ (by omega)
    have b2 : 0 ≤ b % 65537 := Int.emod_nonneg _ (by omega)
    have b3 : b % 65537 < 65537 := Int.emod_lt_of_pos _ (by omega)
    have hy : Mid (one + b % 65537 + 31 * (c + 1)) := mid_of (B := 2 ^ 100) (by omega) (by omega) (Nat.le_of_lt (by decide))
    have p3 : Mp.bin .Pow (.int (b + 104729 * (c + 1))) (.int 3) = some (.int ((b + 104729 * (c + 1)) ^ 3)) := bin_pow (k := 3) hx (by omega)
    have p5 : Mp.bin .Pow (.int (one + b % 65537 + 31 * (c + 1))) (.int 5) = some (.int ((one + b % 65537 + 31 * (c + 1)) ^ 5)) := bin_pow (k := 5) hy (by omega)
    have q1 : Mid (1024 : Int) := by unfold Mid; decide
    refine ⟨(one + b % 65537 + 31 * (c + 1)) ^ 5 % 2305843009213693907 / 1024 % k, .list [.int 0, .int b, .int (c + 1)], ?_, Int.emod_nonneg _ (by omega), Int.emod_lt_of_pos _ h0, 0, b, c + 1, rfl, a0, a1, b0, b1, by omega, by omega⟩
    simp [FD.run, Mf.fd__law_take, evSs, evS, thenS, ev, evs, varV, varE, plainV, asT, View.o, binE, idxE, Op.res, Mp.get, Mp.put, Mp.assign, Ec.mode, nx, idx3_0, idx3_1, idx3_2, bin_mod h0, bin_mod, bin_fdiv (show (0 : Int) < 1024 by decide) q1, bin_mul h8 hc1, bin_mul h7 hc1, bin_add, cmp_gt, ixN, esV, List.range, List.range.loop, p3, p5, ho]
end Mg

/-! the laws' generator: loops, pots -/
namespace Mg
open PySem L2 Mp

/-- a loop whose every turn ends plainly -/
theorem forL_inv {ok : Mp.Env → Bool} {w : Mp.Env → Mp.Env} {tg : D → Mp.Env → Option Mp.Env} {body : Mp.Env → Option (Fl × Mp.Env)} (I : Nat → Mp.Env → Prop) (hok : ∀ i r, I i r → ok r = true) :
    ∀ (ds : List D) (i : Nat) (r : Mp.Env), I i r → (∀ j d r, ds[j]? = some d → I (i + j) r → ∃ r1 r2, tg d (w r) = some r1 ∧ (body r1 = some (.nx, r2) ∨ body r1 = some (.ct, r2)) ∧ I (i + j + 1) (w r2)) →
      ∃ r', forL ok w tg body ds r = some (.nx, r') ∧ I (i + ds.length) r'
  | [], i, r, h, _ => ⟨r, by unfold forL; rw [if_pos (hok _ _ h)], h⟩
  | d :: ds, i, r, h, step => by
    obtain ⟨r1, r2, e1, e2, h2⟩ := step 0 d r rfl h
    obtain ⟨r', e3, h3⟩ := forL_inv I hok ds (i + 1) (w r2) h2 fun j d' r hd hr => by
      have := step (j + 1) d' r (by simpa using hd) (by rw [show i + (j + 1) = i + 1 + j by omega]; exact hr)
      rw [show i + (j + 1) + 1 = i + 1 + j + 1 by omega] at this
      exact this
    refine ⟨r', ?_, by rw [List.length_cons, show i + (ds.length + 1) = i + 1 + ds.length by omega]; exact h3⟩
    unfold forL
    rw [if_pos (hok _ _ h), e1]
    rcases e2 with e2 | e2 <;> simp [e2, e3]
/-- a comprehension's turns; N items in all -/
theorem compL_inv {ok : Mp.Env → Bool} {w : Mp.Env → Mp.Env} {tg : D → Mp.Env → Option Mp.Env} {elt : Mp.Env → Option (D × Mp.Env)} (I : List D → Mp.Env → Prop) (N : Nat) (hN : N < sizeLine) (hok : ∀ acc r, I acc r → ok r = true) :
    ∀ (ds acc : List D) (r : Mp.Env), I acc r → acc.length + ds.length = N →
      (∀ acc d r, d ∈ ds → acc.length < N → I acc r → ∃ r1 y r2, tg d (w r) = some r1 ∧ elt r1 = some (y, r2) ∧ I (acc ++ [y]) (w r2)) →
      ∃ out r', compL ok w tg (tsV []) elt ds acc r = some (out, r') ∧ I out r' ∧ out.length = N
  | [], acc, r, h, hl, _ => ⟨acc, r, by unfold compL; rw [if_pos (hok _ _ h)], h, by simpa using hl⟩
  | d :: ds, acc, r, h, hl, step => by
    rw [List.length_cons] at hl
    obtain ⟨r1, y, r2, e1, e2, h2⟩ := step acc d r List.mem_cons_self (by omega) h
    obtain ⟨out, r', e3, h3, h4⟩ := compL_inv I N hN hok ds (acc ++ [y]) (w r2) h2 (by simp; omega) fun acc d r hd => step acc d r (List.mem_cons_of_mem _ hd)
    refine ⟨out, r', ?_, h3, h4⟩
    unfold compL
    rw [if_pos (hok _ _ h), e1]
    simp only [Option.bind_some, tsV, if_true, e2]
    rw [if_pos (by omega)]
    exact e3
theorem tenB : Mid ((10 : Int) ^ 60) := by unfold Mid; decide
theorem small_mid {i : Int} (h0 : 0 ≤ i) (h : i < 2 ^ 100) : Mid i := mid_of (B := 2 ^ 100) h0 (by omega) (Nat.le_of_lt (by decide))
theorem pot_spec {P : List FD} (h : P[6]? = some Mf.fd__law_pot) {wf n : Nat} {ns : List Int} {k : Nat} (hk : k ≤ 1000) :
    ∃ d, run P wf (n + 1) 6 [intsD ns, .int k] = some (d, [intsD ns, .int k]) ∧ Pot 0 d := by
  rw [run_eq h]
  have e1 : Mp.bin .Pow (.int 10) (.int 60) = some (.int (10 ^ 60)) := bin_pow (k := 60) (by unfold Mid; decide) (by omega)
  have e2 : Mp.bin .Pow (.int (10 ^ 60)) (.int 10) = some (.int ((10 ^ 60) ^ 10)) := bin_pow (k := 10) tenB (by omega)
  have e3 : Mp.bin .Pow (.int 10) (.int 18) = some (.int (10 ^ 18)) := bin_pow (k := 18) (by unfold Mid; decide) (by omega)
  have h7919 : Mid (7919 : Int) := by unfold Mid; decide
  have hkm : Mid (k : Int) := small_mid (by omega) (by omega)
  -- from the cell on
  have rest : ∀ cell : Int, 0 ≤ cell → cell < 10 ^ 600 → ∃ d, (evSs ⟨[.fz, .fz, .fz], run P wf n, fmOf P, frOf P, wf⟩ [.ret (.lst [(.bin .Mult (.var 2) (.prim .int [(.cmp .GtE (.var 2) (.bin .Pow (.con (.int 10)) (.con (.int 18))))])), (.bin .Mod (.bin .Pow (.bin .Add (.bin .Add (.bin .Mod (.var 2) (.con (.int 2147483629))) (.bin .Mult (.con (.int 7919)) (.var 1))) (.con (.int 1))) (.con (.int 5))) (.con (.int 2305843009213693951))), (.con (.int 0))])]
      [some (intsD ns), some (.int k), some (.int cell)]) = some (.rt d, [some (intsD ns), some (.int k), some (.int cell)]) ∧ Pot 0 d := fun cell c0 c1 => by
    have hc : Mid cell := mid_of (B := 10 ^ 600) c0 (by omega) (Nat.le_of_lt (by decide))
    have m0 : 0 ≤ cell % 2147483629 := Int.emod_nonneg _ (by omega)
    have m1 : cell % 2147483629 < 2147483629 := Int.emod_lt_of_pos _ (by omega)
    have p5 : Mp.bin .Pow (.int (cell % 2147483629 + 7919 * k + 1)) (.int 5) = some (.int ((cell % 2147483629 + 7919 * k + 1) ^ 5)) := bin_pow (k := 5) (small_mid (by omega) (by omega)) (by omega)
    have hge : ∀ j : Int, Mp.cmp .GtE (.int cell) (.int j) = some (.bool (decide (j ≤ cell))) := fun _ => rfl
    have hint : ∀ b : Bool, Mp.prim .int [.bool b] = some (.int (if b then 1 else 0)) := fun _ => rfl
    have hm1 : Mp.bin .Mult (.int cell) (.int 1) = some (.int (cell * 1)) := bin_mul hc (by unfold Mid; decide)
    have hm0 : Mp.bin .Mult (.int cell) (.int 0) = some (.int (cell * 0)) := bin_mul hc (by unfold Mid; decide)
    by_cases hg : (1000000000000000000 : Int) ≤ cell
    · refine ⟨.list [.int (cell * 1), .int ((cell % 2147483629 + 7919 * k + 1) ^ 5 % 2305843009213693951), .int 0], ?_, _, _, 0, rfl, by omega, by omega, Int.emod_nonneg _ (by omega), Int.emod_lt_of_pos _ (by omega), by omega, by omega⟩
      simp [evSs, evS, thenS, ev, evs, varV, varE, plainV, View.o, binE, primE, osV, resAll, Op.res, Mp.get, Ec.mode, nx, listE, esV, e3, hge, hint, hm1, hg, bin_mod, bin_mul h7919 hkm, bin_add, p5, sizeLine]
    · refine ⟨.list [.int (cell * 0), .int ((cell % 2147483629 + 7919 * k + 1) ^ 5 % 2305843009213693951), .int 0], ?_, _, _, 0, rfl, by omega, by omega, Int.emod_nonneg _ (by omega), Int.emod_lt_of_pos _ (by omega), by omega, by omega⟩
      simp [evSs, evS, thenS, ev, evs, varV, varE, plainV, View.o, binE, primE, osV, resAll, Op.res, Mp.get, Ec.mode, nx, listE, esV, e3, hge, hint, hm0, hg, bin_mod, bin_mul h7919 hkm, bin_add, p5, sizeLine]
  have hlen : Mp.prim .len [intsD ns] = some (.int ns.length) := by
    show some (PyData.int ((ns.map PyData.int).length : Nat)) = _
    rw [List.length_map]
  by_cases hl : k < ns.length
  · have hidx : Mp.idx (intsD ns) (.int k) = some (.int ns[k]) := by
      show atI (ns.map PyData.int) (k : Int) = _
      unfold atI ixN
      rw [if_pos (by omega), if_pos (by rw [List.length_map]; omega)]
      simp [hl]
    have habs : Mp.prim .abs [.int ns[k]] = some (.int (if ns[k] < 0 then -ns[k] else ns[k])) := rfl
    obtain ⟨d, r1, r2⟩ := rest ((if ns[k] < 0 then -ns[k] else ns[k]) % (10 ^ 60) ^ 10) (Int.emod_nonneg _ (by omega)) (by
      have : ((10 : Int) ^ 60) ^ 10 = 10 ^ 600 := by rw [← Int.pow_mul]
      rw [this]
      exact Int.emod_lt_of_pos _ (by omega))
    have hlt : Mp.cmp .Lt (.int k) (.int ns.length) = some (.bool true) := by
      show some (PyData.bool (decide ((k : Int) < (ns.length : Int)))) = _
      rw [decide_eq_true (by omega)]
    have hmod : Mp.bin .Mod (.int (if ns[k] < 0 then -ns[k] else ns[k])) (.int ((10 ^ 60) ^ 10)) = some (.int ((if ns[k] < 0 then -ns[k] else ns[k]) % (10 ^ 60) ^ 10)) := bin_mod (by omega)
    refine ⟨d, ?_, r2⟩
    refine fd_rt (fd := Mf.fd__law_pot) (r' := [some (intsD ns), some (.int k), some (.int ((if ns[k] < 0 then -ns[k] else ns[k]) % (10 ^ 60) ^ 10))]) rfl (Eq.trans ?_ r1) rfl
    generalize hR : evSs ⟨[.fz, .fz, .fz], run P wf n, fmOf P, frOf P, wf⟩ [.ret (.lst [(.bin .Mult (.var 2) (.prim .int [(.cmp .GtE (.var 2) (.bin .Pow (.con (.int 10)) (.con (.int 18))))])), (.bin .Mod (.bin .Pow (.bin .Add (.bin .Add (.bin .Mod (.var 2) (.con (.int 2147483629))) (.bin .Mult (.con (.int 7919)) (.var 1))) (.con (.int 1))) (.con (.int 5))) (.con (.int 2305843009213693951))), (.con (.int 0))])] = R
    have hR' : ∀ r, evSs ⟨Mf.fd__law_pot.md, run P wf n, fmOf P, frOf P, wf⟩ Mf.fd__law_pot.body r = thenS (evS ⟨Mf.fd__law_pot.md, run P wf n, fmOf P, frOf P, wf⟩ (.set (.nm 2) (.con (.int 0)))) (thenS (evS ⟨Mf.fd__law_pot.md, run P wf n, fmOf P, frOf P, wf⟩
        (.ite (.cmp .Lt (.var 1) (.prim .len [(.var 0)])) [.set (.nm 2) (.bin .Mod (.prim .abs [(.idx (.var 0) (.var 1))]) (.bin .Pow (.bin .Pow (.con (.int 10)) (.con (.int 60))) (.con (.int 10))))] [])) R) r := fun r => by rw [← hR]; rfl
    rw [hR']
    generalize hcell : (if ns[k] < 0 then -ns[k] else ns[k]) % (10 ^ 60) ^ 10 = cell at hmod ⊢
    generalize hS : intsD ns = S at hlen hidx ⊢
    generalize h10 : (10 : Int) ^ 60 = t10 at e1 e2 hmod
    generalize h11 : t10 ^ 10 = t11 at e2 hmod
    generalize habs' : (if ns[k] < 0 then -ns[k] else ns[k]) = ab at habs hmod
    simp [evSs, evS, thenS, ev, evs, varV, varE, plainV, asT, View.o, binE, idxE, primE, osV, resAll, Op.res, Mp.get, Mp.put, Mp.assign, Ec.mode, nx, Mf.fd__law_pot, e1, e2, hlen, hidx, habs, hlt, hmod]
  · obtain ⟨d, r1, r2⟩ := rest 0 (by omega) (by omega)
    have hlt : Mp.cmp .Lt (.int k) (.int ns.length) = some (.bool false) := by
      show some (PyData.bool (decide ((k : Int) < (ns.length : Int)))) = _
      rw [decide_eq_false (by omega)]
    refine ⟨d, ?_, r2⟩
    refine fd_rt (fd := Mf.fd__law_pot) (r' := [some (intsD ns), some (.int k), some (.int 0)]) rfl (Eq.trans ?_ r1) rfl
    generalize hR : evSs ⟨[.fz, .fz, .fz], run P wf n, fmOf P, frOf P, wf⟩ [.ret (.lst [(.bin .Mult (.var 2) (.prim .int [(.cmp .GtE (.var 2) (.bin .Pow (.con (.int 10)) (.con (.int 18))))])), (.bin .Mod (.bin .Pow (.bin .Add (.bin .Add (.bin .Mod (.var 2) (.con (.int 2147483629))) (.bin .Mult (.con (.int 7919)) (.var 1))) (.con (.int 1))) (.con (.int 5))) (.con (.int 2305843009213693951))), (.con (.int 0))])] = R
    have hR' : ∀ r, evSs ⟨Mf.fd__law_pot.md, run P wf n, fmOf P, frOf P, wf⟩ Mf.fd__law_pot.body r = thenS (evS ⟨Mf.fd__law_pot.md, run P wf n, fmOf P, frOf P, wf⟩ (.set (.nm 2) (.con (.int 0)))) (thenS (evS ⟨Mf.fd__law_pot.md, run P wf n, fmOf P, frOf P, wf⟩
        (.ite (.cmp .Lt (.var 1) (.prim .len [(.var 0)])) [.set (.nm 2) (.bin .Mod (.prim .abs [(.idx (.var 0) (.var 1))]) (.bin .Pow (.bin .Pow (.con (.int 10)) (.con (.int 60))) (.con (.int 10))))] [])) R) r := fun r => by rw [← hR]; rfl
    rw [hR']
    generalize hS : intsD ns = S at hlen ⊢
    simp [evSs, evS, thenS, ev, evs, varV, varE, plainV, asT, View.o, binE, idxE, primE, osV, resAll, Op.res, Mp.get, Mp.put, Mp.assign, Ec.mode, nx, Mf.fd__law_pot, hlen, hlt]
end Mg

/-! the laws' generator: words -/
namespace Mg
open PySem L2 Mp

def tx (l : List Nat) : Str := ⟨l.toArray⟩
theorem tx_app (a b : List Nat) : tx a ++ tx b = tx (a ++ b) := by
  show (⟨a.toArray ++ b.toArray⟩ : Str) = ⟨(a ++ b).toArray⟩
  simp
theorem tx_len (a : List Nat) : (tx a).length = a.length := rfl
def letters : Str := "abcdefghijklmnopqrstuvwxyz"
theorem letters_tx : letters = tx ((List.range 26).map (97 + ·)) := by decide +kernel
theorem letter_at {i : Int} (h0 : 0 ≤ i) (h1 : i < 26) : Mp.idx (.str letters) (.int i) = some (.str (tx [97 + i.toNat])) := by
  rw [letters_tx]
  show (if (tx ((List.range 26).map (97 + ·))).length ≤ sizeLine then (atI ((List.range 26).map (97 + ·)) i).map fun c => PyData.str ⟨#[c]⟩ else none) = _
  rw [if_pos (by rw [tx_len]; simp [sizeLine])]
  unfold atI ixN
  rw [if_pos h0, if_pos (by simpa using h1)]
  have hi : i.toNat < 26 := by omega
  simp [hi, tx]
theorem add_tx {a b : List Nat} (h : a.length + b.length ≤ 1000) : Mp.bin .Add (.str (tx a)) (.str (tx b)) = some (.str (tx (a ++ b))) := by
  show (if (tx a).length + (tx b).length ≤ sizeLine then some (PyData.str (tx a ++ tx b)) else none) = _
  rw [tx_len, tx_len, if_pos (by simp [sizeLine]; omega), tx_app]
/-- the words that are none -/
def noWords : List Str := ["mark", "part", "same", "test", "sum", "not", "both", "either"]
theorem cmp_in (a : D) (ds : List D) (h : ∀ x y, a = .str x → ds = y → True) : Mp.cmp .In a (.list ds) = (Mp.inL a ds).map PyData.bool := by
  cases a <;> simp [Mp.cmp]
theorem eqv_str (x y : Str) : PyData.eqv (.str x) (.str y) = decide (x = y) := by
  by_cases h : x = y <;> simp [PyData.eqv, h]
theorem in_noWords (w : Str) : Mp.cmp .In (.str w) (.list [.str "mark", .str "part", .str "same", .str "test", .str "sum", .str "not", .str "both", .str "either"]) = some (.bool (decide (w ∈ noWords))) := by
  rw [cmp_in _ _ fun _ _ _ _ => trivial]
  unfold Mp.inL
  rw [if_pos ⟨rfl, rfl⟩]
  simp only [Option.map_some, List.any_cons, List.any_nil, eqv_str]
  congr 2
  simp only [noWords, List.mem_cons, List.not_mem_nil, or_false, Bool.decide_or, Bool.or_false, eq_comm (a := w)]
/-- a drawn word: its first two letters tell q apart from numbers near -/
structure Word (q : Int) (w : Str) : Prop where
  ex : ∃ rest : List Nat, w = tx ((97 + (q * 11 % 26).toNat) :: (97 + (q / 26 * 7 % 26).toNat) :: rest) ∧ rest.length ≤ 6 ∧ ∀ c ∈ rest, 97 ≤ c ∧ c ≤ 122
  no : w ∉ noWords
end Mg

/-! the laws' generator: a word -/
namespace Mg
open PySem L2 Mp

theorem thenS_nx {a b : Mp.Env → Option (Fl × Mp.Env)} {r r1 : Mp.Env} (h : a r = some (.nx, r1)) : thenS a b r = b r1 := by
  unfold thenS
  rw [h]
  rfl
abbrev ecOf (P : List FD) (wf n : Nat) (md : List Md) : Ec := ⟨md, run P wf n, fmOf P, frOf P, wf⟩
theorem fm_take {P : List FD} (h : P[7]? = some Mf.fd__law_take) : fmOf P 7 = [.io, .fz] := by
  show (P[7]?.map FD.ps).getD [] = _
  rw [h]; rfl
theorem Pot.lst {m : Nat} {d : D} (h : Pot m d) : ∃ l, d = .list l := by
  obtain ⟨a, b, c, rfl, _⟩ := h
  exact ⟨_, rfl⟩
theorem Pot.mono {m k : Nat} {d : D} (h : Pot m d) (hk : m ≤ k) : Pot k d := by
  obtain ⟨a, b, c, e, h1, h2, h3, h4, h5, h6⟩ := h
  exact ⟨a, b, c, e, h1, h2, h3, h4, h5, by omega⟩
theorem idx1 {x : D} : Mp.idx (.list [x]) (.int 0) = some x := rfl
theorem word_spec {P : List FD} (h7 : P[7]? = some Mf.fd__law_take) (h10 : P[10]? = some Mf.fd__law_word) {wf n m : Nat} {pot : D} {q : Int} (hp : Pot m pot) (hm : m + 10 ≤ 1000000) (q0 : 0 ≤ q) (q1 : q < 100000) :
    ∃ w pot' q', run P wf (n + 2) 10 [pot, .list [.int q]] = some (.str w, [pot', .list [.int q']]) ∧ q < q' ∧ q' ≤ q + 3 ∧ Word q' w ∧ Pot (m + 9) pot' := by
  rw [run_eq h10]
  have fm := fm_take h7
  obtain ⟨v1, pot1, t1, v10, v11, hp1⟩ := take_spec (wf := wf) (n := n) h7 hp (k := 3) (by omega) (by omega) (by omega)
  obtain ⟨v2, pot2, t2, v20, v21, hp2⟩ := take_spec (wf := wf) (n := n) h7 hp1 (k := 7) (by omega) (by omega) (by omega)
  have hq0 : 0 ≤ q + 1 + v1 := by omega
  have hq1 : q + 1 + v1 < 200000 := by omega
  generalize hQ : q + 1 + v1 = Q at hq0 hq1
  have hQm : Mid Q := small_mid hq0 (by omega)
  have i0 : 0 ≤ Q * 11 % 26 := Int.emod_nonneg _ (by omega)
  have i1 : Q * 11 % 26 < 26 := Int.emod_lt_of_pos _ (by omega)
  have d0 : 0 ≤ Q / 26 := Int.ediv_nonneg hq0 (by omega)
  have d1 : Q / 26 ≤ Q := Int.ediv_le_self _ hq0
  have j0 : 0 ≤ Q / 26 * 7 % 26 := Int.emod_nonneg _ (by omega)
  have j1 : Q / 26 * 7 % 26 < 26 := Int.emod_lt_of_pos _ (by omega)
  have m11 : Mid (11 : Int) := by unfold Mid; decide
  have m7 : Mid (7 : Int) := by unfold Mid; decide
  have m26 : Mid (26 : Int) := by unfold Mid; decide
  have hd26 : Mid (Q / 26) := small_mid d0 (by omega)
  -- the first two letters
  let ec : Ec := ecOf P wf (n + 1) Mf.fd__law_word.md
  have s0 : evS ec (.set (.nm 2) (.con (.str letters))) [some pot, some (.list [.int q]), none, none, none] = some (.nx, [some pot, some (.list [.int q]), some (.str letters), none, none]) := rfl
  have s1 : evS ec (.put 1 (.con (.int 0)) (.bin .Add (.bin .Add (.idx (.var 1) (.con (.int 0))) (.con (.int 1))) (.call 7 [(.var 0), (.con (.int 3))]))) [some pot, some (.list [.int q]), some (.str letters), none, none] =
      some (.nx, [some pot1, some (.list [.int Q]), some (.str letters), none, none]) := by
    simp [ec, evS, ev, evs, varV, varE, plainV, View.o, binE, idxE, Op.res, Mp.get, Mp.put, Ec.mode, nx, Mf.fd__law_word, fm, asV, Mp.callWith, refsOf, arAll, Ar.res, outs, Mp.wipe, t1, idx1, bin_add, ixN, hQ]
  have s2 : evS ec (.set (.nm 3) (.bin .Add (.idx (.var 2) (.bin .Mod (.bin .Mult (.idx (.var 1) (.con (.int 0))) (.con (.int 11))) (.con (.int 26)))) (.idx (.var 2) (.bin .Mod (.bin .Mult (.bin .FloorDiv (.idx (.var 1) (.con (.int 0))) (.con (.int 26))) (.con (.int 7))) (.con (.int 26)))))) [some pot1, some (.list [.int Q]), some (.str letters), none, none] =
      some (.nx, [some pot1, some (.list [.int Q]), some (.str letters), some (.str (tx [97 + (Q * 11 % 26).toNat, 97 + (Q / 26 * 7 % 26).toNat])), none]) := by
    have ad := add_tx (a := [97 + (Q * 11 % 26).toNat]) (b := [97 + (Q / 26 * 7 % 26).toNat]) (by simp)
    simp [ec, evS, ev, evs, varV, varE, plainV, View.o, binE, idxE, Op.res, Mp.get, Mp.put, Mp.assign, Ec.mode, nx, Mf.fd__law_word, idx1, bin_mul hQm m11, bin_mod, bin_fdiv (show (0 : Int) < 26 by decide) m26, bin_mul hd26 m7, letter_at i0 i1, letter_at j0 j1, ad]
  -- the other letters
  generalize hc0 : 97 + (Q * 11 % 26).toNat = c0 at s2
  generalize hc1 : 97 + (Q / 26 * 7 % 26).toNat = c1 at s2
  obtain ⟨k, hk⟩ : ∃ k : Nat, v2 = k := ⟨v2.toNat, by omega⟩
  have hrng : intRange 0 v2.toNat = (List.range k).map fun (i : Nat) => PyData.int (0 + (i : Int)) := by rw [hk]; rfl
  let I : Nat → Mp.Env → Prop := fun i r => ∃ pot rest, r = [some pot, some (.list [.int Q]), some (.str letters), some (.str (tx (c0 :: c1 :: rest))), none] ∧ rest.length = i ∧ i ≤ 6 ∧ (∀ c ∈ rest, 97 ≤ c ∧ c ≤ 122) ∧ Pot (m + 2 + i) pot
  have s3 : ∃ r', evS ec (.for_ [4] (.nm 4) (.rng [(.call 7 [(.var 0), (.con (.int 7))])]) [.set (.nm 3) (.bin .Add (.var 3) (.idx (.var 2) (.call 7 [(.var 0), (.con (.int 26))])))]) [some pot1, some (.list [.int Q]), some (.str letters), some (.str (tx [c0, c1])), none] = some (.nx, r') ∧ I k r' := by
    have loop := forL_inv (ok := fun r => (⟨intRange 0 v2.toNat, none⟩ : Mp.Its).ok r) (w := fun e => Mp.wipe e [4]) (tg := Mp.assign ec (.nm 4)) (body := evSs ec [.set (.nm 3) (.bin .Add (.var 3) (.idx (.var 2) (.call 7 [(.var 0), (.con (.int 26))])))]) I (fun _ _ _ => rfl)
      (intRange 0 v2.toNat) 0 [some pot2, some (.list [.int Q]), some (.str letters), some (.str (tx [c0, c1])), none] ⟨pot2, [], rfl, rfl, by omega, by simp, by simpa using hp2⟩ (fun j d r hd hr => by
        obtain ⟨potj, rest, rfl, hl, h6, hc, hpj⟩ := hr
        have hj : j < k := by
          rw [hrng] at hd
          have := (List.getElem?_eq_some_iff.mp hd).1
          simpa using this
        obtain ⟨v, pot', t, w0, w1, hp'⟩ := take_spec (wf := wf) (n := n) h7 hpj (k := 26) (by omega) (by omega) (by omega)
        have ad : Mp.bin .Add (.str (tx (c0 :: c1 :: rest))) (.str (tx [97 + v.toNat])) = some (.str (tx (c0 :: c1 :: (rest ++ [97 + v.toNat])))) := add_tx (by simp; omega)
        have lt := letter_at w0 w1
        refine ⟨[some potj, some (.list [.int Q]), some (.str letters), some (.str (tx (c0 :: c1 :: rest))), some d], [some pot', some (.list [.int Q]), some (.str letters), some (.str (tx (c0 :: c1 :: rest ++ [97 + v.toNat]))), some d], ?_, .inl ?_, ?_⟩
        · simp [Mp.assign, Ec.mode, ec, Mf.fd__law_word, Mp.wipe, Mp.put]
        · simp [ec, evSs, evS, thenS, ev, evs, varV, varE, plainV, View.o, binE, idxE, Op.res, Mp.get, Mp.put, Mp.assign, Ec.mode, nx, Mf.fd__law_word, fm, asV, Mp.callWith, refsOf, arAll, Ar.res, outs, Mp.wipe, t, lt, ad]
        · refine ⟨pot', rest ++ [97 + v.toNat], ?_, by simp; omega, by omega, fun c hc' => ?_, by rw [show m + 2 + (0 + j + 1) = m + 2 + (0 + j) + 1 by omega]; exact hp'⟩
          · simp [Mp.wipe]
          · rcases List.mem_append.mp hc' with z | z
            · exact hc c z
            · simp at z; omega)
    obtain ⟨r', e, hI⟩ := loop
    refine ⟨r', ?_, ?_⟩
    · have hi : (ev ec (.rng [(.call 7 [(.var 0), (.con (.int 7))])])).i [some pot1, some (.list [.int Q]), some (.str letters), some (.str (tx [c0, c1])), none] = some (⟨intRange 0 v2.toNat, none⟩, [some pot2, some (.list [.int Q]), some (.str letters), some (.str (tx [c0, c1])), none]) := by
        have sm : small62 v2 = true := by unfold small62; exact decide_eq_true (by omega)
        simp [ec, ev, evs, rngV, varV, varE, plainV, View.o, Mp.get, Ec.mode, Mf.fd__law_word, fm, asV, Mp.callWith, refsOf, arAll, Ar.res, outs, Mp.wipe, t2, sm]
      show ((ev ec _).i _).bind _ = _
      rw [hi]
      exact e
    · have : (intRange 0 v2.toNat).length = k := by rw [hrng]; simp
      rw [this] at hI
      simpa using hI
  obtain ⟨r3, s3, pot3, rest, rfl, hl, h6, hc, hp3⟩ := s3
  -- no word of the language
  have fin : ∀ l : List Nat, evS ec (.ite (.cmp .In (.var 3) (.lst [(.con (.str "mark")), (.con (.str "part")), (.con (.str "same")), (.con (.str "test")), (.con (.str "sum")), (.con (.str "not")), (.con (.str "both")), (.con (.str "either"))])) [.set (.nm 3) (.bin .Add (.var 3) (.con (.str "q")))] [])
      [some pot3, some (.list [.int Q]), some (.str letters), some (.str (tx (c0 :: c1 :: rest))), none] = some (.nx, [some pot3, some (.list [.int Q]), some (.str letters), some (.str (tx l)), none]) →
      run P wf (n + 2) 10 [pot, .list [.int q]] = some (.str (tx l), [pot3, .list [.int Q]]) := fun l s4 => by
    rw [run_eq h10]
    refine fd_rt (fd := Mf.fd__law_word) (r' := [some pot3, some (.list [.int Q]), some (.str letters), some (.str (tx l)), none]) rfl ?_ rfl
    refine (thenS_nx s0).trans ((thenS_nx s1).trans ((thenS_nx s2).trans ((thenS_nx s3).trans ((thenS_nx s4).trans ?_))))
    rfl
  rw [← run_eq h10]
  have hlw : (tx (c0 :: c1 :: rest)).length = rest.length + 2 := by rw [tx_len]; simp
  by_cases hin : tx (c0 :: c1 :: rest) ∈ noWords
  · have hr4 : rest.length ≤ 4 := by
      have : ∀ w ∈ noWords, w.length ≤ 6 := by decide +kernel
      have := this _ hin
      omega
    have ad : Mp.bin .Add (.str (tx (c0 :: c1 :: rest))) (.str "q") = some (.str (tx (c0 :: c1 :: (rest ++ [113])))) := add_tx (b := [113]) (by simp; omega)
    refine ⟨_, pot3, Q, fin (c0 :: c1 :: (rest ++ [113])) ?_, by omega, by omega, ⟨⟨rest ++ [113], by rw [hc0, hc1], by simp; omega, fun c hc' => ?_⟩, ?_⟩, hp3.mono (by omega)⟩
    · simp [ec, evSs, evS, thenS, ev, evs, varV, varE, plainV, asT, View.o, binE, listE, esV, Op.res, Mp.get, Mp.put, Mp.assign, Ec.mode, nx, Mf.fd__law_word, sizeLine, in_noWords, hin, ad]
    · rcases List.mem_append.mp hc' with z | z
      · exact hc c z
      · simp at z; omega
    · have : ∀ w ∈ noWords, w ++ tx [113] ∉ noWords := by decide +kernel
      have := this _ hin
      rw [tx_app] at this
      simpa using this
  · refine ⟨_, pot3, Q, fin (c0 :: c1 :: rest) ?_, by omega, by omega, ⟨⟨rest, by rw [hc0, hc1], by omega, hc⟩, hin⟩, hp3.mono (by omega)⟩
    simp [ec, evSs, evS, thenS, ev, evs, varV, varE, plainV, asT, View.o, binE, listE, esV, Op.res, Mp.get, Mp.put, Mp.assign, Ec.mode, nx, Mf.fd__law_word, sizeLine, in_noWords, hin]
end Mg

/-! the laws' generator: a row -/
namespace Mg
open PySem L2 Mp

def sD (ss : List Str) : List D := ss.map .str
theorem sD_len (ss : List Str) : (sD ss).length = ss.length := by simp [sD]
theorem idx_sD {ss : List Str} {v : Int} (h0 : 0 ≤ v) (h1 : v < ss.length) : ∃ s, s ∈ ss ∧ Mp.idx (.list (sD ss)) (.int v) = some (.str s) := by
  have hv : v.toNat < ss.length := by omega
  refine ⟨ss[v.toNat], List.getElem_mem hv, ?_⟩
  show atI (sD ss) v = _
  unfold atI ixN
  rw [if_pos h0, if_pos (by rw [sD_len]; exact h1)]
  simp [sD, hv]
theorem len_sD (ss : List Str) : Mp.prim .len [.list (sD ss)] = some (.int (ss.length : Int)) := by
  show some (PyData.int ((sD ss).length : Nat)) = _
  rw [sD_len]
theorem fm_word {P : List FD} (h : P[10]? = some Mf.fd__law_word) : fmOf P 10 = [.io, .io] := by
  show (P[10]?.map FD.ps).getD [] = _
  rw [h]; rfl
theorem six {v : Int} (h0 : 0 ≤ v) (h1 : v < 6) : ∃ x : Int, 0 ≤ x ∧ x ≤ 3 ∧ Mp.idx (.list [.int 0, .int 1, .int 2, .int 2, .int 1, .int 3]) (.int v) = some (.int x) := by
  have : v = 0 ∨ v = 1 ∨ v = 2 ∨ v = 3 ∨ v = 4 ∨ v = 5 := by omega
  rcases this with rfl | rfl | rfl | rfl | rfl | rfl
  · exact ⟨0, by omega, by omega, rfl⟩
  · exact ⟨1, by omega, by omega, rfl⟩
  · exact ⟨2, by omega, by omega, rfl⟩
  · exact ⟨2, by omega, by omega, rfl⟩
  · exact ⟨1, by omega, by omega, rfl⟩
  · exact ⟨3, by omega, by omega, rfl⟩
theorem row_spec {P : List FD} (h7 : P[7]? = some Mf.fd__law_take) (h10 : P[10]? = some Mf.fd__law_word) (h11 : P[11]? = some Mf.fd__law_row) {wf n m : Nat} {pot : D} {q : Int} {ss : List Str} {k : Nat} (hp : Pot m pot) (hm : m + 20 ≤ 1000000) (q0 : 0 ≤ q) (q1 : q < 100000)
    (hs : 0 < ss.length) (hs1 : ss.length ≤ 1000) (hk : k ≤ 3) :
    ∃ w ps pot' q', run P wf (n + 3) 11 [pot, .list [.int q], .list (sD ss), .int k] = some (.tuple [.str w, .tuple (sD ps)], [pot', .list [.int q'], .list (sD ss), .int k]) ∧ q < q' ∧ q' ≤ q + 3 ∧ Word q' w ∧ ps.length ≤ k ∧ (∀ p ∈ ps, p ∈ ss) ∧ Pot (m + 13) pot' := by
  have fm := fm_take h7
  have fw := fm_word h10
  obtain ⟨v1, pot1, t1, v10, v11, hp1⟩ := take_spec (wf := wf) (n := n + 1) h7 hp (k := 6) (by omega) (by omega) (by omega)
  obtain ⟨x, x0, x1, hx⟩ := six v10 v11
  have hmin : Mp.prim .min [.int k, .int x] = some (.int (if x < k then x else k)) := rfl
  generalize hj : (if x < (k : Int) then x else k) = j at hmin
  have j0 : 0 ≤ j := by rw [← hj]; split <;> omega
  have j1 : j ≤ k := by rw [← hj]; split <;> omega
  have j3 : j ≤ 3 := by omega
  let ec : Ec := ecOf P wf (n + 2) Mf.fd__law_row.md
  let R : D → Option D → Mp.Env := fun p t => [some p, some (.list [.int q]), some (.list (sD ss)), some (.int k), t, none]
  let I : List D → Mp.Env → Prop := fun acc r => ∃ p ps, acc = sD ps ∧ r = R p none ∧ (∀ s ∈ ps, s ∈ ss) ∧ ps.length ≤ 3 ∧ Pot (m + 1 + ps.length) p
  have hr : (intRange 0 j.toNat).length = j.toNat := by simp [intRange]
  have s0 : ∃ p ps, evS ec (.set (.nm 4) (.prim .tuple [(.comp [5] (.nm 5) (.rng [(.prim .min [(.var 3), (.idx (.lst [(.con (.int 0)), (.con (.int 1)), (.con (.int 2)), (.con (.int 2)), (.con (.int 1)), (.con (.int 3))]) (.call 7 [(.var 0), (.con (.int 6))]))])]) [] (.idx (.var 2) (.call 7 [(.var 0), (.prim .len [(.var 2)])])))])) (R pot none) =
      some (.nx, R p (some (.tuple (sD ps)))) ∧ (∀ s ∈ ps, s ∈ ss) ∧ ps.length ≤ k ∧ Pot (m + 4) p := by
    have src : (ev ec (.rng [(.prim .min [(.var 3), (.idx (.lst [(.con (.int 0)), (.con (.int 1)), (.con (.int 2)), (.con (.int 2)), (.con (.int 1)), (.con (.int 3))]) (.call 7 [(.var 0), (.con (.int 6))]))])])).i (R pot none) = some (⟨intRange 0 j.toNat, none⟩, R pot1 none) := by
      have sm : small62 j = true := by unfold small62; exact decide_eq_true (by omega)
      simp [R, ec, ev, evs, rngV, primE, osV, resAll, varV, varE, plainV, listE, esV, View.o, idxE, Op.res, Mp.get, Ec.mode, Mf.fd__law_row, fm, asV, Mp.callWith, refsOf, arAll, Ar.res, outs, Mp.wipe, t1, hx, hmin, sm, sizeLine]
    obtain ⟨out, r', e, ⟨p, ps, rfl, rfl, a1, a2, a3⟩, hl⟩ := compL_inv (ok := fun r => (⟨intRange 0 j.toNat, none⟩ : Mp.Its).ok r) (w := fun e => Mp.wipe e [5]) (tg := Mp.assign ec (.nm 5)) (elt := (ev ec (.idx (.var 2) (.call 7 [(.var 0), (.prim .len [(.var 2)])]))).e) I j.toNat (by simp [sizeLine]; omega) (fun _ _ _ => rfl)
      (intRange 0 j.toNat) [] (R pot1 none) ⟨pot1, [], rfl, rfl, by simp, by simp, by simpa using hp1⟩ (by simpa using hr) (fun acc d r hd hlt hI => by
        obtain ⟨p, ps, rfl, rfl, a1, a2, a3⟩ := hI
        rw [sD_len] at hlt
        obtain ⟨v, p', t, w0, w1, hp'⟩ := take_spec (wf := wf) (n := n + 1) h7 a3 (k := ss.length) (by omega) (by omega) (by omega)
        obtain ⟨s, s1, s2⟩ := idx_sD w0 w1
        have hl := len_sD ss
        refine ⟨[some p, some (.list [.int q]), some (.list (sD ss)), some (.int k), none, some d], .str s, [some p', some (.list [.int q]), some (.list (sD ss)), some (.int k), none, some d], ?_, ?_, p', ps ++ [s], by simp [sD], by simp [R, Mp.wipe], fun s' hs' => ?_, by simp; omega, by simp; rw [show m + 1 + (ps.length + 1) = m + 1 + ps.length + 1 by omega]; exact hp'⟩
        · simp [R, Mp.assign, Ec.mode, ec, Mf.fd__law_row, Mp.wipe, Mp.put]
        · simp [R, ec, ev, evs, primE, osV, resAll, varV, varE, plainV, View.o, idxE, Op.res, Mp.get, Ec.mode, Mf.fd__law_row, fm, asV, Mp.callWith, refsOf, arAll, Ar.res, outs, Mp.wipe, hl, t, s2]
        · rcases List.mem_append.mp hs' with z | z
          · exact a1 s' z
          · simp at z; rw [z]; exact s1)
    rw [sD_len] at hl
    refine ⟨p, ps, ?_, a1, by omega, a3.mono (by omega)⟩
    have hcomp : (ev ec (.comp [5] (.nm 5) (.rng [(.prim .min [(.var 3), (.idx (.lst [(.con (.int 0)), (.con (.int 1)), (.con (.int 2)), (.con (.int 2)), (.con (.int 1)), (.con (.int 3))]) (.call 7 [(.var 0), (.con (.int 6))]))])]) [] (.idx (.var 2) (.call 7 [(.var 0), (.prim .len [(.var 2)])])))).e (R pot none) = some (.list (sD ps), R p none) := by
      show (compE ec [5] (.nm 5) _ [] _ (R pot none)) = _
      unfold compE
      rw [src]
      show ((compL _ _ _ _ _ _ [] (Mp.wipe (R pot1 none) [5])).map _) = _
      rw [show Mp.wipe (R pot1 none) [5] = R pot1 none from rfl, e]
      rfl
    show (((ev ec (.prim .tuple [_])).e (R pot none)).bind _) = _
    have hpr : (ev ec (.prim .tuple [(.comp [5] (.nm 5) (.rng [(.prim .min [(.var 3), (.idx (.lst [(.con (.int 0)), (.con (.int 1)), (.con (.int 2)), (.con (.int 2)), (.con (.int 1)), (.con (.int 3))]) (.call 7 [(.var 0), (.con (.int 6))]))])]) [] (.idx (.var 2) (.call 7 [(.var 0), (.prim .len [(.var 2)])])))])).e (R pot none) = some (.tuple (sD ps), R p none) := by
      show primE ec .tuple [ev ec _] (R pot none) = _
      unfold primE osV View.o
      show ((((ev ec _).e (R pot none)).map _).bind _ |>.bind _) = _
      rw [hcomp]
      rfl
    rw [hpr]
    rfl
  obtain ⟨p, ps, s0, a1, a2, a3⟩ := s0
  obtain ⟨w, p', q', tw, g1, g2, g3, g4⟩ := word_spec (wf := wf) (n := n) h7 h10 a3 (by omega) q0 q1
  refine ⟨w, ps, p', q', ?_, g1, g2, g3, a2, a1, g4.mono (by omega)⟩
  rw [run_eq h11]
  refine fd_rt (fd := Mf.fd__law_row) (r' := [some p', some (.list [.int q']), some (.list (sD ss)), some (.int k), some (.tuple (sD ps)), none]) rfl ?_ rfl
  refine (thenS_nx s0).trans ?_
  have hp2 := a3.lst
  simp [R, evSs, evS, thenS, ev, evs, varV, varE, plainV, esV, Mp.get, Ec.mode, nx, Mf.fd__law_row, fw, asV, Mp.callWith, refsOf, arAll, Ar.res, outs, Mp.wipe, tw, sizeLine]
end Mg

/-! the laws' generator: words apart from one another -/
namespace Mg
open PySem L2 Mp

/-- a word that was drawn between a and b -/
def Nm (a b : Int) (w : Str) : Prop := ∃ q, a < q ∧ q ≤ b ∧ Word q w
theorem tx_inj {a b : List Nat} (h : tx a = tx b) : a = b := by
  have := congrArg (fun s : Str => s.cps.toList) h
  simpa [tx] using this
theorem Word.apart {q q' : Int} {w : Str} (h : Word q w) (h' : Word q' w) (hd : q < q') (hs : q' - q < 676) (q0 : 0 ≤ q) : False := by
  obtain ⟨r, e, _⟩ := h.ex
  obtain ⟨r', e', _⟩ := h'.ex
  have := tx_inj (e.symm.trans e')
  simp only [List.cons.injEq] at this
  obtain ⟨h1, h2, _⟩ := this
  have a1 : 0 ≤ q * 11 % 26 := Int.emod_nonneg _ (by omega)
  have a2 : 0 ≤ q' * 11 % 26 := Int.emod_nonneg _ (by omega)
  have b1 : 0 ≤ q / 26 * 7 % 26 := Int.emod_nonneg _ (by omega)
  have b2 : 0 ≤ q' / 26 * 7 % 26 := Int.emod_nonneg _ (by omega)
  omega
theorem Nm.ne {a b c d : Int} {w w' : Str} (h : Nm a b w) (h' : Nm c d w') (hb : b ≤ c) (hs : d - a < 676) (a0 : 0 ≤ a) : w ≠ w' := by
  rintro rfl
  obtain ⟨q, h1, h2, h3⟩ := h
  obtain ⟨q', k1, k2, k3⟩ := h'
  exact h3.apart k3 (by omega) (by omega) (by omega)
theorem Nm.mono {a b c d : Int} {w : Str} (h : Nm a b w) (h1 : c ≤ a) (h2 : b ≤ d) : Nm c d w := by
  obtain ⟨q, k1, k2, k3⟩ := h
  exact ⟨q, by omega, by omega, k3⟩
/-- words all unlike, drawn between a and b -/
structure Bag (a b : Int) (ws : List Str) : Prop where
  nd : ws.Nodup
  nm : ∀ w ∈ ws, Nm a b w
theorem Bag.nil {a b : Int} : Bag a b [] := ⟨List.nodup_nil, fun _ h => by cases h⟩
theorem Bag.app {a b c : Int} {ws vs : List Str} (h : Bag a b ws) (h' : Bag b c vs) (hab : a ≤ b) (hbc : b ≤ c) (hs : c - a < 676) (a0 : 0 ≤ a) : Bag a c (ws ++ vs) := by
  refine ⟨List.nodup_append.mpr ⟨h.nd, h'.nd, fun x hx y hy => (h.nm x hx).ne (h'.nm y hy) (Int.le_refl _) hs a0⟩, fun w hw => ?_⟩
  rcases List.mem_append.mp hw with z | z
  · exact (h.nm w z).mono (Int.le_refl _) hbc
  · exact (h'.nm w z).mono hab (Int.le_refl _)
theorem Bag.one {a b : Int} {w : Str} (h : Nm a b w) : Bag a b [w] := ⟨by simp, fun x hx => by simp at hx; rw [hx]; exact h⟩
theorem Bag.mono {a b c d : Int} {ws : List Str} (h : Bag a b ws) (h1 : c ≤ a) (h2 : b ≤ d) : Bag c d ws := ⟨h.nd, fun w hw => (h.nm w hw).mono h1 h2⟩
/-- words that a comprehension draws -/
theorem words_comp {P : List FD} (h7 : P[7]? = some Mf.fd__law_take) (h10 : P[10]? = some Mf.fd__law_word) {wf n m : Nat} {md : List Md} (hmd : md = Mf.fd__law_kinds.md) {pot : D} {q : Int} {tl : Mp.Env} {x2 x3 : Option D} {src : E} {k : Nat}
    (hs : (ev (ecOf P wf (n + 2) md) src).i (some pot :: some (.list [.int q]) :: x2 :: x3 :: none :: tl) = some (⟨intRange 0 k, none⟩, some pot :: some (.list [.int q]) :: x2 :: x3 :: none :: tl)) (hk : k ≤ 5)
    (hp : Pot m pot) (hm : m + 100 ≤ 1000000) (q0 : 0 ≤ q) (q1 : q < 90000) :
    ∃ ws pot' q', (ev (ecOf P wf (n + 2) md) (.comp [4] (.nm 4) src [] (.call 10 [(.var 0), (.var 1)]))).e (some pot :: some (.list [.int q]) :: x2 :: x3 :: none :: tl) = some (.list (sD ws), some pot' :: some (.list [.int q']) :: x2 :: x3 :: none :: tl) ∧
      ws.length = k ∧ Bag q q' ws ∧ q ≤ q' ∧ q' ≤ q + 3 * k ∧ Pot (m + 9 * k) pot' := by
  subst hmd
  have fw := fm_word h10
  let ec : Ec := ecOf P wf (n + 2) Mf.fd__law_kinds.md
  let I : List D → Mp.Env → Prop := fun acc r => ∃ ws p Q, acc = sD ws ∧ r = some p :: some (.list [.int Q]) :: x2 :: x3 :: none :: tl ∧ Bag q Q ws ∧ q ≤ Q ∧ Q ≤ q + 3 * ws.length ∧ Pot (m + 9 * ws.length) p
  have hr : (intRange 0 k).length = k := by simp [intRange]
  obtain ⟨out, r', e, ⟨ws, p, Q, rfl, rfl, a1, a2, a3, a4⟩, hl⟩ := compL_inv (ok := fun r => (⟨intRange 0 k, none⟩ : Mp.Its).ok r) (w := fun e => Mp.wipe e [4]) (tg := Mp.assign ec (.nm 4)) (elt := (ev ec (.call 10 [(.var 0), (.var 1)])).e) I k (by simp [sizeLine]; omega) (fun _ _ _ => rfl)
    (intRange 0 k) [] (some pot :: some (.list [.int q]) :: x2 :: x3 :: none :: tl) ⟨[], pot, q, rfl, rfl, .nil, by omega, by simp, by simpa using hp⟩ (by simpa using hr) (fun acc d r hd hlt hI => by
      obtain ⟨ws, p, Q, rfl, rfl, a1, a2, a3, a4⟩ := hI
      rw [sD_len] at hlt
      obtain ⟨w, p', Q', t, g1, g2, g3, g4⟩ := word_spec (wf := wf) (n := n) h7 h10 a4 (by omega) (q := Q) (by omega) (by omega)
      refine ⟨some p :: some (.list [.int Q]) :: x2 :: x3 :: some d :: tl, .str w, some p' :: some (.list [.int Q']) :: x2 :: x3 :: some d :: tl, ?_, ?_, ws ++ [w], p', Q', by simp [sD], by simp [Mp.wipe], a1.app (.one ⟨Q', by omega, by omega, g3⟩) a2 (by omega) (by omega) q0, by omega, by simp; omega, by simp; exact g4.mono (by omega)⟩
      · simp [Mp.assign, Ec.mode, ec, Mf.fd__law_kinds, Mp.wipe, Mp.put]
      · simp [ec, ev, evs, varV, varE, plainV, Mp.get, Ec.mode, Mf.fd__law_kinds, fw, asV, Mp.callWith, refsOf, arAll, Ar.res, outs, Mp.wipe, t])
  rw [sD_len] at hl
  refine ⟨ws, p, Q, ?_, hl, a1, a2, by omega, a4.mono (by omega)⟩
  show (compE ec [4] (.nm 4) _ [] _ _) = _
  unfold compE
  rw [hs]
  show ((compL _ _ _ _ _ _ [] (Mp.wipe _ [4])).map _) = _
  rw [show Mp.wipe (some pot :: some (.list [.int q]) :: x2 :: x3 :: none :: tl) [4] = some pot :: some (.list [.int q]) :: x2 :: x3 :: none :: tl from rfl, e]
  rfl
end Mg

/-! kinds -/
namespace Mg
open PySem L2 Mp

abbrev Row := Str × List Str
abbrev Kind := Str × List Row
abbrev KS := List Kind
def rowD (r : Row) : D := .tuple [.str r.1, .tuple (sD r.2)]
def rowsD (rs : List Row) : D := .tuple (rs.map rowD)
def kindD (k : Kind) : D := .tuple [.str k.1, rowsD k.2]
def ksD (ks : KS) : D := .tuple (ks.map kindD)
def kindNames (ks : KS) : List Str := ks.map (·.1)
def makers (ks : KS) : List Str := ks.flatMap fun k => k.2.map (·.1)
/-- a name -/
def Named (w : Str) : Prop := ∃ l : List Nat, w = tx l ∧ 1 ≤ l.length ∧ l.length ≤ 8 ∧ (∀ c ∈ l, 97 ≤ c ∧ c ≤ 122) ∧ w ∉ noWords
/-- what is_kinds asks -/
structure KOk (ks : KS) : Prop where
  len : 1 ≤ ks.length ∧ ks.length ≤ 5
  rows : ∀ k ∈ ks, 1 ≤ k.2.length ∧ k.2.length ≤ 4
  parts : ∀ k ∈ ks, ∀ r ∈ k.2, r.2.length ≤ 3 ∧ ∀ p ∈ r.2, p = "mark" ∨ p ∈ kindNames ks
  nd : (kindNames ks ++ makers ks).Nodup
  nm : ∀ w ∈ kindNames ks ++ makers ks, Named w
  rank : ∃ rk : Str → Nat, (∀ k ∈ ks, rk k.1 < ks.length) ∧ ∀ k ∈ ks, ∃ r ∈ k.2, ∀ p ∈ r.2, p = "mark" ∨ (p ∈ kindNames ks ∧ rk p < rk k.1)
theorem Word.named {q : Int} {w : Str} (h : Word q w) : Named w := by
  obtain ⟨rest, e, h1, h2⟩ := h.ex
  refine ⟨_, e, by simp, by simp; omega, fun c hc => ?_, h.no⟩
  have a1 : q * 11 % 26 < 26 := Int.emod_lt_of_pos _ (by omega)
  have b1 : q / 26 * 7 % 26 < 26 := Int.emod_lt_of_pos _ (by omega)
  rcases List.mem_cons.mp hc with rfl | hc
  · omega
  · rcases List.mem_cons.mp hc with rfl | hc
    · omega
    · exact h2 c hc
/-- kinds turned about -/
theorem KOk.perm {ks ks' : KS} (h : KOk ks) (p : ks'.Perm ks) : KOk ks' := by
  have hl := p.length_eq
  have pn : (kindNames ks').Perm (kindNames ks) := p.map _
  have pm : (makers ks').Perm (makers ks) := p.flatMap_right _
  obtain ⟨rk, r1, r2⟩ := h.rank
  refine ⟨by rw [hl]; exact h.len, fun k hk => h.rows k (p.mem_iff.mp hk), fun k hk r hr => ?_, ((pn.append pm).nodup_iff).mpr h.nd, fun w hw => h.nm w ((pn.append pm).mem_iff.mp hw), rk, fun k hk => by rw [hl]; exact r1 k (p.mem_iff.mp hk), fun k hk => ?_⟩
  · obtain ⟨h1, h2⟩ := h.parts k (p.mem_iff.mp hk) r hr
    exact ⟨h1, fun q hq => (h2 q hq).imp id fun z => pn.mem_iff.mpr z⟩
  · obtain ⟨r, hr, h1⟩ := r2 k (p.mem_iff.mp hk)
    exact ⟨r, hr, fun q hq => (h1 q hq).imp id fun z => ⟨pn.mem_iff.mpr z.1, z.2⟩⟩
theorem slice_to {xs : List D} {i : Int} (h : 0 ≤ i) : Mp.slice (.list xs) none (some i) = some (.list (xs.take i.toNat)) := by
  show some (PyData.list (cut xs none (some i))) = _
  unfold cut
  obtain ⟨k, rfl⟩ : ∃ k : Nat, i = k := ⟨i.toNat, by omega⟩
  rw [HT.sIx_none, HT.sIx_nat]
  simp [List.take_eq_take_iff]
theorem slice_from {xs : List D} {i : Int} (h : 0 ≤ i) : Mp.slice (.list xs) (some i) none = some (.list (xs.drop i.toNat)) := by
  show some (PyData.list (cut xs (some i) none)) = _
  unfold cut
  obtain ⟨k, rfl⟩ : ∃ k : Nat, i = k := ⟨i.toNat, by omega⟩
  rw [HT.sIx_none, HT.sIx_nat]
  simp only [Int.toNat_natCast]
  by_cases hk : k ≤ xs.length
  · rw [Nat.min_eq_left hk, List.take_of_length_le (by simp)]
  · rw [Nat.min_eq_right (by omega), List.drop_eq_nil_of_le (Nat.le_refl _), List.drop_eq_nil_of_le (by omega)]
    simp
end Mg

/-! the laws' generator: the rows of a kind -/
namespace Mg
open PySem L2 Mp

/-- the kind that each sheet has -/
def markL : List Str := ["mark"]
theorem fm_row {P : List FD} (h : P[11]? = some Mf.fd__law_row) : fmOf P 11 = [.io, .io, .fz, .fz] := by
  show (P[11]?.map FD.ps).getD [] = _
  rw [h]; rfl
/-- the slots of _law_kinds on its long road -/
def E17 (pot : D) (q : Int) (way : D) (ws : List Str) (k found rows turn by_ : Option D) : Mp.Env :=
  [some pot, some (.list [.int q]), some way, some (.list (sD ws)), k, none, none, none, none, none, none, none, none, found, rows, turn, by_]
theorem add_lst {a b : List D} (h : a.length + b.length ≤ 1000) : Mp.bin .Add (.list a) (.list b) = some (.list (a ++ b)) := by
  show (if a.length + b.length ≤ sizeLine then some (PyData.list (a ++ b)) else none) = _
  rw [if_pos (by simp [sizeLine]; omega)]
theorem sD_take (ss : List Str) (k : Nat) : (sD ss).take k = sD (ss.take k) := by simp [sD]
theorem sD_app (a b : List Str) : sD a ++ sD b = sD (a ++ b) := by simp [sD]
section
variable {P : List FD} (h7 : P[7]? = some Mf.fd__law_take) (h10 : P[10]? = some Mf.fd__law_word) (h11 : P[11]? = some Mf.fd__law_row)
include h7 h10 h11
abbrev ecK (P : List FD) (wf n : Nat) : Ec := ecOf P wf n Mf.fd__law_kinds.md
/-- the first row: of marks and kinds ahead -/
theorem first_row {wf n m : Nat} {pot way : D} {q : Int} {ws : List Str} {k : Nat} {found : Option D} (hp : Pot m pot) (hm : m + 500 ≤ 1000000) (q0 : 0 ≤ q) (q1 : q < 90000) (hw : ws.length ≤ 5) (hk : k < ws.length) :
    ∃ r pot' q', evS (ecK P wf (n + 3)) (.own 14 (.lst [(.call 11 [(.var 0), (.var 1), (.bin .Add (.slc (.var 3) .abs (.var 4)) (.lst [(.con (.str "mark"))])), (.con (.int 2))])])) (E17 pot q way ws (some (.int k)) found none none none) =
        some (.nx, E17 pot' q' way ws (some (.int k)) found (some (.list [rowD r])) none none) ∧ q ≤ q' ∧ q' ≤ q + 3 ∧ Nm q q' r.1 ∧ r.2.length ≤ 3 ∧ (∀ p ∈ r.2, p ∈ ws.take k ++ markL) ∧ Pot (m + 13) pot' := by
  have fr := fm_row h11
  obtain ⟨w, ps, pot', q', t, g1, g2, g3, g4, g5, g6⟩ := row_spec (wf := wf) (n := n) h7 h10 h11 hp (by omega) q0 (by omega) (ss := ws.take k ++ markL) (by simp [markL]) (by simp [markL]; omega) (k := 2) (by omega)
  have t : Mp.run P wf (n + 3) 11 [pot, .list [.int q], .list (sD (ws.take k ++ markL)), .int 2] = some (.tuple [.str w, .tuple (sD ps)], [pot', .list [.int q'], .list (sD (ws.take k ++ markL)), .int 2]) := t
  refine ⟨(w, ps), pot', q', ?_, by omega, by omega, ⟨q', by omega, by omega, g3⟩, by show ps.length ≤ 3; omega, g5, g6⟩
  have sl : Mp.slice (.list (sD ws)) none (some (k : Int)) = some (.list (sD (ws.take k))) := by
    rw [slice_to (by omega), Int.toNat_natCast, sD_take]
  have ad : Mp.bin .Add (.list (sD (ws.take k))) (.list [.str "mark"]) = some (.list (sD (ws.take k ++ markL))) := by
    rw [add_lst (by rw [sD_len]; simp; omega), show ([.str "mark"] : List D) = sD markL from rfl, sD_app]
  simp [E17, ecK, evS, ev, evs, varV, varE, plainV, asP, noneE, View.o, binE, slcE, Op.res, Mp.get, Mp.put, Ec.mode, nx, Mf.fd__law_kinds, fr, asV, Mp.callWith, refsOf, arAll, Ar.res, outs, Mp.wipe, listE, esV, freshE, sl, ad, t, sizeLine, rowD]
/-- a row more: of any kinds -/
theorem more_row {wf n m : Nat} {pot way : D} {q : Int} {ws : List Str} {k : Option D} {found turn : Option D} {rs : List Row} (hp : Pot m pot) (hm : m + 500 ≤ 1000000) (q0 : 0 ≤ q) (q1 : q < 90000) (hw : ws.length ≤ 5) (hr : rs.length ≤ 10) :
    ∃ r pot' q', evS (ecK P wf (n + 3)) (.exp (.app 14 (.call 11 [(.var 0), (.var 1), (.bin .Add (.var 3) (.lst [(.con (.str "mark"))])), (.con (.int 3))]))) (E17 pot q way ws k found (some (.list (rs.map rowD))) turn none) =
        some (.nx, E17 pot' q' way ws k found (some (.list ((rs ++ [r]).map rowD))) turn none) ∧ q ≤ q' ∧ q' ≤ q + 3 ∧ Nm q q' r.1 ∧ r.2.length ≤ 3 ∧ (∀ p ∈ r.2, p ∈ ws ++ markL) ∧ Pot (m + 13) pot' := by
  have fr := fm_row h11
  obtain ⟨w, ps, pot', q', t, g1, g2, g3, g4, g5, g6⟩ := row_spec (wf := wf) (n := n) h7 h10 h11 hp (by omega) q0 (by omega) (ss := ws ++ markL) (by simp [markL]) (by simp [markL]; omega) (k := 3) (by omega)
  have t : Mp.run P wf (n + 3) 11 [pot, .list [.int q], .list (sD (ws ++ markL)), .int 3] = some (.tuple [.str w, .tuple (sD ps)], [pot', .list [.int q'], .list (sD (ws ++ markL)), .int 3]) := t
  refine ⟨(w, ps), pot', q', ?_, by omega, by omega, ⟨q', by omega, by omega, g3⟩, by show ps.length ≤ 3; omega, g5, g6⟩
  have ad : Mp.bin .Add (.list (sD ws)) (.list [.str "mark"]) = some (.list (sD (ws ++ markL))) := by
    rw [add_lst (by rw [sD_len]; simp; omega), show ([.str "mark"] : List D) = sD markL from rfl, sD_app]
  have hz : rs.length < 16777216 := by omega
  simp [E17, ecK, evS, ev, evs, varV, varE, plainV, appE, isLst, View.o, binE, Op.res, Mp.get, Mp.put, Ec.mode, nx, Mf.fd__law_kinds, fr, asV, Mp.callWith, refsOf, arAll, Ar.res, outs, Mp.wipe, listE, esV, ad, t, sizeLine, rowD, hz]
end
end Mg

/-! the laws' generator: a kind -/
namespace Mg
open PySem L2 Mp

abbrev sFirst : S := .own 14 (.lst [(.call 11 [(.var 0), (.var 1), (.bin .Add (.slc (.var 3) .abs (.var 4)) (.lst [(.con (.str "mark"))])), (.con (.int 2))])])
abbrev sMore : S := .exp (.app 14 (.call 11 [(.var 0), (.var 1), (.bin .Add (.var 3) (.lst [(.con (.str "mark"))])), (.con (.int 3))]))
abbrev sInner : S := .for_ [15] (.nm 15) (.rng [(.call 7 [(.var 0), (.con (.int 4))])]) [sMore]
abbrev sBy : S := .set (.nm 16) (.call 7 [(.var 0), (.prim .len [(.var 14)])])
abbrev sApp : S := .exp (.app 13 (.tup [(.idx (.var 3) (.var 4)), (.prim .tuple [(.bin .Add (.slc (.var 14) (.var 16) .abs) (.slc (.var 14) .abs (.var 16)))])]))
/-- what is known of a drawn kind's rows: the k-th of the kinds ws -/
structure RowsOk (ws : List Str) (k : Nat) (a b : Int) (rs : List Row) : Prop where
  len : 1 ≤ rs.length ∧ rs.length ≤ 4
  bag : Bag a b (rs.map (·.1))
  all : ∀ r ∈ rs, r.2.length ≤ 3 ∧ ∀ p ∈ r.2, p ∈ ws ++ markL
  one : ∃ r ∈ rs, ∀ p ∈ r.2, p ∈ ws.take k ++ markL
section
variable {P : List FD} (h7 : P[7]? = some Mf.fd__law_take) (h10 : P[10]? = some Mf.fd__law_word) (h11 : P[11]? = some Mf.fd__law_row)
include h7 h10 h11
theorem inner_rows {wf n m : Nat} {pot way : D} {q : Int} {ws : List Str} {k : Nat} {found : Option D} {r0 : Row} {qa : Int} (hp : Pot m pot) (hm : m + 600 ≤ 1000000) (qa0 : 0 ≤ qa) (q0 : qa ≤ q) (qz : q ≤ qa + 3) (q1 : q < 80000) (hw : ws.length ≤ 5) (hk : k < ws.length)
    (hr0 : Nm qa q r0.1) (hr1 : r0.2.length ≤ 3) (hr2 : ∀ p ∈ r0.2, p ∈ ws.take k ++ markL) :
    ∃ rs pot' q', evS (ecK P wf (n + 3)) sInner (E17 pot q way ws (some (.int k)) found (some (.list [rowD r0])) none none) =
        some (.nx, E17 pot' q' way ws (some (.int k)) found (some (.list (rs.map rowD))) none none) ∧ RowsOk ws k qa q' rs ∧ q ≤ q' ∧ q' ≤ qa + 12 ∧ Pot (m + 60) pot' := by
  have fm := fm_take h7
  obtain ⟨v, pot1, t1, v0, v1, hp1⟩ := take_spec (wf := wf) (n := n + 2) h7 hp (k := 4) (by omega) (by omega) (by omega)
  let I : Nat → Mp.Env → Prop := fun j r => ∃ (p : D) (Q : Int) (rs : List Row), r = E17 p Q way ws (some (.int k)) found (some (.list (rs.map rowD))) none none ∧ rs.length = 1 + j ∧ j ≤ 3 ∧ Bag qa Q (rs.map (·.1)) ∧ q ≤ Q ∧ Q ≤ qa + 3 * (1 + j) ∧
    (∀ r ∈ rs, r.2.length ≤ 3 ∧ ∀ p ∈ r.2, p ∈ ws ++ markL) ∧ (∃ r ∈ rs, ∀ p ∈ r.2, p ∈ ws.take k ++ markL) ∧ Pot (m + 1 + 13 * j) p
  have hl : (intRange 0 v.toNat).length = v.toNat := by simp [intRange]
  have sub0 : ∀ p, p ∈ ws.take k ++ markL → p ∈ ws ++ markL := fun p h => by
    rcases List.mem_append.mp h with z | z
    · exact List.mem_append_left _ (List.mem_of_mem_take z)
    · exact List.mem_append_right _ z
  obtain ⟨r', e, p, Q, rs, rfl, a1, a2, a3, a4, a5, a6, a7, a8⟩ := forL_inv (ok := fun r => (⟨intRange 0 v.toNat, none⟩ : Mp.Its).ok r) (w := fun e => Mp.wipe e [15]) (tg := Mp.assign (ecK P wf (n + 3)) (.nm 15)) (body := evSs (ecK P wf (n + 3)) [sMore]) I (fun _ _ _ => rfl)
    (intRange 0 v.toNat) 0 (E17 pot1 q way ws (some (.int k)) found (some (.list [rowD r0])) none none) ⟨pot1, q, [r0], rfl, rfl, by omega, .one hr0, by omega, by omega, fun r hr => by simp at hr; subst hr; exact ⟨hr1, fun p h => sub0 p (hr2 p h)⟩, ⟨r0, by simp, hr2⟩, by simpa using hp1⟩ (fun j d r hd hI => by
      obtain ⟨p, Q, rs, rfl, a1, a2, a3, a4, a5, a6, a7, a8⟩ := hI
      have hj : j < v.toNat := by
        have := (List.getElem?_eq_some_iff.mp hd).1
        omega
      obtain ⟨r, p', Q', t, g1, g2, g3, g4, g5, g6⟩ := more_row h7 h10 h11 (wf := wf) (n := n) (q := Q) (way := way) (ws := ws) (k := some (.int k)) (found := found) (turn := some d) (rs := rs) a8 (by omega) (by omega) (by omega) hw (by omega)
      refine ⟨E17 p Q way ws (some (.int k)) found (some (.list (rs.map rowD))) (some d) none, E17 p' Q' way ws (some (.int k)) found (some (.list ((rs ++ [r]).map rowD))) (some d) none, ?_, .inl ?_, p', Q', rs ++ [r], ?_, by simp; omega, by omega, ?_, by omega, by omega, fun r' hr' => ?_, ?_, g6.mono (by omega)⟩
      · simp [E17, Mp.assign, Ec.mode, ecK, Mf.fd__law_kinds, Mp.wipe, Mp.put]
      · show thenS (evS _ sMore) _ _ = _
        rw [thenS_nx t]
        rfl
      · simp [E17, Mp.wipe]
      · rw [List.map_append]
        exact a3.app (.one g3) (by omega) (by omega) (by omega) qa0
      · rcases List.mem_append.mp hr' with z | z
        · exact a6 r' z
        · simp at z; rw [z]; exact ⟨g4, g5⟩
      · obtain ⟨r1, z1, z2⟩ := a7
        exact ⟨r1, List.mem_append_left _ z1, z2⟩)
  have hi : (ev (ecK P wf (n + 3)) (.rng [(.call 7 [(.var 0), (.con (.int 4))])])).i (E17 pot q way ws (some (.int k)) found (some (.list [rowD r0])) none none) = some (⟨intRange 0 v.toNat, none⟩, E17 pot1 q way ws (some (.int k)) found (some (.list [rowD r0])) none none) := by
    have sm : small62 v = true := by unfold small62; exact decide_eq_true (by omega)
    simp [E17, ecK, ev, evs, rngV, varV, varE, plainV, View.o, Mp.get, Ec.mode, Mf.fd__law_kinds, fm, asV, Mp.callWith, refsOf, arAll, Ar.res, outs, Mp.wipe, t1, sm]
  refine ⟨rs, p, Q, ?_, ⟨by omega, a3, a6, a7⟩, a4, by omega, a8.mono (by omega)⟩
  show ((ev _ _).i _).bind _ = _
  rw [hi]
  exact e
end
end Mg

/-! the laws' generator: a kind's turn -/
namespace Mg
open PySem L2 Mp

/-- a row of rows turned about -/
def rot {α : Type} (xs : List α) (b : Nat) : List α := xs.drop b ++ xs.take b
theorem rot_perm {α : Type} (xs : List α) (b : Nat) : (rot xs b).Perm xs := by
  unfold rot
  refine List.perm_append_comm.trans ?_
  rw [List.take_append_drop]
theorem rot_map {α β : Type} (f : α → β) (xs : List α) (b : Nat) : rot (xs.map f) b = (rot xs b).map f := by simp [rot]
theorem rot_D {xs : List D} {b : Int} (h : 0 ≤ b) (hz : xs.length ≤ 400) : ∃ u v, Mp.slice (.list xs) (some b) none = some u ∧ Mp.slice (.list xs) none (some b) = some v ∧ Mp.bin .Add u v = some (.list (rot xs b.toNat)) := by
  refine ⟨_, _, slice_from h, slice_to h, ?_⟩
  rw [add_lst (by simp; omega)]
  rfl
section
variable {P : List FD} (h7 : P[7]? = some Mf.fd__law_take) (h10 : P[10]? = some Mf.fd__law_word) (h11 : P[11]? = some Mf.fd__law_row)
include h7 h10 h11
theorem kind_turn {wf n m : Nat} {pot way : D} {q : Int} {ws : List Str} {k : Nat} {fs : KS} (hp : Pot m pot) (hm : m + 1000 ≤ 1000000) (q0 : 0 ≤ q) (q1 : q < 70000) (hw : ws.length ≤ 5) (hk : k < ws.length) (hf : fs.length ≤ 5) :
    ∃ (rs : List Row) (b : Nat) (pot' : D) (q' : Int) (w : Str), evSs (ecK P wf (n + 3)) [sFirst, sInner, sBy, sApp] (E17 pot q way ws (some (.int k)) (some (.list (fs.map kindD))) none none none) =
        some (.nx, E17 pot' q' way ws (some (.int k)) (some (.list ((fs ++ [(w, rot rs b)]).map kindD))) (some (.list (rs.map rowD))) none (some (.int (b : Int)))) ∧ ws[k]? = some w ∧ RowsOk ws k q q' rs ∧ q ≤ q' ∧ q' ≤ q + 12 ∧ Pot (m + 80) pot' := by
  have fm := fm_take h7
  obtain ⟨r0, p1, q1', s1, g1, g2, g3, g4, g5, g6⟩ := first_row h7 h10 h11 (wf := wf) (n := n) (way := way) (found := some (.list (fs.map kindD))) hp (by omega) q0 (by omega) hw hk
  obtain ⟨rs, p2, q2, s2, k1, k2, k3, k4⟩ := inner_rows h7 h10 h11 (wf := wf) (n := n) (way := way) (found := some (.list (fs.map kindD))) g6 (by omega) q0 g1 g2 (by omega) hw hk g3 g4 g5
  obtain ⟨l1, l2⟩ := k1.len
  obtain ⟨b, p3, t3, b0, b1, hp3⟩ := take_spec (wf := wf) (n := n + 2) h7 k4 (k := rs.length) (by omega) (by omega) (by omega)
  obtain ⟨w, hw1⟩ : ∃ w, ws[k]? = some w := ⟨_, List.getElem?_eq_getElem hk⟩
  have hlen : Mp.prim .len [.list (rs.map rowD)] = some (.int (rs.length : Int)) := by
    show some (PyData.int ((rs.map rowD).length : Nat)) = _
    rw [List.length_map]
  have s3 : evS (ecK P wf (n + 3)) sBy (E17 p2 q2 way ws (some (.int k)) (some (.list (fs.map kindD))) (some (.list (rs.map rowD))) none none) = some (.nx, E17 p3 q2 way ws (some (.int k)) (some (.list (fs.map kindD))) (some (.list (rs.map rowD))) none (some (.int b))) := by
    simp [E17, ecK, evS, ev, evs, varV, varE, plainV, View.o, primE, osV, resAll, Op.res, Mp.get, Mp.put, Mp.assign, Ec.mode, nx, Mf.fd__law_kinds, fm, asV, Mp.callWith, refsOf, arAll, Ar.res, outs, Mp.wipe, t3, hlen]
  obtain ⟨u, v, e1, e2, e3⟩ := rot_D (xs := rs.map rowD) b0 (by simp; omega)
  have e4 : Mp.idx (.list (sD ws)) (.int k) = some (.str w) := by
    show atI (sD ws) (k : Int) = _
    unfold atI ixN
    rw [if_pos (by omega), if_pos (by rw [sD_len]; omega)]
    simp [sD, hw1]
  rw [rot_map] at e3
  have e5 : Mp.prim .tuple [.list ((rot rs b.toNat).map rowD)] = some (.tuple ((rot rs b.toNat).map rowD)) := rfl
  have hz : fs.length < 16777216 := by omega
  have s4 : evS (ecK P wf (n + 3)) sApp (E17 p3 q2 way ws (some (.int k)) (some (.list (fs.map kindD))) (some (.list (rs.map rowD))) none (some (.int b))) = some (.nx, E17 p3 q2 way ws (some (.int k)) (some (.list ((fs ++ [(w, rot rs b.toNat)]).map kindD))) (some (.list (rs.map rowD))) none (some (.int b))) := by
    simp [E17, ecK, evS, ev, evs, varV, varE, plainV, asP, noneE, appE, isLst, View.o, binE, idxE, slcE, primE, osV, resAll, esV, Op.res, Mp.get, Mp.put, Ec.mode, nx, Mf.fd__law_kinds, e1, e2, e3, e4, e5, sizeLine, hz, kindD, rowsD]
  refine ⟨rs, b.toNat, p3, q2, w, ?_, hw1, k1, by omega, by omega, hp3.mono (by omega)⟩
  rw [show ((b.toNat : Nat) : Int) = b by omega]
  refine (thenS_nx s1).trans ((thenS_nx s2).trans ((thenS_nx s3).trans ((thenS_nx s4).trans rfl)))
end
end Mg

/-! the laws' generator: all kinds, in the order drawn -/
namespace Mg
open PySem L2 Mp

theorem small_of {v : Int} (h0 : 0 ≤ v) (h1 : v < 1000) : small62 v = true := by
  unfold small62
  exact decide_eq_true (by omega)
theorem Bag.perm {a b : Int} {ws vs : List Str} (h : Bag a b ws) (p : vs.Perm ws) : Bag a b vs := ⟨p.nodup_iff.mpr h.nd, fun w hw => h.nm w (p.mem_iff.mp hw)⟩
/-- kinds as they are drawn, of the names ws -/
structure Drawn (ws : List Str) (a b : Int) (fs : KS) : Prop where
  nm : kindNames fs = ws.take fs.length
  bag : Bag a b (makers fs)
  rows : ∀ k ∈ fs, (1 ≤ k.2.length ∧ k.2.length ≤ 4) ∧ ∀ r ∈ k.2, r.2.length ≤ 3 ∧ ∀ p ∈ r.2, p ∈ ws ++ markL
  rank : ∀ (i : Nat) k, fs[i]? = some k → ∃ r ∈ k.2, ∀ p ∈ r.2, p ∈ ws.take i ++ markL
theorem Drawn.nil {ws : List Str} {a b : Int} : Drawn ws a b [] := ⟨rfl, .nil, fun _ h => (by cases h), fun i k h => (by simp at h)⟩
theorem Drawn.app {ws : List Str} {a b c : Int} {fs : KS} {rs : List Row} {n : Nat} {w : Str} (h : Drawn ws a b fs) (r : RowsOk ws fs.length b c rs) (hw : ws[fs.length]? = some w) (a0 : 0 ≤ a) (hab : a ≤ b) (hbc : b ≤ c) (hs : c - a < 676) : Drawn ws a c (fs ++ [(w, rot rs n)]) := by
  have hp := rot_perm rs n
  refine ⟨?_, ?_, fun k hk => ?_, fun i k hk => ?_⟩
  · unfold kindNames
    rw [List.map_append, show fs.map (·.1) = ws.take fs.length from h.nm, List.length_append, List.length_singleton, List.take_add_one, hw]
    rfl
  · unfold makers
    rw [List.flatMap_append]
    refine Bag.app h.bag ?_ hab hbc hs a0
    simp only [List.flatMap_cons, List.flatMap_nil, List.append_nil]
    exact r.bag.perm (hp.map _)
  · rcases List.mem_append.mp hk with z | z
    · exact h.rows k z
    · simp at z
      subst z
      exact ⟨by rw [hp.length_eq]; exact r.len, fun r' hr' => r.all r' (hp.mem_iff.mp hr')⟩
  · by_cases hi : i < fs.length
    · rw [List.getElem?_append_left hi] at hk
      exact h.rank i k hk
    · rw [List.getElem?_append_right (by omega)] at hk
      have hi0 : i = fs.length := by
        have := (List.getElem?_eq_some_iff.mp hk).1
        simp at this
        omega
      subst hi0
      simp at hk
      subst hk
      obtain ⟨r1, z1, z2⟩ := r.one
      exact ⟨r1, hp.mem_iff.mpr z1, z2⟩
section
variable {P : List FD} (h7 : P[7]? = some Mf.fd__law_take) (h10 : P[10]? = some Mf.fd__law_word) (h11 : P[11]? = some Mf.fd__law_row)
include h7 h10 h11
abbrev sKinds : S := .for_ [4, 14, 15, 16] (.nm 4) (.rng [(.prim .len [(.var 3)])]) [sFirst, sInner, sBy, sApp]
theorem all_kinds {wf n m : Nat} {pot way : D} {q : Int} {ws : List Str} (hp : Pot m pot) (hm : m + 2000 ≤ 1000000) (q0 : 0 ≤ q) (q1 : q < 60000) (hw : ws.length ≤ 5) :
    ∃ fs pot' q', evS (ecK P wf (n + 3)) sKinds (E17 pot q way ws none (some (.list [])) none none none) = some (.nx, E17 pot' q' way ws none (some (.list (fs.map kindD))) none none none) ∧ fs.length = ws.length ∧ Drawn ws q q' fs ∧ q ≤ q' ∧ q' ≤ q + 60 ∧ Pot (m + 400) pot' := by
  let I : Nat → Mp.Env → Prop := fun j r => ∃ (p : D) (Q : Int) (fs : KS), r = E17 p Q way ws none (some (.list (fs.map kindD))) none none none ∧ fs.length = j ∧ j ≤ ws.length ∧ Drawn ws q Q fs ∧ q ≤ Q ∧ Q ≤ q + 12 * j ∧ Pot (m + 80 * j) p
  have hl : (intRange 0 ws.length).length = ws.length := by simp [intRange]
  obtain ⟨r', e, p, Q, fs, rfl, a1, a2, a3, a4, a5, a6⟩ := forL_inv (ok := fun r => (⟨intRange 0 ws.length, none⟩ : Mp.Its).ok r) (w := fun e => Mp.wipe e [4, 14, 15, 16]) (tg := Mp.assign (ecK P wf (n + 3)) (.nm 4)) (body := evSs (ecK P wf (n + 3)) [sFirst, sInner, sBy, sApp]) I (fun _ _ _ => rfl)
    (intRange 0 ws.length) 0 (E17 pot q way ws none (some (.list [])) none none none) ⟨pot, q, [], rfl, rfl, by omega, .nil, by omega, by omega, by simpa using hp⟩ (fun j d r hd hI => by
      obtain ⟨p, Q, fs, rfl, a1, a2, a3, a4, a5, a6⟩ := hI
      have hj : j < ws.length := by
        have := (List.getElem?_eq_some_iff.mp hd).1
        omega
      have hj0 : 0 + j = j := by omega
      rw [hj0] at a1 a2 a5 a6
      have ed : d = .int (j : Int) := by
        unfold intRange at hd
        rw [List.getElem?_map, List.getElem?_range hj] at hd
        simp at hd
        rw [← hd]
      subst ed
      obtain ⟨rs, b, p', Q', w, t, g1, g2, g3, g4, g5⟩ := kind_turn h7 h10 h11 (wf := wf) (n := n) (q := Q) (way := way) (ws := ws) (k := j) (fs := fs) a6 (by omega) (by omega) (by omega) hw hj (by omega)
      rw [← a1] at g1 g2
      refine ⟨E17 p Q way ws (some (.int (j : Int))) (some (.list (fs.map kindD))) none none none, _, ?_, .inl t, p', Q', fs ++ [(w, rot rs b)], ?_, by simp; omega, by omega, a3.app g2 g1 q0 a4 (by omega) (by omega), by omega, by omega, g5.mono (by omega)⟩
      · simp [E17, Mp.assign, Ec.mode, ecK, Mf.fd__law_kinds, Mp.wipe, Mp.put]
      · simp [E17, Mp.wipe])
  have hi0 : ∀ L : Int, Mp.prim .len [.list (sD ws)] = some (.int L) → small62 L = true → (ev (ecK P wf (n + 3)) (.rng [(.prim .len [(.var 3)])])).i (E17 pot q way ws none (some (.list [])) none none none) = some (⟨intRange 0 L.toNat, none⟩, E17 pot q way ws none (some (.list [])) none none none) := fun L hL sm => by
    simp [E17, ecK, ev, evs, rngV, primE, osV, resAll, varV, varE, plainV, View.o, Op.res, Mp.get, Ec.mode, Mf.fd__law_kinds, hL, sm]
  have hi := hi0 _ (len_sD ws) (small_of (by omega) (by omega))
  rw [Int.toNat_natCast] at hi
  rw [hl] at a1 a2 a5 a6
  refine ⟨fs, p, Q, ?_, by omega, a3, a4, by omega, a6.mono (by omega)⟩
  rw [evS]
  have ho : (⟨intRange 0 ws.length, none⟩ : Mp.Its).out (ownsSs [sFirst, sInner, sBy, sApp]) = true := rfl
  have hwp : Mp.wipe (E17 pot q way ws none (some (.list [])) none none none) [4, 14, 15, 16] = E17 pot q way ws none (some (.list [])) none none none := by simp [E17, Mp.wipe]
  simp only [hi, Option.bind_some, ho, if_true, hwp]
  exact e
end
end Mg

/-! drawn kinds are kinds -/
namespace Mg
open PySem L2 Mp

theorem ixOf_nd {x : Str} : ∀ {N : List Str} {i : Nat}, N.Nodup → N[i]? = some x → ixOf x N = some i
  | [], i, _, h => by simp at h
  | y :: ys, 0, _, h => by
    simp at h
    unfold ixOf
    rw [if_pos h]
  | y :: ys, i + 1, nd, h => by
    rw [List.nodup_cons] at nd
    have h' : ys[i]? = some x := by simpa using h
    unfold ixOf
    rw [if_neg, ixOf_nd nd.2 h']
    · rfl
    · rintro rfl
      exact nd.1 (List.mem_of_getElem? h')
theorem Drawn.kok {ws : List Str} {a b c : Int} {fs : KS} (hw : Bag a b ws) (h : Drawn ws b c fs) (hl : fs.length = ws.length) (h1 : 1 ≤ ws.length) (h5 : ws.length ≤ 5) (a0 : 0 ≤ a) (hab : a ≤ b) (hbc : b ≤ c) (hs : c - a < 676) : KOk fs := by
  have hn : kindNames fs = ws := by rw [h.nm, hl, List.take_length]
  have bag := hw.app h.bag hab hbc hs a0
  have mk : ∀ (i : Nat) (p : Str), p ∈ ws.take i ++ markL → p = "mark" ∨ p ∈ ws.take i := fun i p hp => by
    rcases List.mem_append.mp hp with z | z
    · exact .inr z
    · exact .inl (by simpa [markL] using z)
  refine ⟨by omega, fun k hk => (h.rows k hk).1, fun k hk r hr => ?_, by rw [hn]; exact bag.nd, fun w hw' => ?_, fun w => (ixOf w ws).getD 0, fun k hk => ?_, fun k hk => ?_⟩
  · obtain ⟨z1, z2⟩ := (h.rows k hk).2 r hr
    refine ⟨z1, fun p hp => ?_⟩
    rw [hn]
    rcases List.mem_append.mp (z2 p hp) with z | z
    · exact .inr z
    · exact .inl (by simpa [markL] using z)
  · rw [hn] at hw'
    obtain ⟨q, _, _, hq⟩ := bag.nm w hw'
    exact hq.named
  · obtain ⟨i, hi⟩ := List.mem_iff_getElem?.mp hk
    have h2 : ws[i]? = some k.1 := by
      rw [← hn]
      unfold kindNames
      rw [List.getElem?_map, hi]; rfl
    show (ixOf k.1 ws).getD 0 < fs.length
    rw [ixOf_nd hw.nd h2]
    show i < fs.length
    exact (List.getElem?_eq_some_iff.mp hi).1
  · obtain ⟨i, hi⟩ := List.mem_iff_getElem?.mp hk
    have h2 : ws[i]? = some k.1 := by
      rw [← hn]
      unfold kindNames
      rw [List.getElem?_map, hi]; rfl
    obtain ⟨r, hr, hp⟩ := h.rank i k hi
    refine ⟨r, hr, fun p hpr => ?_⟩
    rcases mk i p (hp p hpr) with z | z
    · exact .inl z
    · refine .inr ⟨by rw [hn]; exact List.mem_of_mem_take z, ?_⟩
      obtain ⟨j, hj⟩ := List.mem_iff_getElem?.mp z
      have hji : j < i := by
        have := (List.getElem?_eq_some_iff.mp hj).1
        rw [List.length_take] at this
        omega
      rw [List.getElem?_take_of_lt hji] at hj
      show (ixOf p ws).getD 0 < (ixOf k.1 ws).getD 0
      rw [ixOf_nd hw.nd h2, ixOf_nd hw.nd hj]
      exact hji
end Mg

/-! the laws' generator: the end of the long road -/
namespace Mg
open PySem L2 Mp

abbrev sBy2 : S := .set (.nm 16) (.call 7 [(.var 0), (.prim .len [(.var 13)])])
abbrev sRet : S := .ret (.prim .tuple [(.bin .Add (.slc (.var 13) (.var 16) .abs) (.slc (.var 13) .abs (.var 16)))])
section
variable {P : List FD} (h7 : P[7]? = some Mf.fd__law_take) (h10 : P[10]? = some Mf.fd__law_word) (h11 : P[11]? = some Mf.fd__law_row)
include h7 h10 h11
theorem long_road {wf n m : Nat} {pot way : D} {a q : Int} {ws : List Str} (hp : Pot m pot) (hm : m + 3000 ≤ 1000000) (a0 : 0 ≤ a) (haq : a ≤ q) (hqa : q ≤ a + 60) (q1 : q < 60000) (hb : Bag a q ws) (hw0 : 1 ≤ ws.length) (hw : ws.length ≤ 5) :
    ∃ ks pot' q' r', evSs (ecK P wf (n + 3)) [.own 13 (.lst []), sKinds, sBy2, sRet] (E17 pot q way ws none none none none none) = some (.rt (ksD ks), some pot' :: some (.list [.int q']) :: r') ∧ KOk ks ∧ q ≤ q' ∧ q' ≤ q + 60 ∧ Pot (m + 500) pot' := by
  have fm := fm_take h7
  have s0 : evS (ecK P wf (n + 3)) (.own 13 (.lst [])) (E17 pot q way ws none none none none none) = some (.nx, E17 pot q way ws none (some (.list [])) none none none) := by
    simp [E17, ecK, evS, ev, evs, plainV, listE, esV, freshE, Ec.mode, Mf.fd__law_kinds, nx, Mp.put, sizeLine]
  obtain ⟨fs, p1, q2, s1, l1, dr, g1, g2, hp1⟩ := all_kinds h7 h10 h11 (wf := wf) (n := n) (way := way) hp (by omega) (by omega) q1 hw
  have kok := dr.kok hb l1 hw0 hw a0 haq g1 (by omega)
  obtain ⟨b, p2, t2, b0, b1, hp2⟩ := take_spec (wf := wf) (n := n + 2) h7 hp1 (k := fs.length) (by omega) (by omega) (by omega)
  have hlen : Mp.prim .len [.list (fs.map kindD)] = some (.int (fs.length : Int)) := by
    show some (PyData.int ((fs.map kindD).length : Nat)) = _
    rw [List.length_map]
  have s2 : evS (ecK P wf (n + 3)) sBy2 (E17 p1 q2 way ws none (some (.list (fs.map kindD))) none none none) = some (.nx, E17 p2 q2 way ws none (some (.list (fs.map kindD))) none none (some (.int b))) := by
    generalize (fs.length : Int) = L at t2 hlen
    simp [E17, ecK, evS, ev, evs, varV, varE, plainV, View.o, primE, osV, resAll, Op.res, Mp.get, Mp.put, Mp.assign, Ec.mode, nx, Mf.fd__law_kinds, fm, asV, Mp.callWith, refsOf, arAll, Ar.res, outs, Mp.wipe, t2, hlen]
  obtain ⟨u, v, e1, e2, e3⟩ := rot_D (xs := fs.map kindD) b0 (by simp; omega)
  rw [rot_map] at e3
  have e5 : Mp.prim .tuple [.list ((rot fs b.toNat).map kindD)] = some (.tuple ((rot fs b.toNat).map kindD)) := rfl
  refine ⟨rot fs b.toNat, p2, q2, [some way, some (.list (sD ws)), none, none, none, none, none, none, none, none, none, some (.list (fs.map kindD)), none, none, some (.int b)], ?_, kok.perm (rot_perm _ _), by omega, by omega, hp2.mono (by omega)⟩
  refine (thenS_nx s0).trans ((thenS_nx s1).trans ((thenS_nx s2).trans ?_))
  simp [E17, ecK, evSs, evS, thenS, ev, evs, varV, varE, plainV, asP, noneE, View.o, binE, slcE, primE, osV, resAll, Op.res, Mp.get, Ec.mode, nx, Mf.fd__law_kinds, e1, e2, e3, e5, ksD]
end
end Mg

/-! the laws' generator: the short road's kinds -/
namespace Mg
open PySem L2 Mp

def rowsOf (v : Nat) (one a b c : Str) : List Row :=
  match v with
  | 0 => [(a, []), (b, [one])]
  | 1 => [(b, ["mark", one]), (a, [])]
  | 2 => [(a, []), (b, [])]
  | _ => [(b, [one, one]), (a, []), (c, ["mark"])]
def shortKs (v : Nat) (two : Bool) (one other a b c d e : Str) : KS :=
  (one, rowsOf v one a b c) :: if two = true then [(other, [(d, [one]), (e, [one, other])])] else []
theorem rowsOf_ok (v : Nat) (one a b c : Str) : (1 ≤ (rowsOf v one a b c).length ∧ (rowsOf v one a b c).length ≤ 4) ∧ (∀ r ∈ rowsOf v one a b c, r.2.length ≤ 3 ∧ ∀ p ∈ r.2, p = "mark" ∨ p = one) ∧ (∃ r ∈ rowsOf v one a b c, r.2 = []) ∧ ((rowsOf v one a b c).map (·.1)).Perm ((rowsOf v one a b c).map (·.1)) := by
  unfold rowsOf
  split
  · refine ⟨by simp, fun r hr => ?_, ⟨(a, []), by simp, rfl⟩, .refl _⟩
    simp only [List.mem_cons, List.not_mem_nil, or_false] at hr
    rcases hr with rfl | rfl <;> exact ⟨by simp, fun p hp => by simp at hp <;> simp [hp]⟩
  · refine ⟨by simp, fun r hr => ?_, ⟨(a, []), by simp, rfl⟩, .refl _⟩
    simp only [List.mem_cons, List.not_mem_nil, or_false] at hr
    rcases hr with rfl | rfl
    · exact ⟨by simp, fun p hp => by simpa using hp⟩
    · exact ⟨by simp, fun p hp => by simp at hp⟩
  · refine ⟨by simp, fun r hr => ?_, ⟨(a, []), by simp, rfl⟩, .refl _⟩
    simp only [List.mem_cons, List.not_mem_nil, or_false] at hr
    rcases hr with rfl | rfl <;> exact ⟨by simp, fun p hp => by simp at hp⟩
  · refine ⟨by simp, fun r hr => ?_, ⟨(a, []), by simp, rfl⟩, .refl _⟩
    simp only [List.mem_cons, List.not_mem_nil, or_false] at hr
    rcases hr with rfl | rfl | rfl
    · exact ⟨by simp, fun p hp => .inr (by simpa using hp)⟩
    · exact ⟨by simp, fun p hp => by simp at hp⟩
    · exact ⟨by simp, fun p hp => .inl (by simpa using hp)⟩
theorem rowsOf_sub (v : Nat) (one a b c : Str) (h : [a, b, c].Nodup) : ((rowsOf v one a b c).map (·.1)).Nodup ∧ ∀ w ∈ (rowsOf v one a b c).map (·.1), w ∈ [a, b, c] := by
  simp only [List.nodup_cons, List.mem_cons, List.not_mem_nil, or_false, not_or, not_false_eq_true, List.nodup_nil, and_true] at h
  obtain ⟨⟨h1, h2⟩, h3⟩ := h
  unfold rowsOf
  split
  · exact ⟨by simp [h1], fun w hw => by simp at hw ⊢; rcases hw with z | z <;> simp [z]⟩
  · exact ⟨by simp [Ne.symm h1], fun w hw => by simp at hw ⊢; rcases hw with z | z <;> simp [z]⟩
  · exact ⟨by simp [h1], fun w hw => by simp at hw ⊢; rcases hw with z | z <;> simp [z]⟩
  · exact ⟨by simp [Ne.symm h1, h2, h3], fun w hw => by simp at hw ⊢; rcases hw with z | z | z <;> simp [z]⟩
theorem short_kok {v : Nat} {two : Bool} {one other a b c d e : Str} (hn : [one, a, b, c].Nodup) (ho : two = true → [one, other, a, b, c, d, e].Nodup) (n1 : Named one) (n2 : two = true → Named other) (nm : ∀ w ∈ [a, b, c, d, e], Named w) : KOk (shortKs v two one other a b c d e) := by
  obtain ⟨r1, r2, ⟨r0, z1, z2⟩, _⟩ := rowsOf_ok v one a b c
  rw [List.nodup_cons] at hn
  obtain ⟨s1, s2⟩ := rowsOf_sub v one a b c hn.2
  cases two with
  | false =>
    have e0 : shortKs v false one other a b c d e = [(one, rowsOf v one a b c)] := rfl
    rw [e0]
    refine ⟨by simp, fun k hk => ?_, fun k hk r hr => ?_, ?_, fun w hw => ?_, fun _ => 0, fun k hk => by simp, fun k hk => ?_⟩
    · rw [List.mem_singleton] at hk; subst hk; exact r1
    · rw [List.mem_singleton] at hk; subst hk
      obtain ⟨h1, h2⟩ := r2 r hr
      exact ⟨h1, fun p hp => (h2 p hp).imp id fun z => by rw [z]; simp [kindNames]⟩
    · simp only [kindNames, makers, List.map_cons, List.map_nil, List.flatMap_cons, List.flatMap_nil, List.append_nil, List.singleton_append, List.nodup_cons]
      exact ⟨fun h => hn.1 (s2 _ h), s1⟩
    · simp only [kindNames, makers, List.map_cons, List.map_nil, List.flatMap_cons, List.flatMap_nil, List.append_nil, List.singleton_append, List.mem_cons] at hw
      rcases hw with rfl | hw
      · exact n1
      · have := s2 w hw
        exact nm w (by simp at this ⊢; rcases this with z | z | z <;> simp [z])
    · rw [List.mem_singleton] at hk; subst hk
      exact ⟨r0, z1, by rw [z2]; intro p hp; cases hp⟩
  | true =>
    have ho := ho rfl
    have e0 : shortKs v true one other a b c d e = [(one, rowsOf v one a b c), (other, [(d, [one]), (e, [one, other])])] := rfl
    rw [e0]
    have h1 : one ≠ other := by simp at ho; exact ho.1.1
    have hk2 : ∀ k ∈ [(one, rowsOf v one a b c), (other, [(d, [one]), (e, [one, other])])], k = (one, rowsOf v one a b c) ∨ k = (other, [(d, [one]), (e, [one, other])]) := fun k hk => by simpa using hk
    refine ⟨by simp, fun k hk => ?_, fun k hk r hr => ?_, ?_, fun w hw => ?_, fun w => if w = one then 0 else 1, fun k hk => ?_, fun k hk => ?_⟩
    · rcases hk2 k hk with rfl | rfl
      · exact r1
      · simp
    · rcases hk2 k hk with rfl | rfl
      · obtain ⟨h1, h2⟩ := r2 r hr
        exact ⟨h1, fun p hp => (h2 p hp).imp id fun z => by rw [z]; simp [kindNames]⟩
      · simp only [List.mem_cons, List.not_mem_nil, or_false] at hr
        rcases hr with rfl | rfl
        · exact ⟨by simp, fun p hp => .inr (by simp at hp; simp [kindNames, hp])⟩
        · exact ⟨by simp, fun p hp => .inr (by simp at hp; rcases hp with z | z <;> simp [kindNames, z])⟩
    · simp only [kindNames, makers, List.map_cons, List.map_nil, List.flatMap_cons, List.flatMap_nil, List.append_nil]
      simp only [List.nodup_cons, List.mem_cons, List.not_mem_nil, or_false, not_or, not_false_eq_true, List.nodup_nil, and_true] at ho
      obtain ⟨⟨o1, o2, o3, o4, o5, o6⟩, ⟨p2, p3, p4, p5, p6⟩, ⟨q3, q4, q5, q6⟩, ⟨t4, t5, t6⟩, ⟨u5, u6⟩, w6⟩ := ho
      have nr : ∀ x, x ≠ a → x ≠ b → x ≠ c → x ∉ (rowsOf v one a b c).map (·.1) := fun x x1 x2 x3 h => by
        have := s2 x h
        simp at this
        rcases this with z | z | z
        · exact x1 z
        · exact x2 z
        · exact x3 z
      rw [List.nodup_append]
      refine ⟨by simp [o1], ?_, fun x hx y hy => ?_⟩
      · rw [List.nodup_append]
        refine ⟨s1, by simp [w6], fun x hx y hy => ?_⟩
        rintro rfl
        simp at hy
        rcases hy with rfl | rfl
        · exact nr _ (Ne.symm q5) (Ne.symm t5) (Ne.symm u5) hx
        · exact nr _ (Ne.symm q6) (Ne.symm t6) (Ne.symm u6) hx
      · rintro rfl
        simp only [List.mem_cons, List.not_mem_nil, or_false] at hx
        rcases List.mem_append.mp hy with z | z
        · rcases hx with rfl | rfl
          · exact nr _ o2 o3 o4 z
          · exact nr _ p2 p3 p4 z
        · simp at z
          rcases hx with rfl | rfl <;> rcases z with z | z
          · exact o5 z
          · exact o6 z
          · exact p5 z
          · exact p6 z
    · simp only [kindNames, makers, List.map_cons, List.map_nil, List.flatMap_cons, List.flatMap_nil, List.append_nil, List.mem_append, List.mem_cons, List.not_mem_nil, or_false] at hw
      rcases hw with (rfl | rfl) | (hw | (rfl | rfl))
      · exact n1
      · exact n2 rfl
      · have := s2 w (by simpa using hw)
        exact nm w (by simp at this ⊢; rcases this with z | z | z <;> simp [z])
      · exact nm _ (by simp)
      · exact nm _ (by simp)
    · show (if k.1 = one then 0 else 1) < 2
      split <;> omega
    · rcases hk2 k hk with rfl | rfl
      · exact ⟨r0, z1, by rw [z2]; intro p hp; cases hp⟩
      · refine ⟨(d, [one]), by simp, fun p hp => .inr ?_⟩
        simp at hp
        subst hp
        refine ⟨by simp [kindNames], ?_⟩
        show (if p = p then 0 else 1) < (if other = p then 0 else 1)
        rw [if_pos rfl, if_neg (Ne.symm h1)]
        omega
end Mg

/-! the laws' generator: the short road's walk -/
namespace Mg
open PySem L2 Mp

/-- the slots on the short road -/
def F17 (pot : D) (q : Int) (v : Int) (ws : List Str) (x5 x6 x7 x8 x9 x10 x11 x12 : Option D) : Mp.Env :=
  [some pot, some (.list [.int q]), some (.int v), some (.list (sD ws)), none, x5, x6, x7, x8, x9, x10, x11, x12, none, none, none, none]
section
variable {P : List FD} (h7 : P[7]? = some Mf.fd__law_take) (h10 : P[10]? = some Mf.fd__law_word)
include h7 h10
theorem short_head {wf n m : Nat} {pot : D} {q : Int} {v : Int} {ws : List Str} {one other : Str} (hp : Pot m pot) (hm : m + 1000 ≤ 1000000) (q0 : 0 ≤ q) (q1 : q < 60000) (h1 : (ws.take 2)[0]? = some one) (h2 : (ws.take 2).getLast? = some other) :
    ∃ a b c d e pot' q', evSs (ecK P wf (n + 2)) [.set (.nm 3) (.slc (.var 3) .abs (.con (.int 2))), .par 5 6 (.idx (.var 3) (.con (.int 0))) (.idx (.var 3) (.neg (.con (.int 1)))),
        .set (.tup [(.nm 7), (.nm 8), (.nm 9), (.nm 10), (.nm 11)]) (.comp [4] (.nm 4) (.rng [(.con (.int 5))]) [] (.call 10 [(.var 0), (.var 1)]))] (F17 pot q v ws none none none none none none none none) =
      some (.nx, F17 pot' q' v (ws.take 2) (some (.str one)) (some (.str other)) (some (.str a)) (some (.str b)) (some (.str c)) (some (.str d)) (some (.str e)) none) ∧ Bag q q' [a, b, c, d, e] ∧ q ≤ q' ∧ q' ≤ q + 15 ∧ Pot (m + 45) pot' := by
  have s0 : evS (ecK P wf (n + 2)) (.set (.nm 3) (.slc (.var 3) .abs (.con (.int 2)))) (F17 pot q v ws none none none none none none none none) = some (.nx, F17 pot q v (ws.take 2) none none none none none none none none) := by
    have sl : Mp.slice (.list (sD ws)) none (some 2) = some (.list (sD (ws.take 2))) := by
      rw [slice_to (by omega), sD_take]; rfl
    simp [F17, ecK, evS, ev, evs, varV, varE, plainV, asP, noneE, View.o, slcE, Op.res, Mp.get, Mp.put, Mp.assign, Ec.mode, nx, Mf.fd__law_kinds, sl]
  have i0 : Mp.idx (.list (sD (ws.take 2))) (.int 0) = some (.str one) := by
    show atI (sD (ws.take 2)) 0 = _
    have hl : 0 < (ws.take 2).length := (List.getElem?_eq_some_iff.mp h1).1
    unfold atI ixN
    rw [if_pos (by omega), if_pos (by rw [sD_len]; omega)]
    show (sD (ws.take 2))[0]? = _
    unfold sD
    rw [List.getElem?_map, h1]; rfl
  have i1 : Mp.idx (.list (sD (ws.take 2))) (.int (-1)) = some (.str other) := by
    show atI (sD (ws.take 2)) (-1) = _
    have hl : 0 < (ws.take 2).length := (List.getElem?_eq_some_iff.mp h1).1
    unfold atI ixN
    rw [if_neg (by omega), if_pos (by rw [sD_len]; omega)]
    show (sD (ws.take 2))[((-1 : Int) + ((sD (ws.take 2)).length : Int)).toNat]? = _
    rw [List.getLast?_eq_getElem?] at h2
    unfold sD
    rw [List.length_map, List.getElem?_map, show ((-1 : Int) + ((ws.take 2).length : Int)).toNat = (ws.take 2).length - 1 by omega, h2]; rfl
  generalize hW : ws.take 2 = W at s0 i0 i1
  have s1 : evS (ecK P wf (n + 2)) (.par 5 6 (.idx (.var 3) (.con (.int 0))) (.idx (.var 3) (.neg (.con (.int 1))))) (F17 pot q v W none none none none none none none none) = some (.nx, F17 pot q v W (some (.str one)) (some (.str other)) none none none none none none) := by
    simp [F17, ecK, evS, ev, evs, varV, varE, plainV, negE, View.o, idxE, Op.res, Mp.get, Mp.put, Ec.mode, nx, Mf.fd__law_kinds, i0, i1]
  have hi : (ev (ecOf P wf (n + 2) Mf.fd__law_kinds.md) (.rng [(.con (.int 5))])).i (some pot :: some (.list [.int q]) :: some (.int v) :: some (.list (sD W)) :: none :: [some (.str one), some (.str other), none, none, none, none, none, none, none, none, none, none]) = some (⟨intRange 0 5, none⟩, _) := rfl
  obtain ⟨l, p1, q2, t, l5, bag, g1, g2, hp1⟩ := words_comp h7 h10 (wf := wf) (n := n) rfl hi (by omega) hp (by omega) q0 (by omega)
  obtain ⟨a, b, c, d, e, rfl⟩ : ∃ a b c d e, l = [a, b, c, d, e] := by
    match l, l5 with
    | [a, b, c, d, e], _ => exact ⟨a, b, c, d, e, rfl⟩
  refine ⟨a, b, c, d, e, p1, q2, ?_, bag, g1, by omega, hp1.mono (by omega)⟩
  refine (thenS_nx s0).trans ((thenS_nx s1).trans ?_)
  show thenS (evS _ _) _ _ = _
  refine (thenS_nx (r1 := F17 p1 q2 v W (some (.str one)) (some (.str other)) (some (.str a)) (some (.str b)) (some (.str c)) (some (.str d)) (some (.str e)) none) ?_).trans rfl
  rw [evS]
  show (((ev _ _).e _).bind _) = _
  rw [show F17 pot q v W (some (.str one)) (some (.str other)) none none none none none none = some pot :: some (.list [.int q]) :: some (.int v) :: some (.list (sD W)) :: none :: [some (.str one), some (.str other), none, none, none, none, none, none, none, none, none, none] from rfl, t]
  rfl
end
end Mg

/-! the laws' generator: the short road's end -/
namespace Mg
open PySem L2 Mp

abbrev sFour : S := .set (.nm 12) (.lst [(.tup [(.tup [(.var 5), (.tup [(.tup [(.var 7), (.tup [])]), (.tup [(.var 8), (.tup [(.var 5)])])])])]), (.tup [(.tup [(.var 5), (.tup [(.tup [(.var 8), (.tup [(.con (.str "mark")), (.var 5)])]), (.tup [(.var 7), (.tup [])])])])]), (.tup [(.tup [(.var 5), (.tup [(.tup [(.var 7), (.tup [])]), (.tup [(.var 8), (.tup [])])])])]), (.tup [(.tup [(.var 5), (.tup [(.tup [(.var 8), (.tup [(.var 5), (.var 5)])]), (.tup [(.var 7), (.tup [])]), (.tup [(.var 9), (.tup [(.con (.str "mark"))])])])])])])
abbrev sTwo : S := .ite (.and (.cmp .Gt (.prim .len [(.var 3)]) (.con (.int 1))) (.cmp .Eq (.call 7 [(.var 0), (.con (.int 2))]) (.con (.int 0)))) [.ret (.bin .Add (.idx (.var 12) (.var 2)) (.tup [(.tup [(.var 6), (.tup [(.tup [(.var 10), (.tup [(.var 5)])]), (.tup [(.var 11), (.tup [(.var 5), (.var 6)])])])])]))] []
abbrev sOne : S := .ret (.idx (.var 12) (.var 2))
theorem add_tup {a b : List D} (h : a.length + b.length ≤ 1000) : Mp.bin .Add (.tuple a) (.tuple b) = some (.tuple (a ++ b)) := by
  show (if a.length + b.length ≤ sizeLine then some (PyData.tuple (a ++ b)) else none) = _
  rw [if_pos (by simp [sizeLine]; omega)]
theorem four {v : Int} (h0 : 0 ≤ v) (h1 : v < 4) (one a b c : Str) : Mp.idx (.list [ksD [(one, rowsOf 0 one a b c)], ksD [(one, rowsOf 1 one a b c)], ksD [(one, rowsOf 2 one a b c)], ksD [(one, rowsOf 3 one a b c)]]) (.int v) = some (ksD [(one, rowsOf v.toNat one a b c)]) := by
  have : v = 0 ∨ v = 1 ∨ v = 2 ∨ v = 3 := by omega
  rcases this with rfl | rfl | rfl | rfl <;> rfl
section
variable {P : List FD} (h7 : P[7]? = some Mf.fd__law_take)
include h7
theorem short_tail {wf n m : Nat} {pot : D} {q : Int} {v : Int} {ws : List Str} {one other a b c d e : Str} (hp : Pot m pot) (hm : m + 1000 ≤ 1000000) (v0 : 0 ≤ v) (v1 : v < 4) :
    ∃ two pot' r', evSs (ecK P wf (n + 2)) [sFour, sTwo, sOne] (F17 pot q v ws (some (.str one)) (some (.str other)) (some (.str a)) (some (.str b)) (some (.str c)) (some (.str d)) (some (.str e)) none) =
      some (.rt (ksD (shortKs v.toNat two one other a b c d e)), some pot' :: some (.list [.int q]) :: r') ∧ (two = true → 1 < ws.length) ∧ Pot (m + 1) pot' := by
  have fm := fm_take h7
  have s0 : evS (ecK P wf (n + 2)) sFour (F17 pot q v ws (some (.str one)) (some (.str other)) (some (.str a)) (some (.str b)) (some (.str c)) (some (.str d)) (some (.str e)) none) =
      some (.nx, F17 pot q v ws (some (.str one)) (some (.str other)) (some (.str a)) (some (.str b)) (some (.str c)) (some (.str d)) (some (.str e)) (some (.list [ksD [(one, rowsOf 0 one a b c)], ksD [(one, rowsOf 1 one a b c)], ksD [(one, rowsOf 2 one a b c)], ksD [(one, rowsOf 3 one a b c)]]))) := by
    simp [F17, ecK, evS, ev, evs, varV, varE, plainV, listE, esV, View.o, Mp.get, Mp.put, Mp.assign, Ec.mode, nx, Mf.fd__law_kinds, sizeLine, ksD, kindD, rowsD, rowD, rowsOf, sD]
  have f4 := four v0 v1 one a b c
  generalize hL : (.list [ksD [(one, rowsOf 0 one a b c)], ksD [(one, rowsOf 1 one a b c)], ksD [(one, rowsOf 2 one a b c)], ksD [(one, rowsOf 3 one a b c)]] : D) = L at s0 f4
  have hlen := len_sD ws
  have hgt : Mp.cmp .Gt (.int (ws.length : Int)) (.int 1) = some (.bool (decide ((1 : Int) < (ws.length : Int)))) := rfl
  generalize hLen : (ws.length : Int) = N at hlen hgt
  by_cases h1 : 1 < ws.length
  · have hgt : Mp.cmp .Gt (.int N) (.int 1) = some (.bool true) := by rw [hgt, decide_eq_true (by omega)]
    obtain ⟨x, pot1, t, x0, x1, hp1⟩ := take_spec (wf := wf) (n := n + 1) h7 hp (k := 2) (by omega) (by omega) (by omega)
    have heq : Mp.cmp .Eq (.int x) (.int 0) = some (.bool (decide (x = 0))) := rfl
    by_cases hx : x = 0
    · refine ⟨true, pot1, [some (.int v), some (.list (sD ws)), none, some (.str one), some (.str other), some (.str a), some (.str b), some (.str c), some (.str d), some (.str e), some L, none, none, none, none], ?_, fun _ => h1, hp1⟩
      rw [hx, decide_eq_true rfl] at heq
      rw [hx] at t
      have ad : Mp.bin .Add (ksD [(one, rowsOf v.toNat one a b c)]) (ksD [(other, [(d, [one]), (e, [one, other])])]) = some (ksD (shortKs v.toNat true one other a b c d e)) := by
        exact add_tup (by simp)
      refine (thenS_nx s0).trans ?_
      have kk : ksD [(other, [(d, [one]), (e, [one, other])])] = .tuple [.tuple [.str other, .tuple [.tuple [.str d, .tuple [.str one]], .tuple [.str e, .tuple [.str one, .str other]]]]] := rfl
      rw [kk] at ad
      simp [F17, ecK, evSs, evS, thenS, ev, evs, varV, varE, plainV, asT, andE, esV, View.o, binE, idxE, primE, osV, resAll, Op.res, Mp.get, Ec.mode, nx, Mf.fd__law_kinds, fm, asV, Mp.callWith, refsOf, arAll, Ar.res, outs, Mp.wipe, hlen, hgt, t, heq, f4, ad, sizeLine]
    · refine ⟨false, pot1, [some (.int v), some (.list (sD ws)), none, some (.str one), some (.str other), some (.str a), some (.str b), some (.str c), some (.str d), some (.str e), some L, none, none, none, none], ?_, fun h => (by cases h), hp1⟩
      rw [decide_eq_false hx] at heq
      refine (thenS_nx s0).trans ?_
      simp [F17, ecK, evSs, evS, thenS, ev, evs, varV, varE, plainV, asT, andE, esV, View.o, binE, idxE, primE, osV, resAll, Op.res, Mp.get, Ec.mode, nx, Mf.fd__law_kinds, fm, asV, Mp.callWith, refsOf, arAll, Ar.res, outs, Mp.wipe, hlen, hgt, t, heq, f4, sizeLine, shortKs]
  · have hgt : Mp.cmp .Gt (.int N) (.int 1) = some (.bool false) := by rw [hgt, decide_eq_false (by omega)]
    refine ⟨false, pot, [some (.int v), some (.list (sD ws)), none, some (.str one), some (.str other), some (.str a), some (.str b), some (.str c), some (.str d), some (.str e), some L, none, none, none, none], ?_, fun h => (by cases h), hp.mono (by omega)⟩
    refine (thenS_nx s0).trans ?_
    simp [F17, ecK, evSs, evS, thenS, ev, evs, varV, varE, plainV, asT, andE, esV, View.o, binE, idxE, primE, osV, resAll, Op.res, Mp.get, Ec.mode, nx, Mf.fd__law_kinds, hlen, hgt, f4, sizeLine, shortKs]
end
end Mg

/-! the laws' generator: the words that a drawn count makes -/
namespace Mg
open PySem L2 Mp

theorem words_drawn {P : List FD} (h7 : P[7]? = some Mf.fd__law_take) (h10 : P[10]? = some Mf.fd__law_word) {wf n m : Nat} {pot : D} {q : Int} {tl : Mp.Env} {x2 x3 : Option D} (hp : Pot m pot) (hm : m + 200 ≤ 1000000) (q0 : 0 ≤ q) (q1 : q < 90000) :
    ∃ ws pot' q', (ev (ecOf P wf (n + 2) Mf.fd__law_kinds.md) (.comp [4] (.nm 4) (.rng [(.bin .Add (.con (.int 1)) (.call 7 [(.var 0), (.con (.int 5))]))]) [] (.call 10 [(.var 0), (.var 1)]))).e (some pot :: some (.list [.int q]) :: x2 :: x3 :: none :: tl) = some (.list (sD ws), some pot' :: some (.list [.int q']) :: x2 :: x3 :: none :: tl) ∧
      1 ≤ ws.length ∧ ws.length ≤ 5 ∧ Bag q q' ws ∧ q ≤ q' ∧ q' ≤ q + 15 ∧ Pot (m + 60) pot' := by
  have fm := fm_take h7
  obtain ⟨v, p1, t, v0, v1, hp1⟩ := take_spec (wf := wf) (n := n + 1) h7 hp (k := 5) (by omega) (by omega) (by omega)
  have ad : Mp.bin .Add (.int 1) (.int v) = some (.int (1 + v)) := rfl
  have sm : small62 (1 + v) = true := by unfold small62; exact decide_eq_true (by omega)
  have hk : ((1 + v).toNat : Int) = 1 + v := by omega
  have h1 : (ev (ecOf P wf (n + 2) Mf.fd__law_kinds.md) (.rng [(.bin .Add (.con (.int 1)) (.call 7 [(.var 0), (.con (.int 5))]))])).i (some pot :: some (.list [.int q]) :: x2 :: x3 :: none :: tl) = some (⟨intRange 0 (1 + v).toNat, none⟩, some p1 :: some (.list [.int q]) :: x2 :: x3 :: none :: tl) := by
    simp [ev, evs, rngV, varV, varE, plainV, View.o, binE, Op.res, Mp.get, Ec.mode, Mf.fd__law_kinds, fm, asV, Mp.callWith, refsOf, arAll, Ar.res, outs, Mp.wipe, t, ad, sm]
  have h2 : (ev (ecOf P wf (n + 2) Mf.fd__law_kinds.md) (.rng [(.con (.int (1 + v)))])).i (some p1 :: some (.list [.int q]) :: x2 :: x3 :: none :: tl) = some (⟨intRange 0 (1 + v).toNat, none⟩, some p1 :: some (.list [.int q]) :: x2 :: x3 :: none :: tl) := by
    simp [ev, evs, rngV, plainV, View.o, Ec.mode, sm]
  obtain ⟨ws, p2, q2, e, l, bag, g1, g2, hp2⟩ := words_comp h7 h10 (wf := wf) (n := n) rfl h2 (by omega) hp1 (by omega) q0 q1
  refine ⟨ws, p2, q2, Eq.trans ?_ e, by omega, by omega, bag, g1, by omega, hp2.mono (by omega)⟩
  show (compE _ [4] (.nm 4) _ [] _ _) = (compE _ [4] (.nm 4) _ [] _ _)
  unfold compE
  rw [h1, h2]
theorem evSs_app {ec : Ec} {B : List S} {r1 : Mp.Env} : ∀ {A : List S} {r : Mp.Env}, evSs ec A r = some (.nx, r1) → evSs ec (A ++ B) r = evSs ec B r1
  | [], r, h => by cases h; rfl
  | a :: A, r, h => by
    rw [evSs] at h
    rw [List.cons_append, evSs]
    unfold thenS at h ⊢
    generalize evS ec a r = x at h ⊢
    cases x with
    | none => cases h
    | some q =>
      obtain ⟨f, r2⟩ := q
      cases f with
      | nx => exact evSs_app (A := A) (r := r2) h
      | _ => cases h
end Mg

/-! the laws' generator: kinds -/
namespace Mg
open PySem L2 Mp

theorem ite_tt {ec : Ec} {c : E} {A B : List S} {r r1 : Mp.Env} (h : (ev ec c).t r = some (true, r1)) : evS ec (.ite c A B) r = evSs ec A r1 := by
  rw [evS]; simp [h]
theorem ite_ff {ec : Ec} {c : E} {A B : List S} {r r1 : Mp.Env} (h : (ev ec c).t r = some (false, r1)) : evS ec (.ite c A B) r = evSs ec B r1 := by
  rw [evS]; simp [h]
theorem thenS_rt {a b : Mp.Env → Option (Fl × Mp.Env)} {r r1 : Mp.Env} {d : D} (h : a r = some (.rt d, r1)) : thenS a b r = some (.rt d, r1) := by
  unfold thenS; rw [h]; rfl
section
variable {P : List FD} (h7 : P[7]? = some Mf.fd__law_take) (h10 : P[10]? = some Mf.fd__law_word) (h11 : P[11]? = some Mf.fd__law_row) (h12 : P[12]? = some Mf.fd__law_kinds)
include h7 h10 h11 h12
theorem kinds_spec {wf n m : Nat} {pot : D} {q : Int} (hp : Pot m pot) (hm : m + 4000 ≤ 1000000) (q0 : 0 ≤ q) (q1 : q < 50000) :
    ∃ ks pot' q', run P wf (n + 4) 12 [pot, .list [.int q]] = some (ksD ks, [pot', .list [.int q']]) ∧ KOk ks ∧ q ≤ q' ∧ q' ≤ q + 80 ∧ Pot (m + 700) pot' := by
  have fm := fm_take h7
  obtain ⟨v, p1, t, v0, v1, hp1⟩ := take_spec (wf := wf) (n := n + 2) h7 hp (k := 8) (by omega) (by omega) (by omega)
  have s0 : evS (ecK P wf (n + 3)) (.set (.nm 2) (.call 7 [(.var 0), (.con (.int 8))])) (some pot :: some (.list [.int q]) :: List.replicate 15 none) = some (.nx, some p1 :: some (.list [.int q]) :: some (.int v) :: none :: none :: List.replicate 12 none) := by
    simp [ecK, evS, ev, evs, varV, varE, plainV, View.o, Op.res, Mp.get, Mp.put, Mp.assign, Ec.mode, nx, Mf.fd__law_kinds, fm, asV, Mp.callWith, refsOf, arAll, Ar.res, outs, Mp.wipe, t, List.replicate]
  obtain ⟨ws, p2, q2, e, l1, l5, bag, g1, g2, hp2⟩ := words_drawn h7 h10 (wf := wf) (n := n + 1) (x2 := some (.int v)) (x3 := none) (tl := List.replicate 12 none) hp1 (by omega) q0 (by omega)
  have s1 : evS (ecK P wf (n + 3)) (.set (.nm 3) (.comp [4] (.nm 4) (.rng [(.bin .Add (.con (.int 1)) (.call 7 [(.var 0), (.con (.int 5))]))]) [] (.call 10 [(.var 0), (.var 1)]))) (some p1 :: some (.list [.int q]) :: some (.int v) :: none :: none :: List.replicate 12 none) = some (.nx, F17 p2 q2 v ws none none none none none none none none) := by
    rw [evS]
    show (((ev _ _).e _).bind _) = _
    rw [e]
    rfl
  have hlt : Mp.cmp .Lt (.int v) (.int 4) = some (.bool (decide (v < 4))) := rfl
  have c : (ev (ecK P wf (n + 3)) (.cmp .Lt (.var 2) (.con (.int 4)))).t (F17 p2 q2 v ws none none none none none none none none) = some (decide (v < 4), F17 p2 q2 v ws none none none none none none none none) := by
    simp [F17, ecK, ev, evs, varV, varE, plainV, asT, View.o, binE, Op.res, Mp.get, Ec.mode, Mf.fd__law_kinds, hlt]
  rw [run_eq h12]
  by_cases hv : v < 4
  · rw [decide_eq_true hv] at c
    have hl : 0 < (ws.take 2).length := by simp; omega
    obtain ⟨one, h1⟩ : ∃ one, (ws.take 2)[0]? = some one := ⟨_, List.getElem?_eq_getElem hl⟩
    obtain ⟨other, h2⟩ : ∃ other, (ws.take 2).getLast? = some other := ⟨_, List.getLast?_eq_getLast (List.length_pos_iff.mp hl)⟩
    obtain ⟨a, b, cc, d, ee, p3, q3, u1, bag2, g3, g4, hp3⟩ := short_head h7 h10 (wf := wf) (n := n + 1) (q := q2) (v := v) hp2 (by omega) (by omega) (by omega) h1 h2
    obtain ⟨two, p4, r', u2, tw, hp4⟩ := short_tail h7 (wf := wf) (n := n + 1) (q := q3) (ws := ws.take 2) (one := one) (other := other) (a := a) (b := b) (c := cc) (d := d) (e := ee) hp3 (by omega) v0 hv
    have bg := bag.app bag2 (by omega) (by omega) (by omega) q0
    have o1 : one ∈ ws := List.mem_of_mem_take (List.mem_of_getElem? h1)
    have o2 : other ∈ ws := List.mem_of_mem_take (List.mem_of_getLast? h2)
    have nm : ∀ w ∈ ws ++ [a, b, cc, d, ee], Named w := fun w hw => by
      obtain ⟨_, _, _, z⟩ := bg.nm w hw
      exact z.named
    refine ⟨shortKs v.toNat two one other a b cc d ee, p4, q3, ?_, short_kok ?_ (fun h => ?_) (nm _ (List.mem_append_left _ o1)) (fun _ => nm _ (List.mem_append_left _ o2)) (fun w hw => nm w (List.mem_append_right _ hw)), by omega, by omega, hp4.mono (by omega)⟩
    · refine fd_rt (fd := Mf.fd__law_kinds) (r' := some p4 :: some (.list [.int q3]) :: r') rfl ?_ rfl
      refine (thenS_nx s0).trans ((thenS_nx s1).trans (thenS_rt ((ite_tt c).trans ?_)))
      exact (evSs_app u1).trans u2
    · have : [one, a, b, cc].Sublist ([one] ++ [a, b, cc, d, ee]) := by simp
      have z : ([one] ++ [a, b, cc, d, ee]).Sublist (ws ++ [a, b, cc, d, ee]) := (List.singleton_sublist.mpr o1).append (.refl _)
      exact (this.trans z).nodup bg.nd
    · have h2' := tw h
      obtain ⟨x, y, e2⟩ : ∃ x y, ws.take 2 = [x, y] := by
        match hw : ws.take 2 with
        | [] => rw [hw] at hl; simp at hl
        | [x] => rw [hw] at h2'; simp at h2'
        | [x, y] => exact ⟨x, y, rfl⟩
        | x :: y :: z :: r => have := congrArg List.length hw; simp at this; omega
      rw [e2] at h1 h2
      simp at h1 h2
      subst h1 h2
      have z : ([x, y] ++ [a, b, cc, d, ee]).Sublist (ws ++ [a, b, cc, d, ee]) := (e2 ▸ List.take_sublist 2 ws : [x, y].Sublist ws).append (.refl _)
      exact z.nodup bg.nd
  · rw [decide_eq_false hv] at c
    obtain ⟨ks, p3, q3, r', u, kok, g3, g4, hp3⟩ := long_road h7 h10 h11 (wf := wf) (n := n) (way := .int v) (a := q) (q := q2) hp2 (by omega) q0 g1 (by omega) (by omega) bag l1 l5
    refine ⟨ks, p3, q3, ?_, kok, by omega, by omega, hp3.mono (by omega)⟩
    refine fd_rt (fd := Mf.fd__law_kinds) (r' := some p3 :: some (.list [.int q3]) :: r') rfl ?_ rfl
    refine (thenS_nx s0).trans ((thenS_nx s1).trans ((thenS_nx (r1 := E17 p2 q2 (.int v) ws none none none none none) ?_).trans u))
    rw [ite_ff c]
    rfl
end
end Mg

/-! rows of statements: what must hold ahead of them -/
namespace Mh
open PySem L2 Mp Mg

def OB {α : Type} (x : Option α) (K : α → Prop) : Prop := ∃ a, x = some a ∧ K a
section
variable {α β : Type} {K : β → Prop}
@[simp] theorem OB_some (a : β) : OB (some a) K = K a := by simp [OB]
@[simp] theorem OB_none : OB none K = False := by simp [OB]
@[simp] theorem OB_bind (x : Option α) (f : α → Option β) : OB (x.bind f) K = OB x fun a => OB (f a) K := by
  cases x <;> simp
@[simp] theorem OB_map (x : Option α) (f : α → β) : OB (x.map f) K = OB x fun a => K (f a) := by
  cases x <;> simp
@[simp] theorem OB_ite (p : Prop) [Decidable p] (x y : Option β) : OB (if p then x else y) K = if p then OB x K else OB y K := by
  split <;> rfl
end
abbrev Post := Fl → Mp.Env → Prop
def B (c : Ec) (ss : List S) (r : Mp.Env) (Q : Post) : Prop := ∃ f r', evSs c ss r = some (f, r') ∧ Q f r'
theorem B.mono {c : Ec} {ss : List S} {r : Mp.Env} {Q Q' : Post} (h : B c ss r Q) (hq : ∀ f r, Q f r → Q' f r) : B c ss r Q' := by
  obtain ⟨f, r', e, q⟩ := h
  exact ⟨f, r', e, hq _ _ q⟩
section
variable {c : Ec} {ss : List S} {r : Mp.Env} {Q : Post}
theorem B_nil (h : Q .nx r) : B c [] r Q := ⟨.nx, r, by rw [evSs]; rfl, h⟩
theorem B_step {s : S} {r1 : Mp.Env} (e : evS c s r = some (.nx, r1)) (h : B c ss r1 Q) : B c (s :: ss) r Q := by
  obtain ⟨f, r', e', q⟩ := h
  exact ⟨f, r', by rw [evSs, thenS_nx e]; exact e', q⟩
theorem B_stop {s : S} {f : Fl} {r1 : Mp.Env} (hf : f ≠ .nx) (e : evS c s r = some (f, r1)) (h : Q f r1) : B c (s :: ss) r Q := by
  refine ⟨f, r1, ?_, h⟩
  rw [evSs]
  unfold thenS
  rw [e]
  cases f
  · exact absurd rfl hf
  all_goals rfl
/-- a row of statements ahead of another one -/
theorem B_app' : ∀ {a b : List S} {r : Mp.Env}, B c (a ++ b) r Q → ∃ f r', evSs c a r = some (f, r') ∧ ((f = .nx ∧ B c b r' Q) ∨ (f ≠ .nx ∧ Q f r'))
  | [], b, r, h => ⟨.nx, r, by rw [evSs]; rfl, .inl ⟨rfl, h⟩⟩
  | s :: a, b, r, ⟨f, r', e, q⟩ => by
    rw [List.cons_append, evSs] at e
    unfold thenS at e
    cases hs : evS c s r with
    | none => rw [hs] at e; cases e
    | some p =>
      obtain ⟨g, r1⟩ := p
      rw [hs] at e
      cases g with
      | nx =>
        simp only [Option.bind_some] at e
        obtain ⟨f2, r2, e2, h2⟩ := B_app' (a := a) (b := b) (r := r1) ⟨f, r', e, q⟩
        exact ⟨f2, r2, by rw [evSs, thenS_nx hs]; exact e2, h2⟩
      | bk =>
        simp only [Option.bind_some] at e
        cases e
        exact ⟨.bk, _, by rw [evSs]; unfold thenS; rw [hs]; rfl, .inr ⟨by simp, q⟩⟩
      | ct =>
        simp only [Option.bind_some] at e
        cases e
        exact ⟨.ct, _, by rw [evSs]; unfold thenS; rw [hs]; rfl, .inr ⟨by simp, q⟩⟩
      | rt d =>
        simp only [Option.bind_some] at e
        cases e
        exact ⟨.rt d, _, by rw [evSs]; unfold thenS; rw [hs]; rfl, .inr ⟨by simp, q⟩⟩
theorem B_join {s : S} {a : List S} {r1 : Mp.Env} (e : evS c s r = evSs c a r1) (h : B c (a ++ ss) r1 Q) : B c (s :: ss) r Q := by
  obtain ⟨f, r', e', h'⟩ := B_app' h
  rcases h' with ⟨rfl, h'⟩ | ⟨hf, h'⟩
  · exact B_step (e.trans e') h'
  · exact B_stop hf (e.trans e') h'
theorem B_seti {t : Tg} {e : E} (h : OB ((ev c e).e r) fun p => OB (Mp.assign c t p.1 p.2) fun r' => B c ss r' Q) : B c (.set t e :: ss) r Q := by
  obtain ⟨p, e1, r', e2, h⟩ := h
  refine B_step ?_ h
  rw [evS]
  simp only [e1, Option.bind_some, e2, Option.map_some, nx]
theorem B_set {t : Tg} {e : E} (h : OB ((pv c e).e r) fun d => OB (Mp.assign c t d r) fun r' => B c ss r' Q) : B c (.set t e :: ss) r Q := by
  obtain ⟨d, e1, h⟩ := h
  exact B_seti ⟨_, (snd c e).e _ _ e1, h⟩
theorem B_owni {i : Nat} {e : E} (h : c.mode i = .ow ∧ freshE c e = true ∧ i < r.length ∧ OB ((ev c e).e r) fun p => B c ss (Mp.put p.2 i p.1) Q) : B c (.own i e :: ss) r Q := by
  obtain ⟨h1, h2, h3, p, e1, h⟩ := h
  refine B_step ?_ h
  rw [evS]
  simp only [h1, h2, h3, and_self, if_true, e1, Option.map_some, nx]
theorem B_own {i : Nat} {e : E} (h : c.mode i = .ow ∧ freshE c e = true ∧ i < r.length ∧ OB ((pv c e).e r) fun d => B c ss (Mp.put r i d) Q) : B c (.own i e :: ss) r Q := by
  obtain ⟨h1, h2, h3, d, e1, h⟩ := h
  exact B_owni ⟨h1, h2, h3, _, (snd c e).e _ _ e1, h⟩
theorem B_par {i j : Nat} {a b : E} (h : c.mode i = .fz ∧ c.mode j = .fz ∧ i ≠ j ∧ i < r.length ∧ j < r.length ∧ OB ((pv c a).e r) fun x => OB ((pv c b).e r) fun y => B c ss (Mp.put (Mp.put r i x) j y) Q) : B c (.par i j a b :: ss) r Q := by
  obtain ⟨h1, h2, h3, h4, h5, x, e1, y, e2, h⟩ := h
  refine B_step ?_ h
  rw [evS]
  simp only [h1, h2, h3, h4, h5, and_self, if_true, (snd c a).e _ _ e1, (snd c b).e _ _ e2, Option.bind_some, Option.map_some, nx, ne_eq, not_false_eq_true]
/-- what a slot's list or dict is when something is put in -/
def putD : D → D → D → Option D
  | .list ds, .int n, x => (ixN ds.length n).map fun j => .list (ds.set j x)
  | .dict kvs, .str s, x => if kvs.length < sizeLine then some (.dict (dput kvs s x)) else none
  | _, _, _ => none
theorem B_puti {i : Nat} {k v : E} (h : c.mode i ≠ .fz ∧ OB ((ev c v).e r) fun p => (Mp.get p.2 i).isSome = true ∧ OB ((ev c k).e p.2) fun q => OB (Mp.get q.2 i) fun o => OB (putD o q.1 p.1) fun o' => B c ss (Mp.put q.2 i o') Q) : B c (.put i k v :: ss) r Q := by
  obtain ⟨h1, p, e1, h2, q, e2, o, e3, o', e4, h⟩ := h
  refine B_step ?_ h
  rw [evS]
  simp only [h1, if_false, e1, Option.bind_some, h2, if_true, e2, e3]
  obtain ⟨y, r2⟩ := q
  cases o <;> cases y <;> simp only [putD] at e4 <;> try (cases e4; done)
  · obtain ⟨j, e5, e6⟩ := map_some' e4
    simp only [e5, Option.map_some, e6, nx]
  · split at e4
    · cases e4
      rename_i hl
      simp only [hl, if_true, nx]
    · cases e4
theorem B_put {i : Nat} {k v : E} (h : c.mode i ≠ .fz ∧ OB ((pv c v).e r) fun x => OB (Mp.get r i) fun o => OB ((pv c k).e r) fun y => OB (putD o y x) fun o' => B c ss (Mp.put r i o') Q) : B c (.put i k v :: ss) r Q := by
  obtain ⟨h1, x, e1, o, e2, y, e3, o', e4, h⟩ := h
  exact B_puti ⟨h1, _, (snd c v).e _ _ e1, by simp only [e2, Option.isSome_some], _, (snd c k).e _ _ e3, o, e2, o', e4, h⟩
def augD (o : Operator) : D → D → Option D
  | .int a, .int b => match o with
    | .Add => some (.int (a + b))
    | .Sub => some (.int (a - b))
    | _ => none
  | _, _ => none
theorem B_aug {i : Nat} {o : Operator} {e : E} (h : c.mode i = .fz ∧ OB (Mp.get r i) fun x => OB ((pv c e).e r) fun y => OB (augD o x y) fun z => B c ss (Mp.put r i z) Q) : B c (.aug i o e :: ss) r Q := by
  obtain ⟨h1, x, e1, y, e2, z, e3, h⟩ := h
  refine B_step ?_ h
  rw [evS]
  simp only [h1, if_true, e1, Option.bind_some, (snd c e).e _ _ e2]
  cases x <;> cases y <;> simp only [augD] at e3 <;> try (cases e3; done)
  cases o <;> simp only at e3 ⊢ <;> try (cases e3; done)
  all_goals cases e3; rfl
theorem B_expi {e : E} (h : OB ((ev c e).e r) fun p => B c ss p.2 Q) : B c (.exp e :: ss) r Q := by
  obtain ⟨p, e1, h⟩ := h
  refine B_step ?_ h
  rw [evS]
  simp only [e1, Option.map_some, nx]
theorem B_appi {i : Nat} {e : E} (h : c.mode i ≠ .fz ∧ isLst (Mp.get r i) = true ∧ OB ((ev c e).e r) fun p => OB ((Mp.get p.2 i).bind lD) fun ds => ds.length < sizeLine ∧ B c ss (Mp.put p.2 i (.list (ds ++ [p.1]))) Q) : B c (.exp (.app i e) :: ss) r Q := by
  obtain ⟨h1, h2, p, e1, ds, e2, h3, h⟩ := h
  refine B_expi ⟨(.none, Mp.put p.2 i (.list (ds ++ [p.1]))), ?_, h⟩
  rw [ev]
  show appE c i (ev c e) r = _
  unfold appE
  obtain ⟨d, e3, e4⟩ := bind_some e2
  cases d <;> simp [lD] at e4
  subst e4
  simp only [h1, h2, e1, e3, Option.bind_some, h3, if_true, false_or, Bool.true_eq_false, if_false]
theorem B_app {i : Nat} {e : E} (h : c.mode i ≠ .fz ∧ OB ((Mp.get r i).bind lD) fun ds => OB ((pv c e).e r) fun x => ds.length < sizeLine ∧ B c ss (Mp.put r i (.list (ds ++ [x]))) Q) : B c (.exp (.app i e) :: ss) r Q := by
  obtain ⟨h1, ds, e1, x, e2, h3, h⟩ := h
  obtain ⟨d, e3, e4⟩ := bind_some e1
  cases d <;> simp [lD] at e4
  subst e4
  exact B_appi ⟨h1, by rw [e3]; rfl, _, (snd c e).e _ _ e2, _, e1, h3, h⟩
theorem B_ext {i : Nat} {e : E} (h : c.mode i ≠ .fz ∧ OB ((Mp.get r i).bind lD) fun ds => OB ((pv c e).e r) fun x => OB (lD x) fun es => ds.length + es.length ≤ sizeLine ∧ B c ss (Mp.put r i (.list (ds ++ es))) Q) : B c (.exp (.ext i e) :: ss) r Q := by
  obtain ⟨h1, ds, e1, x, e2, es, e5, h3, h⟩ := h
  obtain ⟨d, e3, e4⟩ := bind_some e1
  cases d <;> simp [lD] at e4
  subst e4
  cases x <;> simp [lD] at e5
  subst e5
  refine B_expi ⟨(.none, _), ?_, h⟩
  rw [ev]
  show extE c i (ev c e) r = _
  unfold extE
  simp only [h1, e3, isLst, (snd c e).e _ _ e2, Option.bind_some, h3, if_true, false_or, Bool.true_eq_false, if_false]
  rfl
theorem B_itei {t : E} {a a' : List S} (h : OB ((ev c t).t r) fun p => if p.1 = true then B c (a ++ ss) p.2 Q else B c (a' ++ ss) p.2 Q) : B c (.ite t a a' :: ss) r Q := by
  obtain ⟨⟨b, r1⟩, e1, h⟩ := h
  cases b with
  | true => exact B_join (ite_tt e1) (by simpa using h)
  | false => exact B_join (ite_ff e1) (by simpa using h)
theorem B_ite {t : E} {a a' : List S} (h : OB ((pv c t).t r) fun b => if b = true then B c (a ++ ss) r Q else B c (a' ++ ss) r Q) : B c (.ite t a a' :: ss) r Q := by
  obtain ⟨b, e1, h⟩ := h
  exact B_itei ⟨_, (snd c t).t _ _ e1, h⟩
theorem B_reti {e : E} (h : OB ((ev c e).e r) fun p => Q (.rt p.1) p.2) : B c (.ret e :: ss) r Q := by
  obtain ⟨p, e1, h⟩ := h
  refine B_stop (by simp) ?_ h
  rw [evS]
  simp only [e1, Option.map_some]
theorem B_ret {e : E} (h : OB ((pv c e).e r) fun d => Q (.rt d) r) : B c (.ret e :: ss) r Q := by
  obtain ⟨d, e1, h⟩ := h
  exact B_reti ⟨_, (snd c e).e _ _ e1, h⟩
theorem B_pass (h : B c ss r Q) : B c (.pass :: ss) r Q := B_step (by rw [evS]; rfl) h
theorem B_brk (h : Q .bk r) : B c (.brk :: ss) r Q := B_stop (by simp) (by rw [evS]) h
theorem B_cnt (h : Q .ct r) : B c (.cnt :: ss) r Q := B_stop (by simp) (by rw [evS]) h
/-- how a turn of a loop may end -/
def LQ (N K : Mp.Env → Prop) (Q : Post) : Post := fun f r => match f with
  | .nx => N r
  | .ct => N r
  | .bk => K r
  | .rt d => Q (.rt d) r
@[simp] theorem LQ_nx {N K Q} {r : Mp.Env} : LQ N K Q .nx r = N r := rfl
@[simp] theorem LQ_ct {N K Q} {r : Mp.Env} : LQ N K Q .ct r = N r := rfl
@[simp] theorem LQ_bk {N K Q} {r : Mp.Env} : LQ N K Q .bk r = K r := rfl
@[simp] theorem LQ_rt {N K Q} {r : Mp.Env} {d : D} : LQ N K Q (.rt d) r = Q (.rt d) r := rfl
theorem for_run {α : Type} (g : α → D) {ok : Mp.Env → Bool} {w : Mp.Env → Mp.Env} {tg : D → Mp.Env → Option Mp.Env} {body : Mp.Env → Option (Fl × Mp.Env)} {K : Mp.Env → Prop} (I : List α → Mp.Env → Prop) (xs : List α)
    (hok : ∀ l r, I l r → ok r = true)
    (step : ∀ pre x post r, xs = pre ++ x :: post → I pre r → OB (tg (g x) (w r)) fun r1 => ∃ f r2, body r1 = some (f, r2) ∧ LQ (fun r2 => I (pre ++ [x]) (w r2)) (fun r2 => K (w r2)) Q f r2) :
    ∀ (post pre : List α) (r : Mp.Env), xs = pre ++ post → I pre r → ∃ f r', forL ok w tg body (post.map g) r = some (f, r') ∧ ((f = .nx ∧ (I xs r' ∨ K r')) ∨ (∃ d, f = .rt d ∧ Q f r'))
  | [], pre, r, hx, hI => ⟨.nx, r, by rw [List.map_nil]; unfold forL; rw [if_pos (hok _ _ hI)], .inl ⟨rfl, .inl (by rw [hx]; simpa using hI)⟩⟩
  | x :: post, pre, r, hx, hI => by
    obtain ⟨r1, e1, f, r2, e2, h⟩ := step pre x post r hx hI
    cases f with
    | nx =>
      obtain ⟨f, r', e3, h3⟩ := for_run g I xs hok step post (pre ++ [x]) (w r2) (by simpa using hx) h
      refine ⟨f, r', ?_, h3⟩
      rw [List.map_cons]
      unfold forL
      rw [if_pos (hok _ _ hI), e1]
      simp only [Option.bind_some, e2]
      exact e3
    | ct =>
      obtain ⟨f, r', e3, h3⟩ := for_run g I xs hok step post (pre ++ [x]) (w r2) (by simpa using hx) h
      refine ⟨f, r', ?_, h3⟩
      rw [List.map_cons]
      unfold forL
      rw [if_pos (hok _ _ hI), e1]
      simp only [Option.bind_some, e2]
      exact e3
    | bk =>
      refine ⟨.nx, w r2, ?_, .inl ⟨rfl, .inr h⟩⟩
      rw [List.map_cons]
      unfold forL
      rw [if_pos (hok _ _ hI), e1]
      simp only [Option.bind_some, e2]
    | rt d =>
      refine ⟨.rt d, r2, ?_, .inr ⟨d, rfl, h⟩⟩
      rw [List.map_cons]
      unfold forL
      rw [if_pos (hok _ _ hI), e1]
      simp only [Option.bind_some, e2]
/-- a loop over what an expression tells -/
theorem B_forG {α : Type} (xs : List α) (g : α → D) (I : List α → Mp.Env → Prop) {w : List Nat} {tg : Tg} {src : E} {body : List S} {t : Its} {r0 : Mp.Env}
    (hs : (ev c src).i r = some (t, r0)) (ht : t.ds = xs.map g) (ho : t.out (ownsSs body) = true) (hok : ∀ l r, I l r → t.ok r = true) (h0 : I [] (Mp.wipe r0 w))
    (step : ∀ pre x post r, xs = pre ++ x :: post → I pre r → OB (Mp.assign c tg (g x) (Mp.wipe r w)) fun r1 => B c body r1 (LQ (fun r2 => I (pre ++ [x]) (Mp.wipe r2 w)) (fun r2 => B c ss (Mp.wipe r2 w) Q) Q))
    (fin : ∀ r, I xs r → B c ss r Q) : B c (.for_ w tg src body :: ss) r Q := by
  obtain ⟨f, r', e, h⟩ := for_run (Q := Q) g (ok := t.ok) (w := fun e => Mp.wipe e w) (tg := Mp.assign c tg) (body := evSs c body) (K := fun r => B c ss r Q) I xs hok step xs [] (Mp.wipe r0 w) rfl h0
  have e' : evS c (.for_ w tg src body) r = some (f, r') := by
    rw [evS]
    simp only [hs, Option.bind_some]
    rw [if_pos ho, ht]
    exact e
  rcases h with ⟨rfl, h | h⟩ | ⟨d, rfl, h⟩
  · exact B_step e' (fin _ h)
  · exact B_step e' h
  · exact B_stop (by simp) e' h
theorem LQ_false {N K : Mp.Env → Prop} {f : Fl} {r : Mp.Env} (h : LQ N (fun _ => False) Q f r) : LQ N K Q f r := by
  cases f
  · exact h
  · exact h.elim
  · exact h
  · exact h
theorem LQ_step {α : Type} {xs : List α} {g : α → D} {I : List α → Mp.Env → Prop} {w : List Nat} {tg : Tg} {body : List S} {K : Mp.Env → Prop}
    (step : ∀ pre x post r, xs = pre ++ x :: post → I pre r → OB (Mp.assign c tg (g x) (Mp.wipe r w)) fun r1 => B c body r1 (LQ (fun r2 => I (pre ++ [x]) (Mp.wipe r2 w)) (fun _ => False) Q)) :
    ∀ pre x post r, xs = pre ++ x :: post → I pre r → OB (Mp.assign c tg (g x) (Mp.wipe r w)) fun r1 => B c body r1 (LQ (fun r2 => I (pre ++ [x]) (Mp.wipe r2 w)) K Q) := fun pre x post r h1 h2 => by
  obtain ⟨r1, e, b⟩ := step pre x post r h1 h2
  exact ⟨r1, e, b.mono fun f r2 => LQ_false⟩
/-- whether an expression is no own list or dict -/
def fzv (c : Ec) : Option Nat → Bool
  | none => true
  | some k => decide (c.mode k = .fz)
theorem B_for {α : Type} (xs : List α) (g : α → D) (I : List α → Mp.Env → Prop) {w : List Nat} {tg : Tg} {src : E} {body : List S}
    (hs : (pv c src).i r = some (xs.map g)) (hz : fzv c (pv c src).v = true) (h0 : I [] (Mp.wipe r w))
    (step : ∀ pre x post r, xs = pre ++ x :: post → I pre r → OB (Mp.assign c tg (g x) (Mp.wipe r w)) fun r1 => B c body r1 (LQ (fun r2 => I (pre ++ [x]) (Mp.wipe r2 w)) (fun _ => False) Q))
    (fin : ∀ r, I xs r → B c ss r Q) : B c (.for_ w tg src body :: ss) r Q := by
  obtain ⟨t, e1, e2, e3⟩ := (snd c src).i _ _ hs
  have e4 : t.at_ = none := by
    rcases e3 with e3 | ⟨k, k1, k2, _⟩
    · exact e3
    · rw [k1] at hz
      exact absurd (of_decide_eq_true hz) k2
  exact B_forG xs g I e1 e2 (by unfold Its.out; rw [e4]) (fun _ _ _ => by unfold Its.ok; rw [e4]) h0 (LQ_step step) fin
/-- .. over an own list that stays -/
theorem B_forv {α : Type} (xs : List α) (g : α → D) (I : List α → Mp.Env → Prop) {w : List Nat} {tg : Tg} {k : Nat} {body : List S}
    (hs : Mp.get r k = some (.list (xs.map g))) (ho : (ownsSs body).contains k = false) (hI : ∀ l r, I l r → Mp.get r k = some (.list (xs.map g))) (h0 : I [] (Mp.wipe r w))
    (step : ∀ pre x post r, xs = pre ++ x :: post → I pre r → OB (Mp.assign c tg (g x) (Mp.wipe r w)) fun r1 => B c body r1 (LQ (fun r2 => I (pre ++ [x]) (Mp.wipe r2 w)) (fun _ => False) Q))
    (fin : ∀ r, I xs r → B c ss r Q) : B c (.for_ w tg (.var k) body :: ss) r Q := by
  have hv : (pv c (.var k)).i r = some (xs.map g) := by
    rw [pv]
    show (Mp.get r k).bind _ = _
    rw [hs]
    simp only [Option.bind_some, itsD, lD, ite_self]
  obtain ⟨t, e1, e2, e3⟩ := (snd c (.var k)).i _ _ hv
  have e4 : t.at_ = none ∨ t.at_ = some (k, xs.map g) := by
    rcases e3 with e3 | ⟨k', k1, k2, k3, _⟩
    · exact .inl e3
    · rw [pv] at k1
      cases k1
      exact .inr k3
  refine B_forG xs g I e1 e2 ?_ (fun l r' h => ?_) h0 (LQ_step step) fin
  · unfold Its.out
    rcases e4 with e4 | e4 <;> rw [e4]
    simp only [ho, Bool.not_false]
  · unfold Its.ok
    rcases e4 with e4 | e4 <;> rw [e4]
    simp only [hI l r' h]
    exact deqs_refl _
theorem whl_run {w : Mp.Env → Mp.Env} {t : Mp.Env → Option (Bool × Mp.Env)} {body : Mp.Env → Option (Fl × Mp.Env)} {K : Mp.Env → Prop} (I : Nat → Mp.Env → Prop)
    (step : ∀ k r, I k r → OB (t r) fun p => if p.1 = true then ∃ f r2, body p.2 = some (f, r2) ∧ LQ (fun r2 => ∃ j, j < k ∧ I j (w r2)) (fun r2 => K (w r2)) Q f r2 else K p.2) :
    ∀ (n k : Nat) (r : Mp.Env), k < n → I k r → ∃ f r', whL w t body n r = some (f, r') ∧ ((f = .nx ∧ K r') ∨ (∃ d, f = .rt d ∧ Q f r'))
  | 0, k, r, h, _ => absurd h (Nat.not_lt_zero k)
  | n + 1, k, r, hk, hI => by
    obtain ⟨⟨b, r1⟩, e1, h⟩ := step k r hI
    cases b with
    | false =>
      refine ⟨.nx, r1, ?_, .inl ⟨rfl, by simpa using h⟩⟩
      unfold whL
      rw [e1]
      rfl
    | true =>
      simp only [if_true] at h
      obtain ⟨f, r2, e2, h⟩ := h
      have go : ∀ j, j < k → I j (w r2) → (f = .nx ∨ f = .ct) → ∃ f r', whL w t body (n + 1) r = some (f, r') ∧ ((f = .nx ∧ K r') ∨ (∃ d, f = .rt d ∧ Q f r')) := fun j hj hI' hf => by
        obtain ⟨f', r', e3, h3⟩ := whl_run I step n j (w r2) (by omega) hI'
        refine ⟨f', r', ?_, h3⟩
        unfold whL
        rw [e1]
        simp only [Option.bind_some, if_true, e2]
        rcases hf with rfl | rfl <;> exact e3
      cases f with
      | nx => obtain ⟨j, hj, h⟩ := h; exact go j hj h (.inl rfl)
      | ct => obtain ⟨j, hj, h⟩ := h; exact go j hj h (.inr rfl)
      | bk =>
        refine ⟨.nx, w r2, ?_, .inl ⟨rfl, h⟩⟩
        unfold whL
        rw [e1]
        simp only [Option.bind_some, if_true, e2]
      | rt d =>
        refine ⟨.rt d, r2, ?_, .inr ⟨d, rfl, h⟩⟩
        unfold whL
        rw [e1]
        simp only [Option.bind_some, if_true, e2]
/-- a while loop; k turns at most are left -/
theorem B_whl (I : Nat → Mp.Env → Prop) (k : Nat) {w : List Nat} {t : E} {body : List S} (hk : k < c.wf) (h0 : I k (Mp.wipe r w))
    (step : ∀ k r, I k r → OB ((pv c t).t r) fun b => if b = true then B c body r (LQ (fun r2 => ∃ j, j < k ∧ I j (Mp.wipe r2 w)) (fun _ => False) Q) else B c ss r Q) : B c (.whl w t body :: ss) r Q := by
  obtain ⟨f, r', e, h⟩ := whl_run (Q := Q) (w := fun e => Mp.wipe e w) (t := (ev c t).t) (body := evSs c body) (K := fun r => B c ss r Q) I (fun k r hI => by
    obtain ⟨b, e1, h⟩ := step k r hI
    refine ⟨(b, r), (snd c t).t _ _ e1, ?_⟩
    cases b
    · exact h
    · exact (by simpa using h : B c body r _).mono fun f r2 => LQ_false) c.wf k (Mp.wipe r w) hk h0
  have e' : evS c (.whl w t body) r = some (f, r') := by
    rw [evS]
    exact e
  rcases h with ⟨rfl, h⟩ | ⟨d, rfl, h⟩
  · exact B_step e' h
  · exact B_stop (by simp) e' h
end
/-! a def by its body -/
section
variable {P : List FD} {g : Nat} {fd : FD} {wf n : Nat} {args : List D}
theorem run_io {Φ : D → List D → Prop} (h : P[g]? = some fd) (hl : args.length = fd.ps.length)
    (hB : B (ecOf P wf n fd.md) fd.body (args.map some ++ List.replicate (fd.md.length - args.length) none) fun f r => ∃ d, f = .rt d ∧ ((List.range fd.ps.length).all fun i => fd.ps.getD i .fz == .fz || (Mp.get r i).isSome) = true ∧ Φ d ((List.range fd.ps.length).map fun i => (Mp.get r i).getD .none)) :
    ∃ d os, run P wf (n + 1) g args = some (d, os) ∧ Φ d os := by
  obtain ⟨f, r', e, d, rfl, h1, h2⟩ := hB
  exact ⟨d, _, by rw [run_eq h]; exact fd_rt hl e h1, h2⟩
theorem run_fnE {Φ : D → Prop} (h : P[g]? = some fd) (hl : fd.ps = List.replicate args.length Md.fz)
    (hB : B (ecOf P wf n fd.md) fd.body (args.map some ++ List.replicate (fd.md.length - args.length) none) fun f r => ∃ d, f = .rt d ∧ Φ d) :
    ∃ d, fnC (run P wf (n + 1)) g args = some d ∧ Φ d := by
  have hl' : args.length = fd.ps.length := by rw [hl, List.length_replicate]
  obtain ⟨d, os, e, h1, h2⟩ := run_io (Φ := fun d os => Φ d ∧ os.length = args.length) h hl' (hB.mono fun f r ⟨d, e, h⟩ => ⟨d, e, by
    rw [List.all_eq_true]
    intro i hi
    rw [hl, List.length_replicate] at hi
    have : i < args.length := by simpa using hi
    simp [hl, List.getD, this], h, by simp [hl']⟩)
  exact ⟨d, by unfold fnC; rw [e]; simp only [Option.bind_some, h2, if_true], h1⟩
theorem run_fn {d : D} (h : P[g]? = some fd) (hl : fd.ps = List.replicate args.length Md.fz)
    (hB : B (ecOf P wf n fd.md) fd.body (args.map some ++ List.replicate (fd.md.length - args.length) none) fun f r => f = .rt d) :
    fnC (run P wf (n + 1)) g args = some d := by
  obtain ⟨d', e, rfl⟩ := run_fnE (Φ := fun d' => d' = d) h hl (hB.mono fun f r e => ⟨d, e, rfl⟩)
  exact e
end
end Mh

set_option autoImplicit true
/-! what each form of expression is worth, one row each; printed by gen5.py -/
namespace Mh
open PySem L2 Mp Mg

section
variable {c : Ec} {r : Mp.Env}
@[simp] theorem pv_con_e : (pv c (.con d)).e r = some d := by rw [pv]; rfl
@[simp] theorem pv_con_v : (pv c (.con d)).v = none := by rw [pv]; rfl
@[simp] theorem pv_con_o : (pv c (.con d)).o r = (pv c (.con d)).e r := by rw [pv]; rfl
@[simp] theorem pv_con_i : (pv c (.con d)).i r = ((pv c (.con d)).e r).bind itsD := by rw [pv]; rfl
@[simp] theorem pv_con_p : (pv c (.con d)).p r = ((pv c (.con d)).e r).bind fun d => (iD d).map some := by rw [pv]; rfl
@[simp] theorem pv_con_t : (pv c (.con d)).t r = ((pv c (.con d)).e r).bind bD := by rw [pv]; rfl
@[simp] theorem pv_bin_e : (pv c (.bin o a b)).e r = ((pv c a).o r).bind fun x => ((pv c b).o r).bind fun y => Mp.bin o x y := by rw [pv]; rfl
@[simp] theorem pv_bin_v : (pv c (.bin o a b)).v = none := by rw [pv]; rfl
@[simp] theorem pv_bin_o : (pv c (.bin o a b)).o r = (pv c (.bin o a b)).e r := by rw [pv]; rfl
@[simp] theorem pv_bin_i : (pv c (.bin o a b)).i r = ((pv c (.bin o a b)).e r).bind itsD := by rw [pv]; rfl
@[simp] theorem pv_bin_p : (pv c (.bin o a b)).p r = ((pv c (.bin o a b)).e r).bind fun d => (iD d).map some := by rw [pv]; rfl
@[simp] theorem pv_bin_t : (pv c (.bin o a b)).t r = ((pv c (.bin o a b)).e r).bind bD := by rw [pv]; rfl
@[simp] theorem pv_neg_e : (pv c (.neg a)).e r = ((pv c a).e r).bind fun x => (iD x).map fun i => .int (-i) := by rw [pv]; rfl
@[simp] theorem pv_neg_v : (pv c (.neg a)).v = none := by rw [pv]; rfl
@[simp] theorem pv_neg_o : (pv c (.neg a)).o r = (pv c (.neg a)).e r := by rw [pv]; rfl
@[simp] theorem pv_neg_i : (pv c (.neg a)).i r = ((pv c (.neg a)).e r).bind itsD := by rw [pv]; rfl
@[simp] theorem pv_neg_p : (pv c (.neg a)).p r = ((pv c (.neg a)).e r).bind fun d => (iD d).map some := by rw [pv]; rfl
@[simp] theorem pv_neg_t : (pv c (.neg a)).t r = ((pv c (.neg a)).e r).bind bD := by rw [pv]; rfl
@[simp] theorem pv_cmp_e : (pv c (.cmp o a b)).e r = ((pv c a).o r).bind fun x => ((pv c b).o r).bind fun y => Mp.cmp o x y := by rw [pv]; rfl
@[simp] theorem pv_cmp_v : (pv c (.cmp o a b)).v = none := by rw [pv]; rfl
@[simp] theorem pv_cmp_o : (pv c (.cmp o a b)).o r = (pv c (.cmp o a b)).e r := by rw [pv]; rfl
@[simp] theorem pv_cmp_i : (pv c (.cmp o a b)).i r = ((pv c (.cmp o a b)).e r).bind itsD := by rw [pv]; rfl
@[simp] theorem pv_cmp_p : (pv c (.cmp o a b)).p r = ((pv c (.cmp o a b)).e r).bind fun d => (iD d).map some := by rw [pv]; rfl
@[simp] theorem pv_cmp_t : (pv c (.cmp o a b)).t r = ((pv c (.cmp o a b)).e r).bind bD := by rw [pv]; rfl
@[simp] theorem pv_chn_e : (pv c (.chn o o' a b d)).e r = ((pv c a).e r).bind fun x => ((pv c b).e r).bind fun y => (Mp.cmp o x y).bind fun z => (bD z).bind fun q => if q = true then ((pv c d).e r).bind fun u => Mp.cmp o' y u else some (.bool false) := by rw [pv]; rfl
@[simp] theorem pv_chn_v : (pv c (.chn o o' a b d)).v = none := by rw [pv]; rfl
@[simp] theorem pv_chn_o : (pv c (.chn o o' a b d)).o r = (pv c (.chn o o' a b d)).e r := by rw [pv]; rfl
@[simp] theorem pv_chn_i : (pv c (.chn o o' a b d)).i r = ((pv c (.chn o o' a b d)).e r).bind itsD := by rw [pv]; rfl
@[simp] theorem pv_chn_p : (pv c (.chn o o' a b d)).p r = ((pv c (.chn o o' a b d)).e r).bind fun d => (iD d).map some := by rw [pv]; rfl
@[simp] theorem pv_chn_t : (pv c (.chn o o' a b d)).t r = ((pv c (.chn o o' a b d)).e r).bind bD := by rw [pv]; rfl
@[simp] theorem pv_call_e : (pv c (.call f as)).e r = if c.fm f = List.replicate as.length Md.fz then (pes (pvs c as) r).bind fun ds => fnC c.C f ds else none := by rw [pv]; rfl
@[simp] theorem pv_call_v : (pv c (.call f as)).v = none := by rw [pv]; rfl
@[simp] theorem pv_call_o : (pv c (.call f as)).o r = (pv c (.call f as)).e r := by rw [pv]; rfl
@[simp] theorem pv_call_i : (pv c (.call f as)).i r = ((pv c (.call f as)).e r).bind itsD := by rw [pv]; rfl
@[simp] theorem pv_call_p : (pv c (.call f as)).p r = ((pv c (.call f as)).e r).bind fun d => (iD d).map some := by rw [pv]; rfl
@[simp] theorem pv_call_t : (pv c (.call f as)).t r = ((pv c (.call f as)).e r).bind bD := by rw [pv]; rfl
@[simp] theorem pv_prim_e : (pv c (.prim p as)).e r = (pos (pvs c as) r).bind fun ds => Mp.prim p ds := by rw [pv]; rfl
@[simp] theorem pv_prim_v : (pv c (.prim p as)).v = none := by rw [pv]; rfl
@[simp] theorem pv_prim_o : (pv c (.prim p as)).o r = (pv c (.prim p as)).e r := by rw [pv]; rfl
@[simp] theorem pv_prim_i : (pv c (.prim p as)).i r = ((pv c (.prim p as)).e r).bind itsD := by rw [pv]; rfl
@[simp] theorem pv_prim_p : (pv c (.prim p as)).p r = ((pv c (.prim p as)).e r).bind fun d => (iD d).map some := by rw [pv]; rfl
@[simp] theorem pv_prim_t : (pv c (.prim p as)).t r = ((pv c (.prim p as)).e r).bind bD := by rw [pv]; rfl
@[simp] theorem pv_idx_e : (pv c (.idx a b)).e r = ((pv c a).o r).bind fun x => ((pv c b).e r).bind fun y => Mp.idx x y := by rw [pv]; rfl
@[simp] theorem pv_idx_v : (pv c (.idx a b)).v = none := by rw [pv]; rfl
@[simp] theorem pv_idx_o : (pv c (.idx a b)).o r = (pv c (.idx a b)).e r := by rw [pv]; rfl
@[simp] theorem pv_idx_i : (pv c (.idx a b)).i r = ((pv c (.idx a b)).e r).bind itsD := by rw [pv]; rfl
@[simp] theorem pv_idx_p : (pv c (.idx a b)).p r = ((pv c (.idx a b)).e r).bind fun d => (iD d).map some := by rw [pv]; rfl
@[simp] theorem pv_idx_t : (pv c (.idx a b)).t r = ((pv c (.idx a b)).e r).bind bD := by rw [pv]; rfl
@[simp] theorem pv_slc_e : (pv c (.slc a lo hi)).e r = ((pv c a).o r).bind fun x => ((pv c lo).p r).bind fun l => ((pv c hi).p r).bind fun h => Mp.slice x l h := by rw [pv]; rfl
@[simp] theorem pv_slc_v : (pv c (.slc a lo hi)).v = none := by rw [pv]; rfl
@[simp] theorem pv_slc_o : (pv c (.slc a lo hi)).o r = (pv c (.slc a lo hi)).e r := by rw [pv]; rfl
@[simp] theorem pv_slc_i : (pv c (.slc a lo hi)).i r = ((pv c (.slc a lo hi)).e r).bind itsD := by rw [pv]; rfl
@[simp] theorem pv_slc_p : (pv c (.slc a lo hi)).p r = ((pv c (.slc a lo hi)).e r).bind fun d => (iD d).map some := by rw [pv]; rfl
@[simp] theorem pv_slc_t : (pv c (.slc a lo hi)).t r = ((pv c (.slc a lo hi)).e r).bind bD := by rw [pv]; rfl
@[simp] theorem pv_rev_e : (pv c (.rev a)).e r = ((pv c a).o r).bind fun x => Mp.revD x := by rw [pv]; rfl
@[simp] theorem pv_rev_v : (pv c (.rev a)).v = none := by rw [pv]; rfl
@[simp] theorem pv_rev_o : (pv c (.rev a)).o r = (pv c (.rev a)).e r := by rw [pv]; rfl
@[simp] theorem pv_rev_i : (pv c (.rev a)).i r = ((pv c (.rev a)).e r).bind itsD := by rw [pv]; rfl
@[simp] theorem pv_rev_p : (pv c (.rev a)).p r = ((pv c (.rev a)).e r).bind fun d => (iD d).map some := by rw [pv]; rfl
@[simp] theorem pv_rev_t : (pv c (.rev a)).t r = ((pv c (.rev a)).e r).bind bD := by rw [pv]; rfl
@[simp] theorem pv_tup_e : (pv c (.tup es)).e r = (pes (pvs c es) r).bind fun ds => (guardL ds).map .tuple := by rw [pv]; rfl
@[simp] theorem pv_tup_v : (pv c (.tup es)).v = none := by rw [pv]; rfl
@[simp] theorem pv_tup_o : (pv c (.tup es)).o r = (pv c (.tup es)).e r := by rw [pv]; rfl
@[simp] theorem pv_tup_i : (pv c (.tup es)).i r = ((pv c (.tup es)).e r).bind itsD := by rw [pv]; rfl
@[simp] theorem pv_tup_p : (pv c (.tup es)).p r = ((pv c (.tup es)).e r).bind fun d => (iD d).map some := by rw [pv]; rfl
@[simp] theorem pv_tup_t : (pv c (.tup es)).t r = ((pv c (.tup es)).e r).bind bD := by rw [pv]; rfl
@[simp] theorem pv_lst_e : (pv c (.lst es)).e r = (pes (pvs c es) r).bind fun ds => (guardL ds).map .list := by rw [pv]; rfl
@[simp] theorem pv_lst_v : (pv c (.lst es)).v = none := by rw [pv]; rfl
@[simp] theorem pv_lst_o : (pv c (.lst es)).o r = (pv c (.lst es)).e r := by rw [pv]; rfl
@[simp] theorem pv_lst_i : (pv c (.lst es)).i r = ((pv c (.lst es)).e r).bind itsD := by rw [pv]; rfl
@[simp] theorem pv_lst_p : (pv c (.lst es)).p r = ((pv c (.lst es)).e r).bind fun d => (iD d).map some := by rw [pv]; rfl
@[simp] theorem pv_lst_t : (pv c (.lst es)).t r = ((pv c (.lst es)).e r).bind bD := by rw [pv]; rfl
@[simp] theorem pv_dic_e : (pv c (.dic ks vs)).e r = (pkv (pvs c ks) (pvs c vs) r).bind fun ps => if ps.length ≤ 15 then some (.dict (mkDict ps)) else none := by rw [pv]; rfl
@[simp] theorem pv_dic_v : (pv c (.dic ks vs)).v = none := by rw [pv]; rfl
@[simp] theorem pv_dic_o : (pv c (.dic ks vs)).o r = (pv c (.dic ks vs)).e r := by rw [pv]; rfl
@[simp] theorem pv_dic_i : (pv c (.dic ks vs)).i r = ((pv c (.dic ks vs)).e r).bind itsD := by rw [pv]; rfl
@[simp] theorem pv_dic_p : (pv c (.dic ks vs)).p r = ((pv c (.dic ks vs)).e r).bind fun d => (iD d).map some := by rw [pv]; rfl
@[simp] theorem pv_dic_t : (pv c (.dic ks vs)).t r = ((pv c (.dic ks vs)).e r).bind bD := by rw [pv]; rfl
@[simp] theorem pv_comp_e : (pv c (.comp vs tg src ifs elt)).e r = if (outV vs (pv c src).v && tgIn vs tg) = true then ((pv c src).i r).bind fun ds => (fmM (pcomp c vs tg (pvs c ifs) (pv c elt) r) ds).bind fun ys => (guardL ys).map .list else none := by rw [pv]; rfl
@[simp] theorem pv_comp_v : (pv c (.comp vs tg src ifs elt)).v = none := by rw [pv]; rfl
@[simp] theorem pv_comp_o : (pv c (.comp vs tg src ifs elt)).o r = (pv c (.comp vs tg src ifs elt)).e r := by rw [pv]; rfl
@[simp] theorem pv_comp_i : (pv c (.comp vs tg src ifs elt)).i r = ((pv c (.comp vs tg src ifs elt)).e r).bind itsD := by rw [pv]; rfl
@[simp] theorem pv_comp_p : (pv c (.comp vs tg src ifs elt)).p r = ((pv c (.comp vs tg src ifs elt)).e r).bind fun d => (iD d).map some := by rw [pv]; rfl
@[simp] theorem pv_comp_t : (pv c (.comp vs tg src ifs elt)).t r = ((pv c (.comp vs tg src ifs elt)).e r).bind bD := by rw [pv]; rfl
@[simp] theorem pv_comp2_e : (pv c (.comp2 vs vs1 tg src tg1 src1 elt)).e r = if (outV vs (pv c src).v && tgIn vs tg && outV vs1 (pv c src1).v && tgIn vs1 tg1 && vs1.all vs.contains) = true then ((pv c src).i r).bind fun ds => (fcM (fun d => (Mp.assign c tg d (Mp.wipe r vs)).bind fun r1 => ((pv c src1).i r1).bind fun es => fmM (pcomp c vs1 tg1 [] (pv c elt) r1) es) ds).bind fun ys => (guardL ys).map .list else none := by rw [pv]; rfl
@[simp] theorem pv_comp2_v : (pv c (.comp2 vs vs1 tg src tg1 src1 elt)).v = none := by rw [pv]; rfl
@[simp] theorem pv_comp2_o : (pv c (.comp2 vs vs1 tg src tg1 src1 elt)).o r = (pv c (.comp2 vs vs1 tg src tg1 src1 elt)).e r := by rw [pv]; rfl
@[simp] theorem pv_comp2_i : (pv c (.comp2 vs vs1 tg src tg1 src1 elt)).i r = ((pv c (.comp2 vs vs1 tg src tg1 src1 elt)).e r).bind itsD := by rw [pv]; rfl
@[simp] theorem pv_comp2_p : (pv c (.comp2 vs vs1 tg src tg1 src1 elt)).p r = ((pv c (.comp2 vs vs1 tg src tg1 src1 elt)).e r).bind fun d => (iD d).map some := by rw [pv]; rfl
@[simp] theorem pv_comp2_t : (pv c (.comp2 vs vs1 tg src tg1 src1 elt)).t r = ((pv c (.comp2 vs vs1 tg src tg1 src1 elt)).e r).bind bD := by rw [pv]; rfl
@[simp] theorem pv_dcomp_e : (pv c (.dcomp vs tg src k v)).e r = if (outV vs (pv c src).v && tgIn vs tg) = true then ((pv c src).i r).bind fun ds => (fmM (pdcomp c vs tg (pv c k) (pv c v) r) ds).bind fun ys => (guardL ys).map fun ys => .dict (mkDict ys) else none := by rw [pv]; rfl
@[simp] theorem pv_dcomp_v : (pv c (.dcomp vs tg src k v)).v = none := by rw [pv]; rfl
@[simp] theorem pv_dcomp_o : (pv c (.dcomp vs tg src k v)).o r = (pv c (.dcomp vs tg src k v)).e r := by rw [pv]; rfl
@[simp] theorem pv_dcomp_i : (pv c (.dcomp vs tg src k v)).i r = ((pv c (.dcomp vs tg src k v)).e r).bind itsD := by rw [pv]; rfl
@[simp] theorem pv_dcomp_p : (pv c (.dcomp vs tg src k v)).p r = ((pv c (.dcomp vs tg src k v)).e r).bind fun d => (iD d).map some := by rw [pv]; rfl
@[simp] theorem pv_dcomp_t : (pv c (.dcomp vs tg src k v)).t r = ((pv c (.dcomp vs tg src k v)).e r).bind bD := by rw [pv]; rfl
@[simp] theorem pv_dcomp2_e : (pv c (.dcomp2 vs vs1 tg src tg1 src1 k v)).e r = if (outV vs (pv c src).v && tgIn vs tg && outV vs1 (pv c src1).v && tgIn vs1 tg1 && vs1.all vs.contains) = true then ((pv c src).i r).bind fun ds => (fcM (fun d => (Mp.assign c tg d (Mp.wipe r vs)).bind fun r1 => ((pv c src1).i r1).bind fun es => fmM (pdcomp c vs1 tg1 (pv c k) (pv c v) r1) es) ds).bind fun ys => (guardL ys).map fun ys => .dict (mkDict ys) else none := by rw [pv]; rfl
@[simp] theorem pv_dcomp2_v : (pv c (.dcomp2 vs vs1 tg src tg1 src1 k v)).v = none := by rw [pv]; rfl
@[simp] theorem pv_dcomp2_o : (pv c (.dcomp2 vs vs1 tg src tg1 src1 k v)).o r = (pv c (.dcomp2 vs vs1 tg src tg1 src1 k v)).e r := by rw [pv]; rfl
@[simp] theorem pv_dcomp2_i : (pv c (.dcomp2 vs vs1 tg src tg1 src1 k v)).i r = ((pv c (.dcomp2 vs vs1 tg src tg1 src1 k v)).e r).bind itsD := by rw [pv]; rfl
@[simp] theorem pv_dcomp2_p : (pv c (.dcomp2 vs vs1 tg src tg1 src1 k v)).p r = ((pv c (.dcomp2 vs vs1 tg src tg1 src1 k v)).e r).bind fun d => (iD d).map some := by rw [pv]; rfl
@[simp] theorem pv_dcomp2_t : (pv c (.dcomp2 vs vs1 tg src tg1 src1 k v)).t r = ((pv c (.dcomp2 vs vs1 tg src tg1 src1 k v)).e r).bind bD := by rw [pv]; rfl
@[simp] theorem pv_dget_e : (pv c (.dget o k x)).e r = ((pv c o).o r).bind fun x0 => ((pv c k).e r).bind fun k0 => ((pv c x).e r).bind fun z => dgetP x0 k0 z := by rw [pv]; rfl
@[simp] theorem pv_dget_v : (pv c (.dget o k x)).v = none := by rw [pv]; rfl
@[simp] theorem pv_dget_o : (pv c (.dget o k x)).o r = (pv c (.dget o k x)).e r := by rw [pv]; rfl
@[simp] theorem pv_dget_i : (pv c (.dget o k x)).i r = ((pv c (.dget o k x)).e r).bind itsD := by rw [pv]; rfl
@[simp] theorem pv_dget_p : (pv c (.dget o k x)).p r = ((pv c (.dget o k x)).e r).bind fun d => (iD d).map some := by rw [pv]; rfl
@[simp] theorem pv_dget_t : (pv c (.dget o k x)).t r = ((pv c (.dget o k x)).e r).bind bD := by rw [pv]; rfl
@[simp] theorem pv_not_e : (pv c (.not a)).e r = ((pv c a).e r).bind fun x => (bD x).map fun b => .bool (!b) := by rw [pv]; rfl
@[simp] theorem pv_not_v : (pv c (.not a)).v = none := by rw [pv]; rfl
@[simp] theorem pv_not_o : (pv c (.not a)).o r = (pv c (.not a)).e r := by rw [pv]; rfl
@[simp] theorem pv_not_i : (pv c (.not a)).i r = ((pv c (.not a)).e r).bind itsD := by rw [pv]; rfl
@[simp] theorem pv_not_p : (pv c (.not a)).p r = ((pv c (.not a)).e r).bind fun d => (iD d).map some := by rw [pv]; rfl
@[simp] theorem pv_not_t : (pv c (.not a)).t r = ((pv c a).t r).map fun b => !b := by rw [pv]
@[simp] theorem pv_and_e : (pv c (.and a b)).e r = ((pv c a).e r).bind fun x => (bD x).bind fun q => if q = true then (pv c b).e r else some (.bool false) := by rw [pv]; rfl
@[simp] theorem pv_and_v : (pv c (.and a b)).v = none := by rw [pv]; rfl
@[simp] theorem pv_and_o : (pv c (.and a b)).o r = (pv c (.and a b)).e r := by rw [pv]; rfl
@[simp] theorem pv_and_i : (pv c (.and a b)).i r = ((pv c (.and a b)).e r).bind itsD := by rw [pv]; rfl
@[simp] theorem pv_and_p : (pv c (.and a b)).p r = ((pv c (.and a b)).e r).bind fun d => (iD d).map some := by rw [pv]; rfl
@[simp] theorem pv_and_t : (pv c (.and a b)).t r = ((pv c a).t r).bind fun q => if q = true then (pv c b).t r else some false := by rw [pv]
@[simp] theorem pv_or_e : (pv c (.or a b)).e r = ((pv c a).e r).bind fun x => (bD x).bind fun q => if q = true then some (.bool true) else (pv c b).e r := by rw [pv]; rfl
@[simp] theorem pv_or_v : (pv c (.or a b)).v = none := by rw [pv]; rfl
@[simp] theorem pv_or_o : (pv c (.or a b)).o r = (pv c (.or a b)).e r := by rw [pv]; rfl
@[simp] theorem pv_or_i : (pv c (.or a b)).i r = ((pv c (.or a b)).e r).bind itsD := by rw [pv]; rfl
@[simp] theorem pv_or_p : (pv c (.or a b)).p r = ((pv c (.or a b)).e r).bind fun d => (iD d).map some := by rw [pv]; rfl
@[simp] theorem pv_or_t : (pv c (.or a b)).t r = ((pv c a).t r).bind fun q => if q = true then some true else (pv c b).t r := by rw [pv]
@[simp] theorem pv_ite_e : (pv c (.ite t a b)).e r = ((pv c t).t r).bind fun q => if q = true then (pv c a).e r else (pv c b).e r := by rw [pv]; rfl
@[simp] theorem pv_ite_v : (pv c (.ite t a b)).v = none := by rw [pv]; rfl
@[simp] theorem pv_ite_o : (pv c (.ite t a b)).o r = (pv c (.ite t a b)).e r := by rw [pv]; rfl
@[simp] theorem pv_ite_i : (pv c (.ite t a b)).i r = ((pv c (.ite t a b)).e r).bind itsD := by rw [pv]; rfl
@[simp] theorem pv_ite_p : (pv c (.ite t a b)).p r = ((pv c (.ite t a b)).e r).bind fun d => (iD d).map some := by rw [pv]; rfl
@[simp] theorem pv_ite_t : (pv c (.ite t a b)).t r = ((pv c t).t r).bind fun q => if q = true then (pv c a).t r else (pv c b).t r := by rw [pv]
@[simp] theorem pv_var_e : (pv c (.var i)).e r = if c.mode i = .fz then Mp.get r i else none := by rw [pv]; rfl
@[simp] theorem pv_var_v : (pv c (.var i)).v = some i := by rw [pv]; rfl
@[simp] theorem pv_var_o : (pv c (.var i)).o r = Mp.get r i := by rw [pv]; rfl
@[simp] theorem pv_var_i : (pv c (.var i)).i r = (Mp.get r i).bind fun d => if c.mode i = .fz then itsD d else lD d := by rw [pv]; rfl
@[simp] theorem pv_var_t : (pv c (.var i)).t r = ((pv c (.var i)).e r).bind bD := by rw [pv]; rfl
@[simp] theorem pv_var_p : (pv c (.var i)).p r = ((pv c (.var i)).e r).bind fun d => (iD d).map some := by rw [pv]; rfl
@[simp] theorem pv_abs_p : (pv c .abs).p r = some none := by rw [pv]
@[simp] theorem pv_rng_i : (pv c (.rng as)).i r = rngP (pvs c as) r := by rw [pv]
@[simp] theorem pv_rng_v : (pv c (.rng as)).v = none := by rw [pv]; rfl
@[simp] theorem pv_enm_i : (pv c (.enm a)).i r = ((pv c a).e r).bind fun x => (lD x).map (enmD 0) := by rw [pv]
@[simp] theorem pv_enm_v : (pv c (.enm a)).v = none := by rw [pv]; rfl
@[simp] theorem pv_zip_i : (pv c (.zip a b)).i r = ((pv c a).e r).bind fun x => ((pv c b).e r).bind fun y => (seq? x).bind fun xs => (seq? y).map fun ys => zipD xs ys := by rw [pv]
@[simp] theorem pv_zip_v : (pv c (.zip a b)).v = none := by rw [pv]; rfl
@[simp] theorem pes_nil : pes (pvs c []) r = some [] := by rw [pvs]; rfl
@[simp] theorem pes_cons : pes (pvs c (e :: es)) r = ((pv c e).e r).bind fun d => (pes (pvs c es) r).map (d :: ·) := by rw [pvs]; rfl
@[simp] theorem pos_nil : pos (pvs c []) r = some [] := by rw [pvs]; rfl
@[simp] theorem pos_cons : pos (pvs c (e :: es)) r = ((pv c e).o r).bind fun d => (pos (pvs c es) r).map (d :: ·) := by rw [pvs]; rfl
@[simp] theorem pts_nil : pts (pvs c []) r = some true := by rw [pvs]; rfl
@[simp] theorem pts_nil' : pts [] r = some true := rfl
@[simp] theorem pts_one : pts (pvs c [e]) r = (pv c e).t r := by rw [pvs, pvs]; rfl
@[simp] theorem pkv_nil : pkv (pvs c []) (pvs c []) r = some [] := by rw [pvs]; rfl
@[simp] theorem pkv_cons : pkv (pvs c (k :: ks)) (pvs c (v :: vs)) r = ((pv c k).e r).bind fun a => ((pv c v).e r).bind fun b => (sDof a).bind fun x => (pkv (pvs c ks) (pvs c vs) r).map ((x, b) :: ·) := by rw [pvs, pvs]; rfl
@[simp] theorem rng_one : rngP (pvs c [a]) r = ((pv c a).e r).bind fun x => (iD x).bind fun j => if small62 j = true then some (intRange 0 j.toNat) else none := by rw [pvs, pvs]; rfl
@[simp] theorem rng_two : rngP (pvs c [a, b]) r = ((pv c a).e r).bind fun x => ((pv c b).e r).bind fun y => (iD x).bind fun i => (iD y).bind fun j => if (small62 i && small62 j) = true then some (intRange i (j - i).toNat) else none := by rw [pvs, pvs, pvs]; rfl
@[simp] theorem pcomp_eq : pcomp c vs tg ifs elt r d = (Mp.assign c tg d (Mp.wipe r vs)).bind fun r1 => (pts ifs r1).bind fun b => if b = true then (elt.e r1).map some else some none := rfl
@[simp] theorem pdcomp_eq : pdcomp c vs tg k v r d = (Mp.assign c tg d (Mp.wipe r vs)).bind fun r1 => (k.e r1).bind fun a => (v.e r1).bind fun b => (sDof a).map fun x => some (x, b) := rfl
@[simp] theorem assign_nm : Mp.assign c (.nm i) d r = if c.mode i = .fz ∧ i < r.length then some (Mp.put r i d) else none := by rw [Mp.assign]
@[simp] theorem assign_tup : Mp.assign c (.tup ts) d r = (seq? d).bind fun ds => Mp.assign.go c ts ds r := by rw [Mp.assign]
@[simp] theorem go_nil : Mp.assign.go c [] [] r = some r := by rw [Mp.assign.go]
@[simp] theorem go_cons : Mp.assign.go c (t :: ts) (d :: ds) r = (Mp.assign c t d r).bind fun r1 => Mp.assign.go c ts ds r1 := by rw [Mp.assign.go]
end
@[simp] theorem seq_list : seq? (.list ds) = some ds := rfl
@[simp] theorem seq_tuple : seq? (.tuple ds) = some ds := rfl
@[simp] theorem bD_bool : bD (.bool b) = some b := rfl
@[simp] theorem iD_int : iD (.int b) = some b := rfl
@[simp] theorem sD_str : sDof (.str b) = some b := rfl
@[simp] theorem lD_list : lD (.list b) = some b := rfl
@[simp] theorem itsD_list : itsD (.list b) = some b := rfl
@[simp] theorem itsD_dict : itsD (.dict b) = some (b.map (·.1)) := rfl
@[simp] theorem itsD_tuple : itsD (.tuple b) = some b := rfl
@[simp] theorem dgetP_dict : dgetP (.dict kvs) (.str k) z = some ((Mp.dget kvs k).getD z) := rfl
@[simp] theorem guardL_bind {β γ : Type} (l : List β) (f : List β → Option γ) : (guardL l).bind f = if l.length ≤ sizeLine then f l else none := by unfold guardL; split <;> rfl
@[simp] theorem guardL_map {β γ : Type} (l : List β) (f : List β → γ) : (guardL l).map f = if l.length ≤ sizeLine then some (f l) else none := by unfold guardL; split <;> rfl
@[simp] theorem mode_ec {P : List FD} {wf n : Nat} {md : List Md} : Ec.mode (ecOf P wf n md) i = md.getD i .fz := rfl
@[simp] theorem fm_ec {P : List FD} {wf n : Nat} {md : List Md} : (ecOf P wf n md).fm = fmOf P := rfl
@[simp] theorem C_ec {P : List FD} {wf n : Nat} {md : List Md} : (ecOf P wf n md).C = run P wf n := rfl
@[simp] theorem wf_ec {P : List FD} {wf n : Nat} {md : List Md} : (ecOf P wf n md).wf = wf := rfl
@[simp] theorem get_0 {x : Option D} {r : Mp.Env} : Mp.get (x :: r) 0 = x := rfl
@[simp] theorem get_succ {x : Option D} {r : Mp.Env} {i : Nat} : Mp.get (x :: r) (i + 1) = Mp.get r i := rfl
@[simp] theorem put_0 {x : Option D} {r : Mp.Env} {d : D} : Mp.put (x :: r) 0 d = some d :: r := rfl
@[simp] theorem put_succ {x : Option D} {r : Mp.Env} {i : Nat} {d : D} : Mp.put (x :: r) (i + 1) d = x :: Mp.put r i d := rfl
@[simp] theorem wipe_nil {r : Mp.Env} : Mp.wipe r [] = r := rfl
@[simp] theorem wipe_cons {r : Mp.Env} {v : Nat} {vs : List Nat} : Mp.wipe r (v :: vs) = (Mp.wipe r vs).set v none := rfl
@[simp] theorem tgIn_nm {vs : List Nat} {i : Nat} : tgIn vs (.nm i) = vs.contains i := by rw [tgIn]
@[simp] theorem tgIn_tup {vs : List Nat} : tgIn vs (.tup ts) = tgsIn vs ts := by rw [tgIn]
@[simp] theorem tgsIn_nil {vs : List Nat} : tgsIn vs [] = true := by rw [tgsIn]
@[simp] theorem tgsIn_cons {vs : List Nat} : tgsIn vs (t :: ts) = (tgIn vs t && tgsIn vs ts) := by rw [tgsIn]
@[simp] theorem outV_none {vs : List Nat} : outV vs none = true := rfl
@[simp] theorem outV_some {vs : List Nat} {k : Nat} : outV vs (some k) = !vs.contains k := rfl
@[simp] theorem fzv_none {c : Ec} : fzv c none = true := rfl
@[simp] theorem fzv_some {c : Ec} {k : Nat} : fzv c (some k) = decide (c.mode k = .fz) := rfl
theorem fm_of {P : List FD} {g : Nat} {fd : FD} (h : P[g]? = some fd) : fmOf P g = fd.ps := by
  show (P[g]?.map FD.ps).getD [] = _
  rw [h]; rfl
end Mh

/-! kinds before the program's own tests -/
namespace Mg
open PySem L2 Mp

theorem any_sD (w : Str) : ∀ ss : List Str, ((sD ss).any fun z => PyData.eqv z (.str w)) = decide (w ∈ ss)
  | [] => by simp [sD]
  | s :: ss => by
    have ih := any_sD w ss
    have e : sD (s :: ss) = .str s :: sD ss := rfl
    rw [e, List.any_cons, ih, eqv_str]
    simp only [List.mem_cons, Bool.decide_or, eq_comm (a := w)]
theorem flat_sD : ∀ ss : List Str, (sD ss).all Mp.flatD = true
  | [] => rfl
  | s :: ss => by
    have e : sD (s :: ss) = .str s :: sD ss := rfl
    rw [e, List.all_cons, flat_sD ss]; rfl
theorem in_sD (w : Str) (ss : List Str) : Mp.cmp .In (.str w) (.list (sD ss)) = some (.bool (decide (w ∈ ss))) := by
  rw [cmp_in _ _ fun _ _ _ _ => trivial]
  unfold Mp.inL
  rw [if_pos ⟨rfl, flat_sD ss⟩, any_sD]
  rfl
theorem bools_true : ∀ n : Nat, Mp.boolsOf (List.replicate n (.bool true)) = some (List.replicate n true)
  | 0 => rfl
  | n + 1 => by
    rw [List.replicate_succ, Mp.boolsOf, bools_true n]
    rfl
theorem all_true (n : Nat) : Mp.prim .all [.list (List.replicate n (.bool true))] = some (.bool true) := by
  show (Mp.boolsOf _).map _ = _
  rw [bools_true]
  simp
end Mg

/-! kinds before the program's own tests: parts -/
namespace Mg
open PySem L2 Mp

theorem repl_snoc (n : Nat) (d : D) : List.replicate n d ++ [d] = List.replicate (n + 1) d := (List.replicate_succ' (n := n) (a := d)).symm
theorem parts_spec {P : List FD} (h4 : P[4]? = some Mf.fd_are_parts) {wf n : Nat} {ps ss : List Str} (h3 : ps.length ≤ 3) (hs : ∀ p ∈ ps, p ∈ ss) :
    run P wf (n + 1) 4 [.tuple (sD ps), .list (sD ss)] = some (.bool true, [.tuple (sD ps), .list (sD ss)]) := by
  rw [run_eq h4]
  let ec : Ec := ecOf P wf n Mf.fd_are_parts.md
  let R : Mp.Env := [some (.tuple (sD ps)), some (.list (sD ss)), none]
  let I : List D → Mp.Env → Prop := fun acc r => acc = List.replicate acc.length (.bool true) ∧ r = R
  have hle : Mp.cmp .LtE (.int (ps.length : Int)) (.int 3) = some (.bool true) := by
    show some (PyData.bool (decide ((ps.length : Int) ≤ 3))) = _
    rw [decide_eq_true (by omega)]
  have hlen : Mp.prim .len [.tuple (sD ps)] = some (.int (ps.length : Int)) := by
    show some (PyData.int ((sD ps).length : Nat)) = _
    rw [sD_len]
  obtain ⟨out, r', e, ⟨a1, rfl⟩, hl⟩ := compL_inv (ok := fun r => (⟨sD ps, none⟩ : Mp.Its).ok r) (w := fun e => Mp.wipe e [2]) (tg := Mp.assign ec (.nm 2)) (elt := (ev ec (.and (.prim (.isi "str") [(.var 2)]) (.cmp .In (.var 2) (.var 1)))).e) I ps.length (by simp [sizeLine]; omega) (fun _ _ _ => rfl)
    (sD ps) [] R ⟨rfl, rfl⟩ (by simp [sD_len]) (fun acc d r hd hlt hI => by
      obtain ⟨a1, rfl⟩ := hI
      obtain ⟨p, hp, rfl⟩ := List.mem_map.mp hd
      have hin := in_sD p ss
      rw [decide_eq_true (hs p hp)] at hin
      have his : Mp.prim (.isi "str") [.str p] = some (.bool true) := rfl
      refine ⟨[some (.tuple (sD ps)), some (.list (sD ss)), some (.str p)], .bool true, [some (.tuple (sD ps)), some (.list (sD ss)), some (.str p)], ?_, ?_, ?_, by simp [R, Mp.wipe]⟩
      · simp [R, Mp.assign, Ec.mode, ec, Mf.fd_are_parts, Mp.wipe, Mp.put]
      · simp [ec, ev, evs, andE, primE, osV, resAll, varV, varE, plainV, View.o, binE, Op.res, Mp.get, Ec.mode, Mf.fd_are_parts, hin, his]
      · rw [List.length_append, List.length_singleton, ← repl_snoc, ← a1])
  have hc : (ev ec (.comp [2] (.nm 2) (.var 0) [] (.and (.prim (.isi "str") [(.var 2)]) (.cmp .In (.var 2) (.var 1))))).e R = some (.list out, R) := by
    have hi : (ev ec (.var 0)).i R = some (⟨sD ps, none⟩, R) := rfl
    rw [show (ev ec (.comp [2] (.nm 2) (.var 0) [] (.and (.prim (.isi "str") [(.var 2)]) (.cmp .In (.var 2) (.var 1))))).e R = compE ec [2] (.nm 2) (ev ec (.var 0)) [] (ev ec (.and (.prim (.isi "str") [(.var 2)]) (.cmp .In (.var 2) (.var 1)))) R from by rw [ev]; rfl]
    unfold compE
    rw [hi]
    show ((compL _ _ _ _ _ _ [] (Mp.wipe R [2])).map _) = _
    rw [show Mp.wipe R [2] = R from rfl, e]
    rfl
  have ha : Mp.prim .all [.list out] = some (.bool true) := by rw [a1]; exact all_true _
  refine fd_rt (fd := Mf.fd_are_parts) (r' := R) rfl ?_ rfl
  show evSs ec _ R = _
  have hv : (ev ec (.comp [2] (.nm 2) (.var 0) [] (.and (.prim (.isi "str") [(.var 2)]) (.cmp .In (.var 2) (.var 1))))).v = none := rfl
  generalize hC : (E.comp [2] (.nm 2) (.var 0) [] (.and (.prim (.isi "str") [(.var 2)]) (.cmp .In (.var 2) (.var 1)))) = C at hc hv
  have hc' : (ev (ecOf P wf n [Md.fz, Md.fz, Md.fz]) C).e [some (.tuple (sD ps)), some (.list (sD ss)), none] = some (.list out, [some (.tuple (sD ps)), some (.list (sD ss)), none]) := hc
  have hv' : (ev (ecOf P wf n [Md.fz, Md.fz, Md.fz]) C).v = none := hv
  generalize (ps.length : Int) = L at hlen hle
  simp [R, ec, evSs, evS, thenS, ev, evs, andE, primE, osV, resAll, varV, varE, plainV, View.o, binE, Op.res, Mp.get, Ec.mode, Mf.fd_are_parts, hlen, hle, hC, hc', hv', ha]
end Mg

/-! kinds before the program's own tests: names -/
namespace Mg
open PySem L2 Mp

theorem in_letters {c : Nat} (h0 : 97 ≤ c) (h1 : c ≤ 122) : Mp.cmp .In (.str (tx [c])) (.str letters) = some (.bool true) := by
  have : ∀ k ∈ List.range 26, Mp.inStr (tx [97 + k]) letters = true := by decide +kernel
  show some (PyData.bool (Mp.inStr _ _)) = _
  have := this (c - 97) (by simp; omega)
  rw [show 97 + (c - 97) = c by omega] at this
  rw [this]
theorem not_noWords {w : Str} (h : w ∉ noWords) : Mp.cmp .In (.str w) (.tuple [.str "mark", .str "part", .str "same", .str "test", .str "sum", .str "not", .str "both", .str "either"]) = some (.bool false) := by
  have e : Mp.cmp .In (.str w) (.tuple [.str "mark", .str "part", .str "same", .str "test", .str "sum", .str "not", .str "both", .str "either"]) = Mp.cmp .In (.str w) (.list [.str "mark", .str "part", .str "same", .str "test", .str "sum", .str "not", .str "both", .str "either"]) := by
    rw [cmp_in _ _ fun _ _ _ _ => trivial]
    rw [show ∀ ds : List D, Mp.cmp .In (.str w) (.tuple ds) = (Mp.inT (.str w) ds).map PyData.bool from fun ds => by simp [Mp.cmp]]
    unfold Mp.inL Mp.inT
    rw [if_pos ⟨rfl, rfl⟩]
  rw [e, in_noWords, decide_eq_false h]
end Mg

/-! kinds before the program's own tests: a name is one -/
namespace Mg
open PySem L2 Mp

theorem name_spec {P : List FD} (h1 : P[1]? = some Mf.fd_is_name) {wf n : Nat} {w : Str} (hw : Named w) :
    run P wf (n + 1) 1 [.str w] = some (.bool true, [.str w]) := by
  obtain ⟨l, rfl, l1, l8, hl, hno⟩ := hw
  have hno := not_noWords hno
  rw [run_eq h1]
  let ec : Ec := ecOf P wf n Mf.fd_is_name.md
  let ds : List D := l.map fun c => .str (tx [c])
  let R : Mp.Env := [some (.str (tx l)), none]
  let I : List D → Mp.Env → Prop := fun acc r => acc = List.replicate acc.length (.bool true) ∧ r = R
  have hlen : Mp.prim .len [.str (tx l)] = some (.int (l.length : Int)) := by
    have h : (tx l).length ≤ sizeLine := by rw [tx_len]; simp [sizeLine]; omega
    show (if (tx l).length ≤ sizeLine then some (PyData.int ((tx l).length : Nat)) else none) = _
    rw [if_pos h, tx_len]
  have c1 : Mp.cmp .LtE (.int 1) (.int (l.length : Int)) = some (.bool true) := by
    show some (PyData.bool (decide ((1 : Int) ≤ (l.length : Int)))) = _
    rw [decide_eq_true (by omega)]
  have c2 : Mp.cmp .LtE (.int (l.length : Int)) (.int 8) = some (.bool true) := by
    show some (PyData.bool (decide ((l.length : Int) ≤ 8))) = _
    rw [decide_eq_true (by omega)]
  have his : Mp.prim (.isi "str") [.str (tx l)] = some (.bool true) := rfl
  obtain ⟨out, r', e, ⟨a1, rfl⟩, hlo⟩ := compL_inv (ok := fun r => (⟨ds, none⟩ : Mp.Its).ok r) (w := fun e => Mp.wipe e [1]) (tg := Mp.assign ec (.nm 1)) (elt := (ev ec (.cmp .In (.var 1) (.con (.str letters)))).e) I l.length (by simp [sizeLine]; omega) (fun _ _ _ => rfl)
    ds [] R ⟨rfl, rfl⟩ (by simp [ds]) (fun acc d r hd hlt hI => by
      obtain ⟨a1, rfl⟩ := hI
      obtain ⟨c, hc, rfl⟩ := List.mem_map.mp hd
      have hin := in_letters (hl c hc).1 (hl c hc).2
      refine ⟨[some (.str (tx l)), some (.str (tx [c]))], .bool true, [some (.str (tx l)), some (.str (tx [c]))], ?_, ?_, ?_, by simp [R, Mp.wipe]⟩
      · simp [R, Mp.assign, Ec.mode, ec, Mf.fd_is_name, Mp.wipe, Mp.put]
      · simp [ec, ev, evs, varV, varE, plainV, View.o, binE, Op.res, Mp.get, Ec.mode, Mf.fd_is_name, hin]
      · rw [List.length_append, List.length_singleton, ← repl_snoc, ← a1])
  have hi : (ev ec (.var 0)).i R = some (⟨ds, none⟩, R) := by
    show (if (tx l).length ≤ sizeLine then some (Mp.Its.mk _ none) else none).map _ = _
    rw [if_pos (by rw [tx_len]; simp [sizeLine]; omega)]
    simp [ds, tx, R]
  have hc : (ev ec (.comp [1] (.nm 1) (.var 0) [] (.cmp .In (.var 1) (.con (.str letters))))).e R = some (.list out, R) := by
    rw [show (ev ec (.comp [1] (.nm 1) (.var 0) [] (.cmp .In (.var 1) (.con (.str letters))))).e R = compE ec [1] (.nm 1) (ev ec (.var 0)) [] (ev ec (.cmp .In (.var 1) (.con (.str letters)))) R from by rw [ev]; rfl]
    unfold compE
    rw [hi]
    show ((compL _ _ _ _ _ _ [] (Mp.wipe R [1])).map _) = _
    rw [show Mp.wipe R [1] = R from rfl, e]
    rfl
  have ha : Mp.prim .all [.list out] = some (.bool true) := by rw [a1]; exact all_true _
  refine fd_rt (fd := Mf.fd_is_name) (r' := R) rfl ?_ rfl
  show evSs ec _ R = _
  have hv : (ev ec (.comp [1] (.nm 1) (.var 0) [] (.cmp .In (.var 1) (.con (.str letters))))).v = none := rfl
  generalize hC : (E.comp [1] (.nm 1) (.var 0) [] (.cmp .In (.var 1) (.con (.str letters)))) = C at hc hv
  have hc' : (ev (ecOf P wf n [Md.fz, Md.fz]) C).e [some (.str (tx l)), none] = some (.list out, [some (.str (tx l)), none]) := hc
  have hv' : (ev (ecOf P wf n [Md.fz, Md.fz]) C).v = none := hv
  generalize (l.length : Int) = L at hlen c1 c2
  simp only [letters] at hC
  simp [R, ec, evSs, evS, thenS, ev, evs, asT, notE, orE, chnE, primE, osV, resAll, varV, varE, plainV, View.o, binE, Op.res, Mp.get, Ec.mode, nx, Mf.fd_is_name, hlen, c1, c2, his, hno, hC, hc', hv', ha]
end Mg

/-! kinds before the program's own tests: pairs -/
namespace Mg
open PySem L2 Mp

theorem pairs_spec {P : List FD} (h1 : P[1]? = some Mf.fd_is_name) (h2 : P[2]? = some Mf.fd_are_pairs) {wf n : Nat} {ds : List D} {most : Int} (l1 : 1 ≤ ds.length) (l2 : (ds.length : Int) ≤ most) (hd : ∀ d ∈ ds, ∃ w xs, d = .tuple [.str w, .tuple xs] ∧ Named w) :
    run P wf (n + 2) 2 [.tuple ds, .int most] = some (.bool true, [.tuple ds, .int most]) := by
  have fm : fmOf P 1 = [.fz] := by
    show (P[1]?.map FD.ps).getD [] = _
    rw [h1]; rfl
  rw [run_eq h2]
  let ec : Ec := ecOf P wf (n + 1) Mf.fd_are_pairs.md
  let R : Mp.Env := [some (.tuple ds), some (.int most), none]
  have hlen : Mp.prim .len [.tuple ds] = some (.int (ds.length : Int)) := rfl
  have c1 : Mp.cmp .LtE (.int 1) (.int (ds.length : Int)) = some (.bool true) := by
    show some (PyData.bool (decide ((1 : Int) ≤ (ds.length : Int)))) = _
    rw [decide_eq_true (by omega)]
  have c2 : Mp.cmp .LtE (.int (ds.length : Int)) (.int most) = some (.bool true) := by
    show some (PyData.bool (decide ((ds.length : Int) ≤ most))) = _
    rw [decide_eq_true l2]
  have his : Mp.prim (.isi "tuple") [.tuple ds] = some (.bool true) := rfl
  obtain ⟨r', e, rfl⟩ := forL_inv (ok := fun r => (⟨ds, none⟩ : Mp.Its).ok r) (w := fun e => Mp.wipe e [2]) (tg := Mp.assign ec (.nm 2)) (body := evSs ec [.ite (.or (.not (.prim (.isi "tuple") [(.var 2)])) (.or (.cmp .NotEq (.prim .len [(.var 2)]) (.con (.int 2))) (.or (.not (.call 1 [(.idx (.var 2) (.con (.int 0)))])) (.not (.prim (.isi "tuple") [(.idx (.var 2) (.con (.int 1)))]))))) [.ret (.con (.bool false))] []]) (fun _ r => r = R) (fun _ _ _ => rfl)
    ds 0 R rfl (fun j d r hj hI => by
      subst hI
      obtain ⟨w, xs, rfl, hw⟩ := hd d (List.mem_of_getElem? hj)
      have t := name_spec (wf := wf) (n := n) h1 hw
      refine ⟨[some (.tuple ds), some (.int most), some (.tuple [.str w, .tuple xs])], [some (.tuple ds), some (.int most), some (.tuple [.str w, .tuple xs])], ?_, .inl ?_, by simp [R, Mp.wipe]⟩
      · simp [R, Mp.assign, Ec.mode, ec, Mf.fd_are_pairs, Mp.wipe, Mp.put]
      · have p1 : Mp.prim (.isi "tuple") [.tuple [.str w, .tuple xs]] = some (.bool true) := rfl
        have p2 : Mp.prim (.isi "tuple") [.tuple xs] = some (.bool true) := rfl
        have p3 : Mp.prim .len [.tuple [.str w, .tuple xs]] = some (.int 2) := rfl
        have p4 : Mp.idx (.tuple [.str w, .tuple xs]) (.int 0) = some (.str w) := rfl
        have p5 : Mp.idx (.tuple [.str w, .tuple xs]) (.int 1) = some (.tuple xs) := rfl
        have p6 : Mp.cmp .NotEq (.int 2) (.int 2) = some (.bool false) := rfl
        simp [ec, evSs, evS, thenS, ev, evs, asT, notE, orE, primE, osV, resAll, idxE, varV, varE, plainV, View.o, binE, Op.res, Mp.get, Ec.mode, nx, Mf.fd_are_pairs, fm, asV, Mp.callWith, refsOf, arAll, Ar.res, outs, Mp.wipe, t, p1, p2, p3, p4, p5, p6])
  refine fd_rt (fd := Mf.fd_are_pairs) (r' := R) rfl ?_ rfl
  show evSs ec _ R = _
  generalize (ds.length : Int) = L at hlen c1 c2
  have s0 : evS ec (.ite (.or (.not (.prim (.isi "tuple") [(.var 0)])) (.not (.chn .LtE .LtE (.con (.int 1)) (.prim .len [(.var 0)]) (.var 1)))) [.ret (.con (.bool false))] []) R = some (.nx, R) := by
    simp [R, ec, evSs, evS, thenS, ev, evs, asT, notE, orE, chnE, primE, osV, resAll, varV, varE, plainV, View.o, binE, Op.res, Mp.get, Ec.mode, nx, Mf.fd_are_pairs, hlen, c1, c2, his]
  have hi : (ev ec (.var 0)).i R = some (⟨ds, none⟩, R) := rfl
  refine (thenS_nx s0).trans ((thenS_nx (r1 := R) ?_).trans rfl)
  rw [evS]
  simp only [hi, Option.bind_some]
  exact e
end Mg

/-! dicts of numbers; a comprehension that leaves out -/
namespace Mg
open PySem L2 Mp

/-- names with numbers, as a dict's rows -/
def numsD (al : List (Str × Int)) : List (D × D) := al.map fun p => (.str p.1, .int p.2)
def sput (al : List (Str × Int)) (k : Str) (v : Int) : List (Str × Int) :=
  match al with
  | [] => [(k, v)]
  | (x, u) :: r => if x = k then (x, v) :: r else (x, u) :: sput r k v
theorem numsD_put (k : Str) (v : Int) : ∀ al, Mp.dput (numsD al) k (.int v) = numsD (sput al k v)
  | [] => rfl
  | (x, u) :: r => by
    have ih := numsD_put k v r
    have e : numsD ((x, u) :: r) = (.str x, .int u) :: numsD r := rfl
    rw [e, Mp.dput, sput]
    by_cases h : x = k
    · rw [if_pos h, if_pos h]; rfl
    · rw [if_neg h, if_neg h, ih]; rfl
theorem numsD_get (k : Str) : ∀ al : List (Str × Int), k ∈ al.map (·.1) → ∃ v : Int, Mp.dget (numsD al) k = some (.int v)
  | (x, u) :: r, h => by
    have e : numsD ((x, u) :: r) = (.str x, .int u) :: numsD r := rfl
    rw [e, Mp.dget]
    by_cases hx : x = k
    · exact ⟨u, by rw [if_pos hx]⟩
    · rw [if_neg hx]
      exact numsD_get k r (by simpa [Ne.symm hx] using h)
theorem numsD_none (k : Str) : ∀ al : List (Str × Int), k ∉ al.map (·.1) → Mp.dget (numsD al) k = none
  | [], _ => rfl
  | (x, u) :: r, h => by
    have e : numsD ((x, u) :: r) = (.str x, .int u) :: numsD r := rfl
    simp only [List.map_cons, List.mem_cons, not_or] at h
    rw [e, Mp.dget, if_neg (Ne.symm h.1)]
    exact numsD_none k r h.2
theorem numsD_in (k : Str) (al : List (Str × Int)) : Mp.cmp .In (.str k) (.dict (numsD al)) = some (.bool (decide (k ∈ al.map (·.1)))) := by
  show some (PyData.bool (Mp.dget (numsD al) k).isSome) = _
  by_cases h : k ∈ al.map (·.1)
  · obtain ⟨v, e⟩ := numsD_get k al h
    rw [e, decide_eq_true h]; rfl
  · rw [numsD_none k al h, decide_eq_false h]; rfl
theorem sput_keys (k : Str) (v : Int) : ∀ al : List (Str × Int), (sput al k v).map (·.1) = if k ∈ al.map (·.1) then al.map (·.1) else al.map (·.1) ++ [k]
  | [] => by simp [sput]
  | (x, u) :: r => by
    rw [sput]
    by_cases h : x = k
    · rw [if_pos h]; simp [h]
    · rw [if_neg h, List.map_cons, sput_keys k v r]
      by_cases h' : k ∈ r.map (·.1)
      · rw [if_pos h', if_pos (by simp only [List.map_cons]; exact List.mem_cons_of_mem _ h')]; rfl
      · rw [if_neg h', if_neg (by simp only [List.map_cons, List.mem_cons, not_or]; exact ⟨Ne.symm h, h'⟩)]; rfl
theorem compL_fil {ok : Mp.Env → Bool} {w : Mp.Env → Mp.Env} {tg : D → Mp.Env → Option Mp.Env} {cond : Mp.Env → Option (Bool × Mp.Env)} {elt : Mp.Env → Option (D × Mp.Env)} (I : Nat → List D → Mp.Env → Prop) (hok : ∀ i acc r, I i acc r → ok r = true) :
    ∀ (ds acc : List D) (i : Nat) (r : Mp.Env), I i acc r → acc.length + ds.length < sizeLine →
      (∀ j acc d r, ds[j]? = some d → I (i + j) acc r → ∃ r1 b r2, tg d (w r) = some r1 ∧ cond r1 = some (b, r2) ∧ (b = false → I (i + j + 1) acc (w r2)) ∧ (b = true → ∃ y r3, elt r2 = some (y, r3) ∧ I (i + j + 1) (acc ++ [y]) (w r3))) →
      ∃ out r', compL ok w tg cond elt ds acc r = some (out, r') ∧ I (i + ds.length) out r' ∧ out.length ≤ acc.length + ds.length
  | [], acc, i, r, h, hl, _ => ⟨acc, r, by unfold compL; rw [if_pos (hok _ _ _ h)], h, by simp⟩
  | d :: ds, acc, i, r, h, hl, step => by
    rw [List.length_cons] at hl
    have next : ∀ j acc d r, ds[j]? = some d → I (i + 1 + j) acc r → ∃ r1 b r2, tg d (w r) = some r1 ∧ cond r1 = some (b, r2) ∧ (b = false → I (i + 1 + j + 1) acc (w r2)) ∧ (b = true → ∃ y r3, elt r2 = some (y, r3) ∧ I (i + 1 + j + 1) (acc ++ [y]) (w r3)) := fun j acc d' r hd hr => by
      have := step (j + 1) acc d' r (by simpa using hd) (by rw [show i + (j + 1) = i + 1 + j by omega]; exact hr)
      rw [show i + (j + 1) + 1 = i + 1 + j + 1 by omega] at this
      exact this
    obtain ⟨r1, b, r2, e1, e2, hf, ht⟩ := step 0 acc d r rfl h
    cases b with
    | false =>
      obtain ⟨out, r', e3, h3, h4⟩ := compL_fil I hok ds acc (i + 1) (w r2) (hf rfl) (by omega) next
      refine ⟨out, r', ?_, by rw [List.length_cons, show i + (ds.length + 1) = i + 1 + ds.length by omega]; exact h3, by simp; omega⟩
      unfold compL
      rw [if_pos (hok _ _ _ h), e1]
      simp only [Option.bind_some, e2, Bool.false_eq_true, if_false]
      exact e3
    | true =>
      obtain ⟨y, r3, e4, h2⟩ := ht rfl
      obtain ⟨out, r', e3, h3, h4⟩ := compL_fil I hok ds (acc ++ [y]) (i + 1) (w r3) h2 (by simp; omega) next
      refine ⟨out, r', ?_, by rw [List.length_cons, show i + (ds.length + 1) = i + 1 + ds.length by omega]; exact h3, by simp at h4 ⊢; omega⟩
      unfold compL
      rw [if_pos (hok _ _ _ h), e1]
      simp only [Option.bind_some, e2, if_true, e4]
      rw [if_pos (by omega)]
      exact e3
end Mg

/-! a comprehension that changes nothing -/
namespace Mg
open PySem L2 Mp

theorem compL_map {ok : Mp.Env → Bool} {w : Mp.Env → Mp.Env} {tg : D → Mp.Env → Option Mp.Env} {elt : Mp.Env → Option (D × Mp.Env)} (f : D → D) {R : Mp.Env} (hok : ok R = true) :
    ∀ (ds acc : List D), acc.length + ds.length < sizeLine → (∀ d ∈ ds, ∃ r1 r2, tg d (w R) = some r1 ∧ elt r1 = some (f d, r2) ∧ w r2 = R) →
      compL ok w tg (tsV []) elt ds acc R = some (acc ++ ds.map f, R)
  | [], acc, _, _ => by unfold compL; rw [if_pos hok]; simp
  | d :: ds, acc, hl, h => by
    rw [List.length_cons] at hl
    obtain ⟨r1, r2, e1, e2, e3⟩ := h d List.mem_cons_self
    have ih := compL_map f hok ds (acc ++ [f d]) (by simp; omega) fun d' hd => h d' (List.mem_cons_of_mem _ hd)
    unfold compL
    rw [if_pos hok, e1]
    simp only [Option.bind_some, tsV, if_true, e2]
    rw [if_pos (by omega), e3, ih]
    simp
theorem bools_map {α : Type} (g : α → Bool) : ∀ l : List α, Mp.boolsOf (l.map fun x => .bool (g x)) = some (l.map g)
  | [] => rfl
  | x :: l => by rw [List.map_cons, Mp.boolsOf, bools_map g l]; rfl
theorem all_map {α : Type} (g : α → Bool) (l : List α) : Mp.prim .all [.list (l.map fun x => .bool (g x))] = some (.bool (l.all g)) := by
  show (Mp.boolsOf _).map _ = _
  rw [bools_map]
  simp [List.all_map]
theorem ints_map {α : Type} (g : α → Int) : ∀ l : List α, Mp.intsOf (l.map fun x => .int (g x)) = some (l.map g)
  | [] => rfl
  | x :: l => by rw [List.map_cons, Mp.intsOf, ints_map g l]; rfl
theorem sum_map {α : Type} (g : α → Int) (l : List α) : Mp.prim .sum [.list (l.map fun x => .int (g x))] = some (.int (l.map g).sum) := by
  show (Mp.intsOf _).map _ = _
  rw [ints_map]
  rfl
end Mg

/-! lemmas for walking -/
namespace Mh
open PySem L2 Mp Mg

section
variable {α β γ : Type}
@[simp] theorem fmM_map (f : β → Option (Option γ)) (g : α → β) (xs : List α) : fmM f (xs.map g) = fmM (fun x => f (g x)) xs := by
  induction xs with
  | nil => rfl
  | cons x xs ih => rw [List.map_cons, fmM, fmM, ih]
@[simp] theorem fcM_map (f : β → Option (List γ)) (g : α → β) (xs : List α) : fcM f (xs.map g) = fcM (fun x => f (g x)) xs := by
  induction xs with
  | nil => rfl
  | cons x xs ih => rw [List.map_cons, fcM, fcM, ih]
@[simp] theorem fmM_pure (g : α → γ) (xs : List α) : fmM (fun x => some (some (g x))) xs = some (xs.map g) := by
  induction xs with
  | nil => rfl
  | cons x xs ih => rw [fmM, ih]; rfl
@[simp] theorem fmM_if (p : α → Prop) [DecidablePred p] (g : α → γ) (xs : List α) : fmM (fun x => if p x then some (some (g x)) else some none) xs = some ((xs.filter fun x => decide (p x)).map g) := by
  induction xs with
  | nil => rfl
  | cons x xs ih =>
    rw [fmM, ih]
    by_cases h : p x <;> simp [h]
@[simp] theorem fcM_pure (g : α → List γ) (xs : List α) : fcM (fun x => some (g x)) xs = some (xs.flatMap g) := by
  induction xs with
  | nil => rfl
  | cons x xs ih => rw [fcM, ih]; rfl
theorem fmM_congr {f g : α → Option (Option γ)} : ∀ {xs : List α}, (∀ x ∈ xs, f x = g x) → fmM f xs = fmM g xs
  | [], _ => rfl
  | x :: xs, h => by
    rw [fmM, fmM, h x List.mem_cons_self, fmM_congr fun y hy => h y (List.mem_cons_of_mem _ hy)]
theorem fcM_congr {f g : α → Option (List γ)} : ∀ {xs : List α}, (∀ x ∈ xs, f x = g x) → fcM f xs = fcM g xs
  | [], _ => rfl
  | x :: xs, h => by
    rw [fcM, fcM, h x List.mem_cons_self, fcM_congr fun y hy => h y (List.mem_cons_of_mem _ hy)]
end
@[simp] theorem len_list (ds : List D) : Mp.prim .len [.list ds] = some (.int ds.length) := rfl
@[simp] theorem len_tuple (ds : List D) : Mp.prim .len [.tuple ds] = some (.int ds.length) := rfl
@[simp] theorem len_dict (ds : List (D × D)) : Mp.prim .len [.dict ds] = some (.int ds.length) := rfl
@[simp] theorem list_list (ds : List D) : Mp.prim .list [.list ds] = some (.list ds) := rfl
@[simp] theorem list_tuple (ds : List D) : Mp.prim .list [.tuple ds] = some (.list ds) := rfl
@[simp] theorem list_dict (ds : List (D × D)) : Mp.prim .list [.dict ds] = some (.list (ds.map (·.1))) := rfl
@[simp] theorem tuple_list (ds : List D) : Mp.prim .tuple [.list ds] = some (.tuple ds) := rfl
@[simp] theorem tuple_tuple (ds : List D) : Mp.prim .tuple [.tuple ds] = some (.tuple ds) := rfl
@[simp] theorem dict_tuple (ds : List D) : Mp.prim .dict [.tuple ds] = (pairsOf ds).map fun ps => .dict (mkDict ps) := rfl
@[simp] theorem lt_int (i j : Int) : Mp.cmp .Lt (.int i) (.int j) = some (.bool (decide (i < j))) := rfl
@[simp] theorem le_int (i j : Int) : Mp.cmp .LtE (.int i) (.int j) = some (.bool (decide (i ≤ j))) := rfl
@[simp] theorem le_str (i j : Str) : Mp.cmp .LtE (.str i) (.str j) = some (.bool (!decide (j.cps.toList < i.cps.toList))) := rfl
@[simp] theorem gt_int (i j : Int) : Mp.cmp .Gt (.int i) (.int j) = some (.bool (decide (j < i))) := rfl
@[simp] theorem ge_int (i j : Int) : Mp.cmp .GtE (.int i) (.int j) = some (.bool (decide (j ≤ i))) := rfl
@[simp] theorem eq_int (i j : Int) : Mp.cmp .Eq (.int i) (.int j) = some (.bool (decide (i = j))) := rfl
@[simp] theorem ne_int (i j : Int) : Mp.cmp .NotEq (.int i) (.int j) = some (.bool (!decide (i = j))) := rfl
@[simp] theorem eq_str (i j : Str) : Mp.cmp .Eq (.str i) (.str j) = some (.bool (decide (i = j))) := rfl
@[simp] theorem ne_str (i j : Str) : Mp.cmp .NotEq (.str i) (.str j) = some (.bool (!decide (i = j))) := rfl
@[simp] theorem in_dict (x : Str) (kvs : List (D × D)) : Mp.cmp .In (.str x) (.dict kvs) = some (.bool (dget kvs x).isSome) := rfl
@[simp] theorem notin_dict (x : Str) (kvs : List (D × D)) : Mp.cmp .NotIn (.str x) (.dict kvs) = some (.bool (!(dget kvs x).isSome)) := rfl
@[simp] theorem add_int (i j : Int) : Mp.bin .Add (.int i) (.int j) = some (.int (i + j)) := rfl
@[simp] theorem sub_int (i j : Int) : Mp.bin .Sub (.int i) (.int j) = some (.int (i - j)) := rfl
@[simp] theorem add_list (x y : List D) : Mp.bin .Add (.list x) (.list y) = if x.length + y.length ≤ sizeLine then some (.list (x ++ y)) else none := rfl
@[simp] theorem add_tuple (x y : List D) : Mp.bin .Add (.tuple x) (.tuple y) = if x.length + y.length ≤ sizeLine then some (.tuple (x ++ y)) else none := rfl
@[simp] theorem idx_dict (kvs : List (D × D)) (k : Str) : Mp.idx (.dict kvs) (.str k) = dget kvs k := rfl
@[simp] theorem idx_list (ds : List D) (i : Int) : Mp.idx (.list ds) (.int i) = L2.atI ds i := rfl
@[simp] theorem idx_tuple (ds : List D) (i : Int) : Mp.idx (.tuple ds) (.int i) = L2.atI ds i := rfl
@[simp] theorem atI_0 (x : D) (ds : List D) : L2.atI (x :: ds) 0 = some x := by simp [L2.atI, L2.ixN]
@[simp] theorem atI_1 (x y : D) (ds : List D) : L2.atI (x :: y :: ds) 1 = some y := by
  unfold L2.atI L2.ixN
  rw [if_pos (by decide), if_pos (by simp; omega)]
  rfl
@[simp] theorem atI_2 (x y z : D) (ds : List D) : L2.atI (x :: y :: z :: ds) 2 = some z := by
  unfold L2.atI L2.ixN
  rw [if_pos (by decide), if_pos (by simp; omega)]
  rfl
def isS : D → Bool
  | .str _ => true
  | _ => false
def isT : D → Bool
  | .tuple _ => true
  | _ => false
def isLi : D → Bool
  | .list _ => true
  | _ => false
def isI : D → Bool
  | .int _ => true
  | .bool _ => true
  | _ => false
def isB : D → Bool
  | .bool _ => true
  | _ => false
def isDi : D → Bool
  | .dict _ => true
  | _ => false
@[simp] theorem isi_str (d : D) : Mp.prim (.isi "str") [d] = some (.bool (isS d)) := by cases d <;> rfl
@[simp] theorem isi_tuple (d : D) : Mp.prim (.isi "tuple") [d] = some (.bool (isT d)) := by cases d <;> rfl
@[simp] theorem isi_list (d : D) : Mp.prim (.isi "list") [d] = some (.bool (isLi d)) := by cases d <;> rfl
@[simp] theorem isi_int (d : D) : Mp.prim (.isi "int") [d] = some (.bool (isI d)) := by cases d <;> rfl
@[simp] theorem isi_bool (d : D) : Mp.prim (.isi "bool") [d] = some (.bool (isB d)) := by cases d <;> rfl
@[simp] theorem isi_dict (d : D) : Mp.prim (.isi "dict") [d] = some (.bool (isDi d)) := by cases d <;> rfl
@[simp] theorem isS_str (s : Str) : isS (.str s) = true := rfl
@[simp] theorem isT_tuple (s : List D) : isT (.tuple s) = true := rfl
@[simp] theorem isB_bool (b : Bool) : isB (.bool b) = true := rfl
@[simp] theorem all_bools {α : Type} (g : α → Bool) (l : List α) : Mp.prim .all [.list (l.map fun x => .bool (g x))] = some (.bool (l.all g)) := all_map g l
@[simp] theorem sum_ints {α : Type} (g : α → Int) (l : List α) : Mp.prim .sum [.list (l.map fun x => .int (g x))] = some (.int (l.map g).sum) := sum_map g l
@[simp] theorem sD_in (w : Str) (ss : List Str) : Mp.cmp .In (.str w) (.list (ss.map PyData.str)) = some (.bool (decide (w ∈ ss))) := in_sD w ss
@[simp] theorem fresh_lst {c : Ec} {es : List E} : freshE c (.lst es) = true := rfl
@[simp] theorem fresh_dic {c : Ec} {ks vs : List E} : freshE c (.dic ks vs) = true := rfl
@[simp] theorem fresh_comp {c : Ec} {a b d e f} : freshE c (.comp a b d e f) = true := rfl
@[simp] theorem fresh_comp2 {c : Ec} {a b d e f g h} : freshE c (.comp2 a b d e f g h) = true := rfl
@[simp] theorem fresh_dcomp {c : Ec} {a b d e f} : freshE c (.dcomp a b d e f) = true := rfl
@[simp] theorem fresh_dcomp2 {c : Ec} {a b d e f g h i} : freshE c (.dcomp2 a b d e f g h i) = true := rfl
@[simp] theorem fresh_call {c : Ec} {f : Nat} {as : List E} : freshE c (.call f as) = c.fr f := rfl
@[simp] theorem fresh_var {c : Ec} {i : Nat} : freshE c (.var i) = (c.mode i == .ow) := rfl
@[simp] theorem its_ks (ks : KS) : itsD (ksD ks) = some (ks.map kindD) := rfl
@[simp] theorem its_rows (rs : List Row) : itsD (rowsD rs) = some (rs.map rowD) := rfl
@[simp] theorem seq_kind (k : Mg.Kind) : seq? (kindD k) = some [.str k.1, rowsD k.2] := rfl
@[simp] theorem seq_row (k : Row) : seq? (rowD k) = some [.str k.1, .tuple (sD k.2)] := rfl
@[simp] theorem fmM_sD {γ : Type} (f : D → Option (Option γ)) (ss : List Str) : fmM f (sD ss) = fmM (fun s => f (.str s)) ss := by unfold sD; rw [fmM_map]
@[simp] theorem sD_length (ss : List Str) : (sD ss).length = ss.length := by simp [sD]
@[simp] theorem in_sD' (w : Str) (ss : List Str) : Mp.cmp .In (.str w) (.list (sD ss)) = some (.bool (decide (w ∈ ss))) := in_sD w ss
@[simp] theorem len_ks (ks : KS) : Mp.prim .len [ksD ks] = some (.int ks.length) := by simp [ksD]
@[simp] theorem len_rows (rs : List Row) : Mp.prim .len [rowsD rs] = some (.int rs.length) := by simp [rowsD]
@[simp] theorem sz0 : (0 ≤ sizeLine) = True := by simp [sizeLine]
@[simp] theorem szl0 : (0 < sizeLine) = True := by simp [sizeLine]
@[simp] theorem sz1 : (1 ≤ sizeLine) = True := by simp [sizeLine]
@[simp] theorem szl1 : (1 < sizeLine) = True := by simp [sizeLine]
@[simp] theorem sz2 : (2 ≤ sizeLine) = True := by simp [sizeLine]
@[simp] theorem szl2 : (2 < sizeLine) = True := by simp [sizeLine]
@[simp] theorem sz3 : (3 ≤ sizeLine) = True := by simp [sizeLine]
@[simp] theorem szl3 : (3 < sizeLine) = True := by simp [sizeLine]
@[simp] theorem sz4 : (4 ≤ sizeLine) = True := by simp [sizeLine]
@[simp] theorem szl4 : (4 < sizeLine) = True := by simp [sizeLine]
@[simp] theorem sz5 : (5 ≤ sizeLine) = True := by simp [sizeLine]
@[simp] theorem szl5 : (5 < sizeLine) = True := by simp [sizeLine]
@[simp] theorem sz6 : (6 ≤ sizeLine) = True := by simp [sizeLine]
@[simp] theorem szl6 : (6 < sizeLine) = True := by simp [sizeLine]
@[simp] theorem sz7 : (7 ≤ sizeLine) = True := by simp [sizeLine]
@[simp] theorem szl7 : (7 < sizeLine) = True := by simp [sizeLine]
@[simp] theorem sz8 : (8 ≤ sizeLine) = True := by simp [sizeLine]
@[simp] theorem szl8 : (8 < sizeLine) = True := by simp [sizeLine]
@[simp] theorem sz9 : (9 ≤ sizeLine) = True := by simp [sizeLine]
@[simp] theorem szl9 : (9 < sizeLine) = True := by simp [sizeLine]
@[simp] theorem sz10 : (10 ≤ sizeLine) = True := by simp [sizeLine]
@[simp] theorem szl10 : (10 < sizeLine) = True := by simp [sizeLine]
@[simp] theorem sz11 : (11 ≤ sizeLine) = True := by simp [sizeLine]
@[simp] theorem szl11 : (11 < sizeLine) = True := by simp [sizeLine]
@[simp] theorem sz12 : (12 ≤ sizeLine) = True := by simp [sizeLine]
@[simp] theorem szl12 : (12 < sizeLine) = True := by simp [sizeLine]
@[simp] theorem sz13 : (13 ≤ sizeLine) = True := by simp [sizeLine]
@[simp] theorem szl13 : (13 < sizeLine) = True := by simp [sizeLine]
@[simp] theorem sz14 : (14 ≤ sizeLine) = True := by simp [sizeLine]
@[simp] theorem szl14 : (14 < sizeLine) = True := by simp [sizeLine]
@[simp] theorem sz15 : (15 ≤ sizeLine) = True := by simp [sizeLine]
@[simp] theorem szl15 : (15 < sizeLine) = True := by simp [sizeLine]
@[simp] theorem sz16 : (16 ≤ sizeLine) = True := by simp [sizeLine]
@[simp] theorem szl16 : (16 < sizeLine) = True := by simp [sizeLine]
@[simp] theorem sz17 : (17 ≤ sizeLine) = True := by simp [sizeLine]
@[simp] theorem szl17 : (17 < sizeLine) = True := by simp [sizeLine]
@[simp] theorem sz18 : (18 ≤ sizeLine) = True := by simp [sizeLine]
@[simp] theorem szl18 : (18 < sizeLine) = True := by simp [sizeLine]
@[simp] theorem sz19 : (19 ≤ sizeLine) = True := by simp [sizeLine]
@[simp] theorem szl19 : (19 < sizeLine) = True := by simp [sizeLine]
@[simp] theorem sz20 : (20 ≤ sizeLine) = True := by simp [sizeLine]
@[simp] theorem szl20 : (20 < sizeLine) = True := by simp [sizeLine]
@[simp] theorem sz21 : (21 ≤ sizeLine) = True := by simp [sizeLine]
@[simp] theorem szl21 : (21 < sizeLine) = True := by simp [sizeLine]
@[simp] theorem sz22 : (22 ≤ sizeLine) = True := by simp [sizeLine]
@[simp] theorem szl22 : (22 < sizeLine) = True := by simp [sizeLine]
@[simp] theorem sz23 : (23 ≤ sizeLine) = True := by simp [sizeLine]
@[simp] theorem szl23 : (23 < sizeLine) = True := by simp [sizeLine]
@[simp] theorem sz24 : (24 ≤ sizeLine) = True := by simp [sizeLine]
@[simp] theorem szl24 : (24 < sizeLine) = True := by simp [sizeLine]
@[simp] theorem sz25 : (25 ≤ sizeLine) = True := by simp [sizeLine]
@[simp] theorem szl25 : (25 < sizeLine) = True := by simp [sizeLine]
theorem dl_of {a b : Nat} (h : b ≤ 1) : min a b ≤ DL := by unfold DL; omega
theorem cmp_eqs {ds : List D} (h : PyData.plainAll ds = true) : eqD (.list ds) (.list []) = some (decide (ds = [])) ∧ eqD (.tuple ds) (.tuple []) = some (decide (ds = [])) := by
  have e1 : PyData.plain (.list ds) = true := by simpa [PyData.plain] using h
  have e2 : PyData.plain (.tuple ds) = true := by simpa [PyData.plain] using h
  constructor
  · unfold eqD
    simp only
    rw [if_pos ⟨e1, by simp [PyData.plain, PyData.plainAll], dl_of (by simp [PyData.depth, PyData.depthAll])⟩]
    cases ds <;> simp [PyData.eqv, PyData.eqvAll]
  · unfold eqD
    simp only
    rw [if_pos ⟨e2, by simp [PyData.plain, PyData.plainAll], dl_of (by simp [PyData.depth, PyData.depthAll])⟩]
    cases ds <;> simp [PyData.eqv, PyData.eqvAll]
theorem eqD_bool (a b : Bool) : eqD (.bool a) (.bool b) = some (a == b) := by
  unfold eqD
  simp only
  rw [if_pos ⟨by simp [PyData.plain], by simp [PyData.plain], dl_of (by simp [PyData.depth])⟩]
  simp [PyData.eqv]
@[simp] theorem eq_bool (a b : Bool) : Mp.cmp .Eq (.bool a) (.bool b) = some (.bool (a == b)) := by
  have e : Mp.cmp .Eq (.bool a) (.bool b) = (eqD (.bool a) (.bool b)).map PyData.bool := by simp only [Mp.cmp]
  rw [e, eqD_bool]; rfl
@[simp] theorem ne_bool (a b : Bool) : Mp.cmp .NotEq (.bool a) (.bool b) = some (.bool (!(a == b))) := by
  have e : Mp.cmp .NotEq (.bool a) (.bool b) = (eqD (.bool a) (.bool b)).map fun q => .bool (!q) := by simp only [Mp.cmp]
  rw [e, eqD_bool]; rfl
@[simp] theorem ne_nil {ds : List D} (h : PyData.plainAll ds = true) : Mp.cmp .NotEq (.list ds) (.list []) = some (.bool (!decide (ds = []))) := by
  show (eqD _ _).map _ = _
  rw [(cmp_eqs h).1]; rfl
@[simp] theorem eq_nil {ds : List D} (h : PyData.plainAll ds = true) : Mp.cmp .Eq (.list ds) (.list []) = some (.bool (decide (ds = []))) := by
  show (eqD _ _).map _ = _
  rw [(cmp_eqs h).1]; rfl
@[simp] theorem ne_unit {ds : List D} (h : PyData.plainAll ds = true) : Mp.cmp .NotEq (.tuple ds) (.tuple []) = some (.bool (!decide (ds = []))) := by
  show (eqD _ _).map _ = _
  rw [(cmp_eqs h).2]; rfl
@[simp] theorem eq_unit' {ds : List D} (h : PyData.plainAll ds = true) : Mp.cmp .Eq (.tuple ds) (.tuple []) = some (.bool (decide (ds = []))) := by
  show (eqD _ _).map _ = _
  rw [(cmp_eqs h).2]; rfl
theorem plain_map {α : Type} {f : α → D} : ∀ {l : List α}, (∀ x ∈ l, (f x).plain = true) → PyData.plainAll (l.map f) = true
  | [], _ => by simp [PyData.plainAll]
  | x :: l, h => by
    rw [List.map_cons, PyData.plainAll, h x List.mem_cons_self, plain_map (l := l) fun y hy => h y (List.mem_cons_of_mem _ hy)]
    rfl
@[simp] theorem plain_nil : PyData.plainAll [] = true := by simp [PyData.plainAll]
@[simp] theorem plain_cons (d : D) (ds : List D) : PyData.plainAll (d :: ds) = (d.plain && PyData.plainAll ds) := by rw [PyData.plainAll]
@[simp] theorem plain_app (a b : List D) : PyData.plainAll (a ++ b) = (PyData.plainAll a && PyData.plainAll b) := by
  induction a with
  | nil => simp
  | cons x a ih => simp [ih, Bool.and_assoc]
@[simp] theorem plain_int (i : Int) : (PyData.int i).plain = true := by simp [PyData.plain]
@[simp] theorem plain_str (i : Str) : (PyData.str i).plain = true := by simp [PyData.plain]
@[simp] theorem plain_bool (i : Bool) : (PyData.bool i).plain = true := by simp [PyData.plain]
@[simp] theorem plain_none : (PyData.none).plain = true := by simp [PyData.plain]
@[simp] theorem plain_list (ds : List D) : (PyData.list ds).plain = PyData.plainAll ds := by simp [PyData.plain]
@[simp] theorem plain_tuple (ds : List D) : (PyData.tuple ds).plain = PyData.plainAll ds := by simp [PyData.plain]
@[simp] theorem plain_dict (ds : List (D × D)) : (PyData.dict ds).plain = false := by simp [PyData.plain]
@[simp] theorem plain_ints {α : Type} (f : α → Int) (l : List α) : PyData.plainAll (l.map fun x => PyData.int (f x)) = true := plain_map fun _ _ => by simp
@[simp] theorem plain_strs {α : Type} (f : α → Str) (l : List α) : PyData.plainAll (l.map fun x => PyData.str (f x)) = true := plain_map fun _ _ => by simp
@[simp] theorem plain_sD (l : List Str) : PyData.plainAll (sD l) = true := plain_map fun _ _ => by simp
@[simp] theorem plain_row (r : Row) : (rowD r).plain = true := by simp [rowD]
@[simp] theorem plain_rows' (rs : List Row) : PyData.plainAll (rs.map rowD) = true := plain_map fun _ _ => by simp
@[simp] theorem plain_rows (rs : List Row) : (rowsD rs).plain = true := by simp [rowsD]
@[simp] theorem plain_kind (r : Mg.Kind) : (kindD r).plain = true := by simp [kindD]
@[simp] theorem plain_ks' (rs : KS) : PyData.plainAll (rs.map kindD) = true := plain_map fun _ _ => by simp
@[simp] theorem plain_ks (rs : KS) : (ksD rs).plain = true := by simp [ksD]
@[simp] theorem rev_list (ds : List D) : Mp.revD (.list ds) = some (.list ds.reverse) := rfl
@[simp] theorem rev_tuple (ds : List D) : Mp.revD (.tuple ds) = some (.tuple ds.reverse) := rfl
@[simp] theorem mul_list (ds : List D) (k : Int) : Mp.bin .Mult (.list ds) (.int k) = if -1000 ≤ k ∧ k ≤ 100000 ∧ ds.length * k.toNat ≤ 1000000 then some (.list (List.replicate k.toNat ds).flatten) else none := rfl
@[simp] theorem mul_tuple (ds : List D) (k : Int) : Mp.bin .Mult (.tuple ds) (.int k) = if 0 ≤ k ∧ k ≤ 1000 ∧ ds.length ≤ 1000 then some (.tuple (List.replicate k.toNat ds).flatten) else none := rfl
@[simp] theorem int_bool (b : Bool) : Mp.prim .int [.bool b] = some (.int (if b then 1 else 0)) := rfl
@[simp] theorem int_int (i : Int) : Mp.prim .int [.int i] = some (.int i) := rfl
@[simp] theorem fz1 {P : List FD} {wf n : Nat} {md : List Md} : (ecOf P wf n md).fm = fmOf P := rfl
end Mh

/-! least sizes: the walk -/
namespace Mh
open PySem L2 Mp Mg

/-- the program's defs about kinds -/
structure PK (P : List FD) : Prop where
  h1 : P[1]? = some Mf.fd_is_name
  h2 : P[2]? = some Mf.fd_are_pairs
  h3 : P[3]? = some Mf.fd_least_sizes
  h4 : P[4]? = some Mf.fd_are_parts
  h5 : P[5]? = some Mf.fd_is_kinds
theorem parts_true {P : List FD} (pk : PK P) {wf n : Nat} {ps ss : List Str} (h3 : ps.length ≤ 3) (hs : ∀ p ∈ ps, p ∈ ss) :
    fnC (run P wf (n + 1)) 4 [.tuple (sD ps), .list (sD ss)] = some (.bool true) := by
  refine run_fn pk.h4 rfl ?_
  simp only [Mf.fd_are_parts, List.map, List.length, List.replicate]
  refine B_ret ?_
  have h5 : ps.length ≤ sizeLine := by simp [sizeLine]; omega
  simp [sD, h5]
  exact ⟨by omega, hs⟩
def keys (al : List (Str × Int)) : List Str := al.map (·.1)
def sget (al : List (Str × Int)) (k : Str) : Int := match al with
  | [] => 0
  | (x, u) :: r => if x = k then u else sget r k
theorem dget_nums (k : Str) : ∀ al : List (Str × Int), Mp.dget (numsD al) k = if k ∈ keys al then some (.int (sget al k)) else none
  | [] => rfl
  | (x, u) :: r => by
    have e : numsD ((x, u) :: r) = (.str x, .int u) :: numsD r := rfl
    rw [e, Mp.dget, sget, dget_nums k r]
    by_cases h : x = k
    · simp [h, keys]
    · have h' : (k ∈ keys ((x, u) :: r)) = (k ∈ keys r) := by simp [keys, Ne.symm h]
      simp only [h, if_false, h']
theorem dget_isSome (k : Str) (al : List (Str × Int)) : (Mp.dget (numsD al) k).isSome = decide (k ∈ keys al) := by
  rw [dget_nums]
  by_cases h : k ∈ keys al <;> simp [h]
theorem fmM_dget {al : List (Str × Int)} {ps : List Str} (h : ∀ p ∈ ps, p ∈ keys al) : fmM (fun p => (Mp.dget (numsD al) p).map some) ps = some (ps.map fun p => .int (sget al p)) := by
  rw [fmM_congr (g := fun p => some (some (.int (sget al p)))) fun p hp => by rw [dget_nums, if_pos (h p hp)]; rfl]
  exact fmM_pure _ _
/-- what a row's parts come to -/
def rowVal (al : List (Str × Int)) (r : Row) : Int := 1 + (r.2.map (sget al)).sum
def rowsIn (al : List (Str × Int)) (k : Mg.Kind) : List Row := k.2.filter fun r => r.2.all fun p => decide (p ∈ keys al)
def stepK (al : List (Str × Int)) (k : Mg.Kind) : List (Str × Int) :=
  if rowsIn al k = [] then al else sput al k.1 (minI ((rowsIn al k).map (rowVal al)))
def turnK (ks : KS) (al : List (Str × Int)) : List (Str × Int) := ks.foldl stepK al
def iterK (ks : KS) : Nat → List (Str × Int)
  | 0 => [("mark", 1)]
  | n + 1 => turnK ks (iterK ks n)
@[simp] theorem min_ints {α : Type} (f : α → Int) (l : List α) : Mp.prim .min [.list (l.map fun x => .int (f x))] = if l = [] then none else some (.int (minI (l.map f))) := by
  show (Mp.intsOf _).bind _ = _
  rw [ints_map]
  cases l <;> simp
theorem nodup_len {α : Type} [DecidableEq α] : ∀ {xs ys : List α}, xs.Nodup → (∀ x ∈ xs, x ∈ ys) → xs.length ≤ ys.length
  | [], _, _, _ => by simp
  | x :: xs, ys, h, hs => by
    have hx := hs x List.mem_cons_self
    obtain ⟨h1, h2⟩ := List.nodup_cons.mp h
    have := nodup_len (xs := xs) (ys := ys.erase x) h2 fun y hy => (List.mem_erase_of_ne (by rintro rfl; exact h1 hy)).mpr (hs y (List.mem_cons_of_mem _ hy))
    rw [List.length_erase_of_mem hx] at this
    have := List.length_pos_of_mem hx
    simp only [List.length_cons]
    omega
/-- the names found so far are names of kinds, each once -/
structure Gd (ks : KS) (al : List (Str × Int)) : Prop where
  nd : (keys al).Nodup
  sub : ∀ k ∈ keys al, k ∈ ("mark" : Str) :: kindNames ks
theorem Gd.len {ks : KS} {al : List (Str × Int)} (h : Gd ks al) : al.length ≤ ks.length + 1 := by
  have := nodup_len h.nd h.sub
  simpa [keys, kindNames] using this
theorem Gd.put {ks : KS} {al : List (Str × Int)} (h : Gd ks al) {k : Str} (hk : k ∈ kindNames ks) (v : Int) : Gd ks (sput al k v) := by
  have e := sput_keys k v al
  refine ⟨?_, ?_⟩
  · unfold keys
    rw [e]
    split
    · exact h.nd
    · rename_i hn
      rw [List.nodup_append]
      refine ⟨h.nd, by simp, fun a ha b hb => ?_⟩
      simp at hb
      subst hb
      rintro rfl
      exact hn ha
  · unfold keys
    rw [e]
    split
    · exact h.sub
    · intro x hx
      rcases List.mem_append.mp hx with z | z
      · exact h.sub x z
      · simp at z
        subst z
        exact List.mem_cons_of_mem _ hk
theorem Gd.step {ks : KS} {al : List (Str × Int)} (h : Gd ks al) {k : Mg.Kind} (hk : k ∈ ks) : Gd ks (stepK al k) := by
  unfold stepK
  split
  · exact h
  · exact h.put (List.mem_map.mpr ⟨k, hk, rfl⟩) _
theorem Gd.fold {ks : KS} : ∀ {pr : List Mg.Kind} {al : List (Str × Int)}, Gd ks al → (∀ k ∈ pr, k ∈ ks) → Gd ks (pr.foldl stepK al)
  | [], al, h, _ => h
  | k :: pr, al, h, hs => Gd.fold (pr := pr) (h.step (hs k List.mem_cons_self)) fun x hx => hs x (List.mem_cons_of_mem _ hx)
theorem Gd.iter (ks : KS) : ∀ n, Gd ks (iterK ks n)
  | 0 => ⟨by simp [iterK, keys], by simp [iterK, keys]⟩
  | n + 1 => Gd.fold (Gd.iter ks n) fun _ h => h
theorem sizes_walk {P : List FD} (pk : PK P) {wf n : Nat} {ks : KS} (hl : ks.length ≤ 5) (hr : ∀ k ∈ ks, k.2.length ≤ 4 ∧ ∀ r ∈ k.2, r.2.length ≤ 3) :
    fnC (run P wf (n + 1)) 3 [ksD ks] = some (.dict (numsD (iterK ks ks.length))) := by
  refine run_fn pk.h3 rfl ?_
  simp only [Mf.fd_least_sizes, List.map, List.length, List.replicate]
  refine B_own ?_
  simp [mkDict, Mp.dput]
  refine B_for ks kindD (fun pre r => r = [some (ksD ks), some (.dict (numsD (iterK ks pre.length))), none, none, none, none, none, none, none]) (by simp [ksD]) (by simp) (by simp [iterK, numsD]) ?_ ?_
  · rintro pre k post r hks rfl
    simp
    refine B_for ks kindD (fun pr r => r = [some (ksD ks), some (.dict (numsD (pr.foldl stepK (iterK ks pre.length)))), some (kindD k), none, none, none, none, none, none]) (by simp [ksD]) (by simp) (by simp) ?_ ?_
    · rintro pr k' po r hks' rfl
      simp [kindD]
      have gd : Gd ks (pr.foldl stepK (iterK ks pre.length)) := (Gd.iter ks _).fold fun x hx => by rw [hks']; simp [hx]
      generalize pr.foldl stepK (iterK ks pre.length) = al at gd
      have gl := gd.len
      have hk := hr k' (by rw [hks']; simp)
      have l4 : k'.2.length ≤ sizeLine := by simp [sizeLine]; omega
      refine B_set ?_
      simp
      rw [fmM_congr (g := fun x : Row => if (x.2.all fun p => decide (p ∈ keys al)) = true then some (some (.int (rowVal al x))) else some none)]
      · have l5 : (rowsIn al k').length ≤ sizeLine := Nat.le_trans (List.length_filter_le _ _) l4
        have e : (List.filter (fun x : Row => x.2.all fun p => decide (p ∈ keys al)) k'.2) = rowsIn al k' := rfl
        simp [l4, -List.all_eq_true]
        rw [e]
        refine ⟨l5, B_ite ?_⟩
        simp
        by_cases hn : rowsIn al k' = []
        · simp [hn]
          refine B_nil ?_
          simp [stepK, hn]
        · simp [hn]
          refine B_put ?_
          simp [hn, putD, numsD_put]
          refine ⟨by simp [numsD, sizeLine]; omega, B_nil ?_⟩
          simp [stepK, hn]
      · intro x hx
        have h3 := hk.2 x hx
        have l3 : x.2.length ≤ sizeLine := by simp [sizeLine]; omega
        simp [l3, dget_isSome]
        split
        · rename_i hp
          rw [fmM_dget hp]
          simp [l3, rowVal]
        · rfl
    · rintro r rfl
      refine B_nil ?_
      simp [iterK, turnK]
  · rintro r rfl
    refine B_reti ?_
    simp [ev, evs, varV, varE, plainV, asT, asI, View.o, binE, idxE, slcE, primE, osV, resAll, Op.res, notE, andE, orE, listE, esV, asV, Mp.callWith, refsOf, arAll, Ar.res, outs, Mp.get, Mp.put, Mp.wipe, Mp.assign, Mp.assign.go, Mp.seq?, Ec.mode]
    trace_state
end Mh

/-! least sizes: the plain law -/
namespace Mh
open PySem L2 Mp Mg

mutual
/-- there is a tree of a kind, of a size -/
inductive HasT (ks : KS) : Str → Nat → Prop
  | mark : HasT ks "mark" 1
  | mk {k : Mg.Kind} {r : Row} {s : Nat} : k ∈ ks → r ∈ k.2 → HasTs ks r.2 s → HasT ks k.1 (1 + s)
inductive HasTs (ks : KS) : List Str → Nat → Prop
  | nil : HasTs ks [] 0
  | cons {p : Str} {ps : List Str} {a b : Nat} : HasT ks p a → HasTs ks ps b → HasTs ks (p :: ps) (a + b)
end
theorem exists_least {P : Nat → Prop} (h : ∃ n, P n) : ∃ n, P n ∧ ∀ m, P m → n ≤ m := by
  obtain ⟨n, hn⟩ := h
  induction n using Nat.strongRecOn with
  | _ n ih =>
    by_cases h : ∃ m, m < n ∧ P m
    · obtain ⟨m, h1, h2⟩ := h
      exact ih m h1 h2
    · exact ⟨n, hn, fun m hm => Nat.le_of_not_lt fun hl => h ⟨m, hl, hm⟩⟩
open Classical in
/-- the size of a kind's least tree -/
noncomputable def Lz (ks : KS) (k : Str) : Nat := if h : ∃ s, HasT ks k s then choose (exists_least h) else 0
theorem Lz_has {ks : KS} {k : Str} {s : Nat} (h : HasT ks k s) : HasT ks k (Lz ks k) ∧ Lz ks k ≤ s := by
  have hx : ∃ s, HasT ks k s := ⟨s, h⟩
  unfold Lz
  rw [dif_pos hx]
  have := Classical.choose_spec (exists_least hx)
  exact ⟨this.1, this.2 s h⟩
theorem HasT.pos {ks : KS} {k : Str} {s : Nat} (h : HasT ks k s) : 1 ≤ s := by
  cases h <;> omega
theorem HasTs.least {ks : KS} : ∀ {ps : List Str} {s : Nat}, HasTs ks ps s → (ps.map (Lz ks)).sum ≤ s
  | [], _, h => by simp
  | p :: ps, _, .cons h1 h2 => by
    have := HasTs.least h2
    have := (Lz_has h1).2
    simp only [List.map_cons, List.sum_cons]
    omega
theorem HasTs.of {ks : KS} : ∀ {ps : List Str}, (∀ p ∈ ps, ∃ s, HasT ks p s) → HasTs ks ps (ps.map (Lz ks)).sum
  | [], _ => .nil
  | p :: ps, h => by
    obtain ⟨s, hs⟩ := h p List.mem_cons_self
    exact .cons (Lz_has hs).1 (HasTs.of fun q hq => h q (List.mem_cons_of_mem _ hq))
theorem HasTs.all {ks : KS} : ∀ {ps : List Str} {s : Nat}, HasTs ks ps s → ∀ p ∈ ps, ∃ a, HasT ks p a
  | _ :: _, _, .cons h1 h2, p, hp => by
    rcases List.mem_cons.mp hp with rfl | hp
    · exact ⟨_, h1⟩
    · exact HasTs.all h2 p hp
section
variable {ks : KS}
theorem _root_.Mg.KOk.no_mark (ok : KOk ks) : ("mark" : Str) ∉ kindNames ks ++ makers ks := fun h => by
  obtain ⟨_, _, _, _, _, hn⟩ := ok.nm _ h
  exact hn (by decide +kernel)
theorem _root_.Mg.KOk.uniq (ok : KOk ks) {k k' : Mg.Kind} (hk : k ∈ ks) (hk' : k' ∈ ks) (e : k.1 = k'.1) : k = k' := by
  have nd : (kindNames ks).Nodup := (List.nodup_append.mp ok.nd).1
  unfold kindNames at nd
  clear ok
  induction ks with
  | nil => cases hk
  | cons x xs ih =>
    rw [List.map_cons, List.nodup_cons] at nd
    rcases List.mem_cons.mp hk with rfl | h1 <;> rcases List.mem_cons.mp hk' with rfl | h2
    · rfl
    · exact absurd (List.mem_map.mpr ⟨k', h2, e.symm⟩) nd.1
    · exact absurd (List.mem_map.mpr ⟨k, h1, e⟩) nd.1
    · exact ih h1 h2 nd.2
theorem _root_.Mg.KOk.has (ok : KOk ks) {p : Str} (hp : p = "mark" ∨ p ∈ kindNames ks) : ∃ s, HasT ks p s := by
  obtain ⟨rk, h1, h2⟩ := ok.rank
  have go : ∀ n p, p ∈ kindNames ks → rk p < n → ∃ s, HasT ks p s := fun n => by
    induction n with
    | zero => intro p _ h; omega
    | succ n ih =>
      intro p hp hl
      obtain ⟨k, hk, rfl⟩ := List.mem_map.mp hp
      obtain ⟨r, hr, h3⟩ := h2 k hk
      refine ⟨_, .mk hk hr (HasTs.of fun q hq => ?_)⟩
      rcases h3 q hq with rfl | ⟨h4, h5⟩
      · exact ⟨_, .mark⟩
      · exact ih q h4 (by omega)
  rcases hp with rfl | hp
  · exact ⟨_, .mark⟩
  · exact go (rk p + 1) p hp (Nat.lt_succ_self _)
theorem Lz_pos (ok : KOk ks) {p : Str} (hp : p = "mark" ∨ p ∈ kindNames ks) : 1 ≤ Lz ks p := by
  obtain ⟨s, h⟩ := ok.has hp
  exact (Lz_has h).1.pos
theorem Lz_mark : Lz ks "mark" = 1 := by
  have := Lz_has (ks := ks) .mark
  have := this.1.pos
  omega
theorem Lz_le (ok : KOk ks) {k : Mg.Kind} {r : Row} (hk : k ∈ ks) (hr : r ∈ k.2) : Lz ks k.1 ≤ 1 + (r.2.map (Lz ks)).sum :=
  (Lz_has (.mk hk hr (HasTs.of fun p hp => ok.has ((ok.parts k hk r hr).2 p hp)))).2
theorem Lz_eq (ok : KOk ks) {k : Mg.Kind} (hk : k ∈ ks) : ∃ r ∈ k.2, Lz ks k.1 = 1 + (r.2.map (Lz ks)).sum := by
  obtain ⟨s, hs⟩ := ok.has (.inr (List.mem_map.mpr ⟨k, hk, rfl⟩))
  have h := (Lz_has hs).1
  generalize he : Lz ks k.1 = l at h
  generalize hn : k.1 = x at h
  cases h with
  | mark => exact absurd (List.mem_append_left _ (List.mem_map.mpr ⟨k, hk, hn⟩)) ok.no_mark
  | @mk k' r s h1 h2 h3 =>
    have : k = k' := ok.uniq hk h1 hn
    subst this
    refine ⟨r, h2, ?_⟩
    have a := h3.least
    have b := Lz_le ok hk h2
    omega
/-- how many kinds have lesser trees -/
noncomputable def rkL (ks : KS) (p : Str) : Nat := ((kindNames ks).filter fun q => decide (Lz ks q < Lz ks p)).length
theorem rkL_lt {p q : Str} (hq : q ∈ kindNames ks) (h : Lz ks q < Lz ks p) : rkL ks q < rkL ks p := by
  unfold rkL
  have key : ∀ l : List Str, (∀ x ∈ l, Lz ks x < Lz ks q → Lz ks x < Lz ks p) → (l.filter fun x => decide (Lz ks x < Lz ks q)).length ≤ (l.filter fun x => decide (Lz ks x < Lz ks p)).length ∧ (q ∈ l → (l.filter fun x => decide (Lz ks x < Lz ks q)).length < (l.filter fun x => decide (Lz ks x < Lz ks p)).length) := fun l => by
    induction l with
    | nil => intro _; simp
    | cons x xs ih =>
      intro hx
      obtain ⟨i1, i2⟩ := ih fun y hy => hx y (List.mem_cons_of_mem _ hy)
      by_cases h1 : Lz ks x < Lz ks q
      · have h2 := hx x List.mem_cons_self h1
        simp only [List.filter_cons, h1, h2, decide_true, if_true, List.length_cons]
        refine ⟨by omega, fun hm => ?_⟩
        rcases List.mem_cons.mp hm with rfl | hm
        · omega
        · have := i2 hm; omega
      · by_cases h2 : Lz ks x < Lz ks p
        · simp only [List.filter_cons, h1, h2, decide_true, decide_false, if_true, List.length_cons, Bool.false_eq_true, if_false]
          exact ⟨by omega, fun _ => by omega⟩
        · simp only [List.filter_cons, h1, h2, decide_false, Bool.false_eq_true, if_false]
          refine ⟨i1, fun hm => ?_⟩
          rcases List.mem_cons.mp hm with rfl | hm
          · exact absurd h h2
          · exact i2 hm
  exact (key _ fun x _ hx => by omega).2 hq
theorem rkL_n {p : Str} (hp : p ∈ kindNames ks) : rkL ks p < ks.length := by
  have key : ∀ l : List Str, p ∈ l → (l.filter fun q => decide (Lz ks q < Lz ks p)).length < l.length := fun l => by
    induction l with
    | nil => intro h; cases h
    | cons x xs ih =>
      intro hm
      rw [List.filter_cons]
      rcases List.mem_cons.mp hm with rfl | hm
      · simp only [Nat.lt_irrefl, decide_false, Bool.false_eq_true, if_false, List.length_cons]
        have := List.length_filter_le (fun q => decide (Lz ks q < Lz ks p)) xs
        omega
      · have := ih hm
        split <;> simp only [List.length_cons] <;> omega
  have := key _ hp
  unfold rkL
  simpa [kindNames] using this
end
theorem minI_fold : ∀ (xs : List Int) (x : Int), xs.foldl (fun a b => if b < a then b else a) x ≤ x ∧ (∀ y ∈ xs, xs.foldl (fun a b => if b < a then b else a) x ≤ y) ∧ (xs.foldl (fun a b => if b < a then b else a) x = x ∨ xs.foldl (fun a b => if b < a then b else a) x ∈ xs)
  | [], x => ⟨Int.le_refl _, by simp, .inl rfl⟩
  | y :: xs, x => by
    obtain ⟨h1, h2, h3⟩ := minI_fold xs (if y < x then y else x)
    rw [List.foldl_cons]
    have hx : (if y < x then y else x) ≤ x ∧ (if y < x then y else x) ≤ y := by split <;> omega
    refine ⟨by omega, fun z hz => ?_, ?_⟩
    · rcases List.mem_cons.mp hz with rfl | hz
      · omega
      · exact h2 z hz
    · rcases h3 with h3 | h3
      · rw [h3]
        split
        · exact .inr List.mem_cons_self
        · exact .inl rfl
      · exact .inr (List.mem_cons_of_mem _ h3)
theorem minI_le {xs : List Int} {y : Int} (h : y ∈ xs) : minI xs ≤ y := by
  cases xs with
  | nil => cases h
  | cons x xs =>
    obtain ⟨h1, h2, _⟩ := minI_fold xs x
    rcases List.mem_cons.mp h with rfl | h
    · exact h1
    · exact h2 y h
theorem minI_mem {xs : List Int} (h : xs ≠ []) : minI xs ∈ xs := by
  cases xs with
  | nil => exact absurd rfl h
  | cons x xs =>
    obtain ⟨_, _, h3⟩ := minI_fold xs x
    rcases h3 with h3 | h3
    · show List.foldl _ _ _ ∈ _
      rw [h3]; exact List.mem_cons_self
    · exact List.mem_cons_of_mem _ h3
theorem sget_put (k : Str) (v : Int) (q : Str) : ∀ al, sget (sput al k v) q = if q = k then v else sget al q
  | [] => by simp [sput, sget, eq_comm (a := k)]
  | (x, u) :: r => by
    have ih := sget_put k v q r
    rw [sput]
    by_cases hx : x = k
    · subst hx
      rw [if_pos rfl, sget, sget]
      by_cases hq : x = q
      · rw [if_pos hq, if_pos hq.symm]
      · rw [if_neg hq, if_neg (Ne.symm hq), if_neg hq]
    · rw [if_neg hx, sget, sget]
      by_cases hq : x = q
      · subst hq
        rw [if_pos rfl, if_neg hx, if_pos rfl]
      · rw [if_neg hq, if_neg hq, ih]
theorem keys_put (k : Str) (v : Int) (q : Str) (al : List (Str × Int)) : q ∈ keys (sput al k v) ↔ q = k ∨ q ∈ keys al := by
  unfold keys
  rw [sput_keys]
  split
  · rename_i h
    exact ⟨.inr, fun z => z.elim (fun e => e ▸ h) id⟩
  · simp [or_comm]
section
variable {ks : KS}
/-- no number is too small, those of the least kinds are right -/
structure Rt (ks : KS) (c : Nat) (al : List (Str × Int)) : Prop where
  mrk : ("mark" : Str) ∈ keys al ∧ sget al "mark" = 1
  low : ∀ p ∈ keys al, (Lz ks p : Int) ≤ sget al p
  done : ∀ p ∈ kindNames ks, rkL ks p < c → p ∈ keys al ∧ sget al p = Lz ks p
theorem sum_low {f g : Str → Int} : ∀ {ps : List Str}, (∀ p ∈ ps, f p ≤ g p) → (ps.map f).sum ≤ (ps.map g).sum
  | [], _ => by simp
  | p :: ps, h => by
    have := sum_low (f := f) (g := g) fun q hq => h q (List.mem_cons_of_mem p hq)
    have := h p List.mem_cons_self
    simp only [List.map_cons, List.sum_cons]
    omega
theorem sum_same {f g : Str → Int} : ∀ {ps : List Str}, (∀ p ∈ ps, f p = g p) → (ps.map f).sum = (ps.map g).sum
  | [], _ => by simp
  | p :: ps, h => by
    have := sum_same (f := f) (g := g) fun q hq => h q (List.mem_cons_of_mem p hq)
    have := h p List.mem_cons_self
    simp only [List.map_cons, List.sum_cons]
    omega
theorem sum_cast (f : Str → Nat) : ∀ ps : List Str, (((ps.map f).sum : Nat) : Int) = (ps.map fun p => (f p : Int)).sum
  | [] => rfl
  | p :: ps => by
    have := sum_cast f ps
    simp only [List.map_cons, List.sum_cons]
    omega
theorem part_less (ok : KOk ks) {k : Mg.Kind} {r : Row} (hk : k ∈ ks) (hr : r ∈ k.2) (e : Lz ks k.1 = 1 + (r.2.map (Lz ks)).sum) {p : Str} (hp : p ∈ r.2) : Lz ks p < Lz ks k.1 := by
  have key : ∀ l : List Str, p ∈ l → Lz ks p ≤ (l.map (Lz ks)).sum := fun l => by
    induction l with
    | nil => intro h; cases h
    | cons x xs ih =>
      intro hm
      simp only [List.map_cons, List.sum_cons]
      rcases List.mem_cons.mp hm with rfl | hm
      · omega
      · have := ih hm; omega
  have := key _ hp
  omega
theorem Rt.step (ok : KOk ks) {c : Nat} {al : List (Str × Int)} (h : Rt ks c al) {k : Mg.Kind} (hk : k ∈ ks) :
    Rt ks c (stepK al k) ∧ (∀ q, q ≠ k.1 → (q ∈ keys (stepK al k) ↔ q ∈ keys al) ∧ sget (stepK al k) q = sget al q) ∧ (rkL ks k.1 ≤ c → k.1 ∈ keys (stepK al k) ∧ sget (stepK al k) k.1 = Lz ks k.1) := by
  have hkn : k.1 ∈ kindNames ks := List.mem_map.mpr ⟨k, hk, rfl⟩
  have nm : k.1 ≠ "mark" := fun e => ok.no_mark (List.mem_append_left _ (e ▸ hkn))
  -- no row comes to less
  have lowr : ∀ x ∈ (rowsIn al k).map (rowVal al), (Lz ks k.1 : Int) ≤ x := fun x hx => by
    obtain ⟨r, hr, rfl⟩ := List.mem_map.mp hx
    obtain ⟨h1, h2⟩ := List.mem_filter.mp hr
    have h3 : ∀ p ∈ r.2, p ∈ keys al := by simpa using h2
    have a := Lz_le ok hk h1
    have b := sum_low (f := fun p => (Lz ks p : Int)) (g := sget al) fun p hp => h.low p (h3 p hp)
    rw [← sum_cast] at b
    unfold rowVal
    omega
  -- the best row
  obtain ⟨r, hr, er⟩ := Lz_eq ok hk
  have best : rkL ks k.1 ≤ c → r ∈ rowsIn al k ∧ rowVal al r = Lz ks k.1 := fun hc => by
    have hp : ∀ p ∈ r.2, p ∈ keys al ∧ sget al p = Lz ks p := fun p hp => by
      rcases (ok.parts k hk r hr).2 p hp with rfl | hpn
      · rw [Lz_mark]; exact h.mrk
      · have := rkL_lt hpn (part_less ok hk hr er hp)
        exact h.done p hpn (by omega)
    refine ⟨List.mem_filter.mpr ⟨hr, by simpa using fun p q => (hp p q).1⟩, ?_⟩
    unfold rowVal
    rw [sum_same (g := fun p => (Lz ks p : Int)) fun p q => (hp p q).2, ← sum_cast]
    omega
  unfold stepK
  by_cases hn : rowsIn al k = []
  · rw [if_pos hn]
    refine ⟨h, fun q hq => ⟨Iff.rfl, rfl⟩, fun hc => ?_⟩
    have := (best hc).1
    rw [hn] at this
    cases this
  · rw [if_neg hn]
    have hm : minI ((rowsIn al k).map (rowVal al)) ∈ (rowsIn al k).map (rowVal al) := minI_mem (by simpa using hn)
    have hlow := lowr _ hm
    have hbest : rkL ks k.1 ≤ c → minI ((rowsIn al k).map (rowVal al)) = Lz ks k.1 := fun hc => by
      obtain ⟨b1, b2⟩ := best hc
      have := minI_le (List.mem_map.mpr ⟨r, b1, rfl⟩ : rowVal al r ∈ (rowsIn al k).map (rowVal al))
      omega
    generalize minI ((rowsIn al k).map (rowVal al)) = m at hlow hbest
    refine ⟨⟨⟨(keys_put _ _ _ _).mpr (.inr h.mrk.1), by rw [sget_put, if_neg (Ne.symm nm)]; exact h.mrk.2⟩, fun p hp => ?_, fun p hp hc => ?_⟩, fun q hq => ⟨by rw [keys_put]; simp [hq], by rw [sget_put, if_neg hq]⟩, fun hc => ⟨(keys_put _ _ _ _).mpr (.inl rfl), by rw [sget_put, if_pos rfl]; exact hbest hc⟩⟩
    · rw [sget_put]
      split
      · rename_i e; rw [e]; exact hlow
      · rename_i e
        exact h.low p (((keys_put _ _ _ _).mp hp).resolve_left e)
    · rw [sget_put, keys_put]
      split
      · rename_i e
        subst e
        exact ⟨.inl rfl, hbest (by omega)⟩
      · obtain ⟨a, b⟩ := h.done p hp hc
        exact ⟨.inr a, b⟩
theorem Rt.fold (ok : KOk ks) {c : Nat} : ∀ {pr : List Mg.Kind} {al : List (Str × Int)}, Rt ks c al → (∀ k ∈ pr, k ∈ ks) → Rt ks c (pr.foldl stepK al) ∧ (∀ q, q ∉ kindNames pr → (q ∈ keys (pr.foldl stepK al) ↔ q ∈ keys al) ∧ sget (pr.foldl stepK al) q = sget al q) ∧
    (∀ q ∈ kindNames pr, rkL ks q ≤ c → q ∈ keys (pr.foldl stepK al) ∧ sget (pr.foldl stepK al) q = Lz ks q)
  | [], al, h, _ => ⟨h, fun _ _ => ⟨Iff.rfl, rfl⟩, fun _ hq => by cases hq⟩
  | k :: pr, al, h, hs => by
    obtain ⟨a1, a2, a3⟩ := h.step ok (hs k List.mem_cons_self)
    obtain ⟨b1, b2, b3⟩ := Rt.fold ok (pr := pr) a1 fun x hx => hs x (List.mem_cons_of_mem _ hx)
    refine ⟨b1, fun q hq => ?_, fun q hq hc => ?_⟩
    · simp only [kindNames, List.map_cons, List.mem_cons, not_or] at hq
      obtain ⟨c1, c2⟩ := b2 q hq.2
      obtain ⟨d1, d2⟩ := a2 q hq.1
      exact ⟨c1.trans d1, c2.trans d2⟩
    · by_cases hp : q ∈ kindNames pr
      · exact b3 q hp hc
      · obtain ⟨c1, c2⟩ := b2 q hp
        have : q = k.1 := by
          simp only [kindNames, List.map_cons, List.mem_cons] at hq
          exact hq.resolve_right hp
        subst this
        obtain ⟨d1, d2⟩ := a3 hc
        exact ⟨c1.mpr d1, c2.trans d2⟩
theorem Rt.iter (ok : KOk ks) : ∀ n, Rt ks n (iterK ks n)
  | 0 => ⟨by simp [iterK, keys, sget], fun p hp => by simp [iterK, keys] at hp; subst hp; simp [iterK, sget, Lz_mark], fun p _ h => by omega⟩
  | n + 1 => by
    obtain ⟨a1, a2, a3⟩ := (Rt.iter ok n).fold ok (pr := ks) fun _ h => h
    exact ⟨a1.mrk, a1.low, fun p hp hc => a3 p hp (by omega)⟩
/-- the program's least sizes are the least sizes -/
theorem iter_is (ok : KOk ks) {n : Nat} (hn : ks.length ≤ n) {p : Str} (hp : p = "mark" ∨ p ∈ kindNames ks) : p ∈ keys (iterK ks n) ∧ sget (iterK ks n) p = Lz ks p := by
  have h := Rt.iter ok n
  rcases hp with rfl | hp
  · rw [Lz_mark]; exact h.mrk
  · exact h.done p hp (by have := rkL_n hp; omega)
theorem iter_len (ok : KOk ks) {n : Nat} (hn : ks.length ≤ n) : (iterK ks n).length = ks.length + 1 := by
  refine Nat.le_antisymm (Gd.iter ks n).len ?_
  have nd : (("mark" : Str) :: kindNames ks).Nodup := List.nodup_cons.mpr ⟨fun h => ok.no_mark (List.mem_append_left _ h), (List.nodup_append.mp ok.nd).1⟩
  have := nodup_len nd fun p hp => (iter_is ok hn (List.mem_cons.mp hp)).1
  simpa [keys, kindNames] using this
end
end Mh

/-! kinds are kinds -/
namespace Mh
open PySem L2 Mp Mg

section
variable {c : Ec} {ss : List S} {r : Mp.Env} {Q : Post}
theorem B_exp {e : E} (h : OB ((pv c e).e r) fun _ => B c ss r Q) : B c (.exp e :: ss) r Q := by
  obtain ⟨d, e1, h⟩ := h
  exact B_expi ⟨_, (snd c e).e _ _ e1, h⟩
end
section
variable {P : List FD} {g : Nat} {fd : FD} {wf n : Nat} {args : List D}
theorem run_none (h : P[g]? = some fd) (hl : fd.ps = List.replicate args.length Md.fz) (hf : fd.fr = false)
    (hB : B (ecOf P wf n fd.md) fd.body (args.map some ++ List.replicate (fd.md.length - args.length) none) fun f r => f = .nx) :
    fnC (run P wf (n + 1)) g args = some .none := by
  obtain ⟨f, r', e, rfl⟩ := hB
  have hl' : args.length = fd.ps.length := by rw [hl, List.length_replicate]
  have hio : ((List.range fd.ps.length).all fun i => fd.ps.getD i .fz == .fz || (Mp.get r' i).isSome) = true := by
    rw [List.all_eq_true]
    intro i hi
    rw [hl, List.length_replicate] at hi
    have : i < args.length := by simpa using hi
    simp [hl, List.getD, this]
  unfold fnC
  rw [run_eq h]
  unfold FD.run
  rw [if_pos hl', e]
  simp only [Option.bind_some]
  rw [if_pos hio]
  simp [hf, hl']
theorem fn_of {C : Nat → List D → Option (D × List D)} {f : Nat} {ds os : List D} {d : D} (h : C f ds = some (d, os)) (hl : os.length = ds.length) : fnC C f ds = some d := by
  unfold fnC
  rw [h]
  simp [hl]
end
theorem strsOf_sD : ∀ ss : List Str, strsOf (sD ss) = some ss
  | [] => rfl
  | s :: ss => by
    show strsOf (.str s :: sD ss) = _
    rw [strsOf, strsOf_sD ss]; rfl
@[simp] theorem lenSet_sD (ss : List Str) : Mp.prim .lenSet [.list (sD ss)] = if ss.length ≤ 4000 then some (.int (firsts ss).length) else none := by
  show (strsOf _).bind _ = _
  rw [strsOf_sD]
  simp
theorem firsts_nodup {ss : List Str} (h : ss.Nodup) : firsts ss = ss := by
  have key : ∀ (ss acc : List Str), (acc ++ ss).Nodup → ss.foldl step1 acc = acc ++ ss := fun ss => by
    induction ss with
    | nil => intro acc _; simp
    | cons x xs ih =>
      intro acc h
      have e : step1 acc x = acc ++ [x] := by
        unfold step1
        rw [if_neg]
        intro hx
        obtain ⟨y, hy, e⟩ := List.any_eq_true.mp hx
        have e : y = x := by simpa using e
        subst e
        exact (List.nodup_append.mp h).2.2 y hy y List.mem_cons_self rfl
      rw [List.foldl_cons, e, ih (acc ++ [x]) (by simpa using h)]
      simp
  exact key ss [] (by simpa using h)
section
variable {P : List FD} (pk : PK P) {wf n : Nat}
include pk
theorem pairs_true {ds : List D} {most : Int} (l1 : 1 ≤ ds.length) (l2 : (ds.length : Int) ≤ most) (hd : ∀ d ∈ ds, ∃ w xs, d = .tuple [.str w, .tuple xs] ∧ Named w) : fnC (run P wf (n + 2)) 2 [.tuple ds, .int most] = some (.bool true) :=
  fn_of (pairs_spec pk.h1 pk.h2 l1 l2 hd) rfl
theorem kinds_true {ks : KS} (ok : KOk ks) : fnC (run P wf (n + 3)) 5 [ksD ks] = some (.bool true) := by
  have l5 : ks.length ≤ 5 := ok.len.2
  have f2 := fm_of pk.h2
  have f3 := fm_of pk.h3
  have f4 := fm_of pk.h4
  have lk : ks.length ≤ sizeLine := by simp [sizeLine]; omega
  have hrows : (ks.flatMap (·.2)).length ≤ 20 := by
    have key : ∀ l : KS, (∀ k ∈ l, k.2.length ≤ 4) → (l.flatMap (·.2)).length ≤ 4 * l.length := fun l => by
      induction l with
      | nil => intro _; simp
      | cons x xs ih =>
        intro h
        have h1 := h x List.mem_cons_self
        have h2 := ih fun y hy => h y (List.mem_cons_of_mem _ hy)
        rw [List.flatMap_cons, List.length_append, List.length_cons]
        omega
    have := key ks fun k hk => (ok.rows k hk).2
    omega
  have p1 : fnC (run P wf (n + 2)) 2 [ksD ks, .int 5] = some (.bool true) := pairs_true pk (by simpa using ok.len.1) (by simp; omega) fun d hd => by
    obtain ⟨k, hk, rfl⟩ := List.mem_map.mp hd
    exact ⟨_, _, rfl, ok.nm _ (List.mem_append_left _ (List.mem_map.mpr ⟨k, hk, rfl⟩))⟩
  have p2 : ∀ k ∈ ks, fnC (run P wf (n + 2)) 2 [rowsD k.2, .int 4] = some (.bool true) := fun k hk => pairs_true pk (by simpa using (ok.rows k hk).1) (by have := (ok.rows k hk).2; simp; omega) fun d hd => by
    obtain ⟨r, hr, rfl⟩ := List.mem_map.mp hd
    exact ⟨_, _, rfl, ok.nm _ (List.mem_append_right _ (List.mem_flatMap.mpr ⟨k, hk, List.mem_map.mpr ⟨r, hr, rfl⟩⟩))⟩
  have p3 : ∀ r ∈ ks.flatMap (·.2), fnC (run P wf (n + 2)) 4 [.tuple (sD r.2), .list (sD (kindNames ks ++ [("mark" : Str)]))] = some (.bool true) := fun r hr => by
    obtain ⟨k, hk, hr⟩ := List.mem_flatMap.mp hr
    obtain ⟨h1, h2⟩ := ok.parts k hk r hr
    exact parts_true pk h1 fun p hp => by simpa [or_comm] using h2 p hp
  have p4 : fnC (run P wf (n + 2)) 3 [ksD ks] = some (.dict (numsD (iterK ks ks.length))) := sizes_walk pk (wf := wf) (n := n + 1) l5 fun k hk => ⟨(ok.rows k hk).2, fun r hr => (ok.parts k hk r hr).1⟩
  have p5 := iter_len ok (Nat.le_refl _)
  have p6 : firsts (kindNames ks ++ (ks.flatMap (·.2)).map (·.1)) = kindNames ks ++ (ks.flatMap (·.2)).map (·.1) := firsts_nodup (by
    have := ok.nd
    unfold makers at this
    rwa [← List.map_flatMap] at this)
  refine run_fn pk.h5 rfl ?_
  simp only [Mf.fd_is_kinds, List.map, List.length, List.replicate]
  refine B_ite ?_
  simp [f2, Mf.fd_are_pairs, p1]
  rw [fmM_congr (g := fun _ => some (some (.bool true))) fun k hk => by simp [p2 k hk]]
  simp [lk]
  have e1 : (ks.map fun k => PyData.str k.1) = sD (kindNames ks) := by simp [sD, kindNames]
  refine B_set ?_
  simp [lk]
  rw [e1]
  refine B_set ?_
  simp [-List.length_flatMap]
  have e2 : (ks.flatMap fun k => k.2.map rowD) = (ks.flatMap (·.2)).map rowD := by rw [List.map_flatMap]
  rw [e2]
  have lr : (ks.flatMap (·.2)).length ≤ sizeLine := by simp only [sizeLine]; omega
  generalize hrs : ks.flatMap (·.2) = rs at *
  have e3 : (sD (kindNames ks) ++ rs.map fun x => PyData.str x.1) = sD (kindNames ks ++ rs.map (·.1)) := by simp [sD]
  have e4 : (sD (kindNames ks) ++ [PyData.str "mark"]) = sD (kindNames ks ++ [("mark" : Str)]) := by simp [sD]
  have e5 : (kindNames ks).length = ks.length := by simp [kindNames]
  have l6 : ks.length + rs.length ≤ sizeLine := by simp only [sizeLine]; omega
  have l7 : ks.length + 1 ≤ sizeLine := by simp only [sizeLine]; omega
  have l8 : ks.length + rs.length ≤ 4000 := by omega
  refine ⟨by simpa using lr, B_ite ?_⟩
  simp [lr, e5, l6, e3, l8, p6]
  refine B_ite ?_
  simp [lr, f4, Mf.fd_are_parts, e4, e5]
  rw [fmM_congr (g := fun _ => some (some (.bool true)))]
  · simp [lr]
    refine B_ret ?_
    simp [f3, Mf.fd_least_sizes, p4, p5, numsD]
  · intro k hk
    simp [p3 k hk, l7]
theorem need_kinds_ok (h : P[20]? = some Mf.fd_need_kinds) {ks : KS} (ok : KOk ks) : fnC (run P wf (n + 4)) 20 [ksD ks] = some .none := by
  have f5 := fm_of pk.h5
  have p1 := kinds_true pk (wf := wf) (n := n) ok
  refine run_none h rfl rfl ?_
  simp only [Mf.fd_need_kinds, List.map, List.length, List.replicate]
  refine B_ite ?_
  simp [f5, Mf.fd_is_kinds, p1]
  exact B_nil rfl
end
end Mh

/-! the program's defs on kinds -/
namespace Mh
open PySem L2 Mp Mg

section
variable {α : Type}
/-- a dict made of rows -/
def kvOf (kf : α → Str) (vf : α → D) (l : List α) : List (D × D) := l.map fun x => (.str (kf x), vf x)
theorem dget_kv (kf : α → Str) (vf : α → D) (w : Str) : ∀ l : List α, Mp.dget (kvOf kf vf l) w = (l.find? fun x => decide (kf x = w)).map vf
  | [] => rfl
  | x :: l => by
    show Mp.dget ((.str (kf x), vf x) :: kvOf kf vf l) w = _
    rw [Mp.dget, dget_kv kf vf w l, List.find?_cons]
    by_cases h : kf x = w <;> simp [h]
theorem dput_new (kf : α → Str) (vf : α → D) (w : Str) (v : D) : ∀ l : List α, w ∉ l.map kf → Mp.dput (kvOf kf vf l) w v = kvOf kf vf l ++ [(.str w, v)]
  | [], _ => rfl
  | x :: l, h => by
    simp only [List.map_cons, List.mem_cons, not_or] at h
    show Mp.dput ((.str (kf x), vf x) :: kvOf kf vf l) w v = _
    rw [Mp.dput, if_neg (Ne.symm h.1), dput_new kf vf w v l h.2]
    rfl
theorem kvOf_snoc (kf : α → Str) (vf : α → D) (l : List α) (x : α) : kvOf kf vf (l ++ [x]) = kvOf kf vf l ++ [(.str (kf x), vf x)] := by simp [kvOf]
theorem mkDict_kv (kf : α → Str) (vf : α → D) {l : List α} (h : (l.map kf).Nodup) : mkDict (l.map fun x => (kf x, vf x)) = kvOf kf vf l := by
  have key : ∀ (l acc : List α), ((acc ++ l).map kf).Nodup → (l.map fun x => (kf x, vf x)).foldl (fun kvs p => Mp.dput kvs p.1 p.2) (kvOf kf vf acc) = kvOf kf vf (acc ++ l) := fun l => by
    induction l with
    | nil => intro acc _; simp
    | cons x xs ih =>
      intro acc h
      have hx : kf x ∉ acc.map kf := fun hm => by
        rw [List.map_append, List.nodup_append] at h
        exact h.2.2 _ hm _ List.mem_cons_self rfl
      rw [List.map_cons, List.foldl_cons, dput_new _ _ _ _ _ hx, ← kvOf_snoc, ih (acc ++ [x]) (by simpa using h)]
      simp
  exact key l [] (by simpa using h)
theorem kv_keys (kf : α → Str) (vf : α → D) (l : List α) : (kvOf kf vf l).map (·.1) = sD (l.map kf) := by simp [kvOf, sD]
theorem find_isSome (kf : α → Str) (w : Str) (l : List α) : (l.find? fun x => decide (kf x = w)).isSome = decide (w ∈ l.map kf) := by
  induction l with
  | nil => simp
  | cons x l ih =>
    rw [List.find?_cons]
    by_cases h : kf x = w
    · simp [h]
    · simp only [h, decide_false, ih, List.map_cons, List.mem_cons, Ne.symm h, false_or]
theorem find_uniq (kf : α → Str) {l : List α} (nd : (l.map kf).Nodup) {x : α} (hx : x ∈ l) : (l.find? fun y => decide (kf y = kf x)) = some x := by
  induction l with
  | nil => cases hx
  | cons y l ih =>
    rw [List.map_cons, List.nodup_cons] at nd
    rw [List.find?_cons]
    rcases List.mem_cons.mp hx with rfl | hx
    · simp
    · have : kf y ≠ kf x := fun e => nd.1 (e ▸ List.mem_map.mpr ⟨x, hx, rfl⟩)
      simp only [this, decide_false]
      exact ih nd.2 hx
end
abbrev kvK (ks : KS) : List (D × D) := kvOf (fun k : Mg.Kind => k.1) (fun k => rowsD k.2) ks
abbrev MRow := Str × Str × List Str
/-- the makers, each with its kind and parts -/
def mrows (ks : KS) : List MRow := ks.flatMap fun k => k.2.map fun r => (r.1, k.1, r.2)
def mrowD (t : MRow) : D := .tuple [.str t.2.1, .tuple (sD t.2.2)]
abbrev kvM (ms : List MRow) : List (D × D) := kvOf (fun t : MRow => t.1) mrowD ms
theorem mrows_names (ks : KS) : (mrows ks).map (·.1) = makers ks := by
  unfold mrows makers
  rw [List.map_flatMap]
  simp [Function.comp_def]
theorem pairsOf_ks : ∀ ks : KS, pairsOf (ks.map kindD) = some (ks.map fun k => (k.1, rowsD k.2))
  | [] => rfl
  | k :: ks => by
    rw [List.map_cons]
    show pairsOf (.tuple [.str k.1, rowsD k.2] :: ks.map kindD) = _
    rw [pairsOf, pairsOf_ks ks]
    rfl
section
variable {ks : KS}
theorem _root_.Mg.KOk.ndk (ok : KOk ks) : (ks.map fun k : Mg.Kind => k.1).Nodup := (List.nodup_append.mp ok.nd).1
theorem _root_.Mg.KOk.ndm (ok : KOk ks) : ((mrows ks).map fun t : MRow => t.1).Nodup := by
  rw [mrows_names]
  exact (List.nodup_append.mp ok.nd).2.1
theorem mrows_len (ok : KOk ks) : (mrows ks).length ≤ 20 := by
  have key : ∀ l : KS, (∀ k ∈ l, k.2.length ≤ 4) → (mrows l).length ≤ 4 * l.length := fun l => by
    induction l with
    | nil => intro _; simp [mrows]
    | cons x xs ih =>
      intro h
      have h1 := h x List.mem_cons_self
      have h2 := ih fun y hy => h y (List.mem_cons_of_mem _ hy)
      unfold mrows at h2 ⊢
      rw [List.flatMap_cons, List.length_append, List.length_cons, List.length_map]
      omega
  have := key ks fun k hk => (ok.rows k hk).2
  have := ok.len.2
  omega
theorem dict_ks (ok : KOk ks) : Mp.prim .dict [ksD ks] = some (.dict (kvK ks)) := by
  show (pairsOf _).map _ = _
  rw [pairsOf_ks]
  simp only [Option.map_some]
  rw [mkDict_kv _ _ ok.ndk]
/-- a kind's rows -/
def rowsOf (ks : KS) (w : Str) : List Row := ((ks.find? fun k => decide (k.1 = w)).map (·.2)).getD []
theorem get_ks (w : Str) : (Mp.dget (kvK ks) w).getD (.tuple []) = rowsD (rowsOf ks w) := by
  rw [dget_kv]
  unfold rowsOf
  cases ks.find? fun k => decide (k.1 = w) <;> rfl
theorem get_ks' {w : Str} (h : w ∈ kindNames ks) : Mp.dget (kvK ks) w = some (rowsD (rowsOf ks w)) := by
  have := find_isSome (fun k : Mg.Kind => k.1) w ks
  have h : w ∈ ks.map fun k => k.1 := h
  rw [decide_eq_true h] at this
  obtain ⟨k, e⟩ := Option.isSome_iff_exists.mp this
  rw [dget_kv, e]
  unfold rowsOf
  rw [e]
  rfl
theorem rowsOf_none {w : Str} (h : w ∉ kindNames ks) : rowsOf ks w = [] := by
  have := find_isSome (fun k : Mg.Kind => k.1) w ks
  have h : w ∉ ks.map fun k => k.1 := h
  rw [decide_eq_false h] at this
  unfold rowsOf
  cases e : ks.find? fun k => decide (k.1 = w) with
  | none => rfl
  | some k => rw [e] at this; cases this
theorem rowsOf_kind (ok : KOk ks) {k : Mg.Kind} (hk : k ∈ ks) : rowsOf ks k.1 = k.2 := by
  unfold rowsOf
  rw [find_uniq _ ok.ndk hk]
  rfl
theorem in_ks (w : Str) : (Mp.dget (kvK ks) w).isSome = decide (w ∈ kindNames ks) := by
  rw [dget_kv, Option.isSome_map]
  exact find_isSome _ _ _
theorem in_ms (w : Str) (ms : List MRow) : (Mp.dget (kvM ms) w).isSome = decide (w ∈ ms.map (·.1)) := by
  rw [dget_kv, Option.isSome_map]
  exact find_isSome _ _ _
theorem get_ms (ok : KOk ks) {t : MRow} (ht : t ∈ mrows ks) : Mp.dget (kvM (mrows ks)) t.1 = some (mrowD t) := by
  rw [dget_kv, find_uniq _ ok.ndm ht]
  rfl
end
/-- the program's defs that look at kinds and makers -/
structure PK2 (P : List FD) : Prop extends PK P where
  h20 : P[20]? = some Mf.fd_need_kinds
  h21 : P[21]? = some Mf.fd_is_kind
  h22 : P[22]? = some Mf.fd_need_kind
  h24 : P[24]? = some Mf.fd_makers_in
section
variable {P : List FD} (pk : PK2 P) {wf n : Nat} {ks : KS}
include pk
theorem is_kind_str (ok : KOk ks) (w : Str) : fnC (run P wf (n + 1)) 21 [ksD ks, .str w] = some (.bool (decide (w = "mark" ∨ w ∈ kindNames ks))) := by
  refine run_fn pk.h21 rfl ?_
  simp only [Mf.fd_is_kind, List.map, List.length, List.replicate]
  refine B_ret ?_
  have h1 := dict_ks ok
  have h2 := in_ks (ks := ks) w
  by_cases hm : w = "mark" <;> simp [h1, h2, hm]
theorem need_kind_ok (ok : KOk ks) {w : Str} (hw : w = "mark" ∨ w ∈ kindNames ks) : fnC (run P wf (n + 5)) 22 [ksD ks, .str w] = some .none := by
  have f1 := fm_of pk.h20
  have f2 := fm_of pk.h21
  have p1 := need_kinds_ok pk.toPK (wf := wf) (n := n) pk.h20 ok
  have p2 := is_kind_str pk (wf := wf) (n := n + 3) ok w
  rw [decide_eq_true hw] at p2
  refine run_none pk.h22 rfl rfl ?_
  simp only [Mf.fd_need_kind, List.map, List.length, List.replicate]
  refine B_exp ?_
  simp [f1, Mf.fd_need_kinds, p1]
  refine B_ite ?_
  simp [f2, Mf.fd_is_kind, p2]
  exact B_nil rfl
theorem makers_in_ok (ok : KOk ks) (w : Str) : fnC (run P wf (n + 1)) 24 [ksD ks, .str w] = some (rowsD (rowsOf ks w)) := by
  refine run_fn pk.h24 rfl ?_
  simp only [Mf.fd_makers_in, List.map, List.length, List.replicate]
  refine B_ret ?_
  have h1 := dict_ks ok
  have h2 := get_ks (ks := ks) w
  simp [h1, h2]
theorem makers_of_ok (h : P[25]? = some Mf.fd_makers_of) (ok : KOk ks) {w : Str} (hw : w = "mark" ∨ w ∈ kindNames ks) : fnC (run P wf (n + 6)) 25 [ksD ks, .str w] = some (rowsD (rowsOf ks w)) := by
  have f1 := fm_of pk.h22
  have f2 := fm_of pk.h24
  have p1 := need_kind_ok pk (wf := wf) (n := n) ok hw
  have p2 := makers_in_ok pk (wf := wf) (n := n + 4) ok w
  refine run_fn h rfl ?_
  simp only [Mf.fd_makers_of, List.map, List.length, List.replicate]
  refine B_exp ?_
  simp [f1, Mf.fd_need_kind, p1]
  refine B_ret ?_
  simp [f2, Mf.fd_makers_in, p2]
omit pk
theorem maker_rows_ok (h19 : P[19]? = some Mf.fd_maker_rows)  (ok : KOk ks) : fnC (run P wf (n + 1)) 19 [ksD ks] = some (.dict (kvM (mrows ks))) := by
  refine run_fn h19 rfl ?_
  simp only [Mf.fd_maker_rows, List.map, List.length, List.replicate]
  refine B_ret ?_
  simp [-List.length_flatMap]
  have e : (ks.flatMap fun x => x.2.map fun y => (y.1, PyData.tuple [PyData.str x.1, PyData.tuple (sD y.2)])) = (mrows ks).map fun t => (t.1, mrowD t) := by
    simp [mrows, List.map_flatMap, Function.comp_def, mrowD]
  rw [e]
  refine ⟨?_, mkDict_kv _ _ ok.ndm⟩
  have := mrows_len ok
  simp [sizeLine]
  omega
include pk
theorem need_maker_ok (h19 : P[19]? = some Mf.fd_maker_rows) (h23 : P[23]? = some Mf.fd_need_maker)  (ok : KOk ks) {w : Str} (hw : w ∈ makers ks) : fnC (run P wf (n + 5)) 23 [ksD ks, .str w] = some .none := by
  have f1 := fm_of pk.h20
  have f2 := fm_of h19
  have p1 := need_kinds_ok pk.toPK (wf := wf) (n := n) pk.h20 ok
  have p2 := maker_rows_ok h19 (wf := wf) (n := n + 3) ok
  have p3 := in_ms w (mrows ks)
  rw [mrows_names, decide_eq_true hw] at p3
  refine run_none h23 rfl rfl ?_
  simp only [Mf.fd_need_maker, List.map, List.length, List.replicate]
  refine B_exp ?_
  simp [f1, Mf.fd_need_kinds, p1]
  refine B_ite ?_
  simp [f2, Mf.fd_maker_rows, p2, p3]
  exact B_nil rfl
theorem kind_by_ok (h19 : P[19]? = some Mf.fd_maker_rows) (h23 : P[23]? = some Mf.fd_need_maker) (h : P[26]? = some Mf.fd_kind_by) (ok : KOk ks) {t : MRow} (ht : t ∈ mrows ks) : fnC (run P wf (n + 6)) 26 [ksD ks, .str t.1] = some (.str t.2.1) := by
  have f1 := fm_of h23
  have f2 := fm_of h19
  have p1 := need_maker_ok pk h19 h23 (wf := wf) (n := n) ok (w := t.1) (by rw [← mrows_names]; exact List.mem_map.mpr ⟨t, ht, rfl⟩)
  have p2 := maker_rows_ok h19 (wf := wf) (n := n + 4) ok
  have p3 := get_ms ok ht
  refine run_fn h rfl ?_
  simp only [Mf.fd_kind_by, List.map, List.length, List.replicate]
  refine B_exp ?_
  simp [f1, Mf.fd_need_maker, p1]
  refine B_ret ?_
  simp [f2, Mf.fd_maker_rows, p2, p3, mrowD]
end
end Mh

/-! texts of data -/
namespace Mh
open PySem L2 Mp Mg

/-- signs that a text may have -/
def chS (x : Str) : Prop := ∀ c ∈ x.cps.toList, c < 16 ^ 8
mutual
/-- no text of it is longer -/
def wt : D → Nat
  | .none => 4
  | .bool _ => 5
  | .int i => (Str.ofString (toString i)).length
  | .str x => 10 * x.length + 2
  | .list xs => 2 + wts xs
  | .tuple xs => 3 + wts xs
  | .dict kvs => 2 + wtk kvs
def wts : List D → Nat
  | [] => 0
  | x :: xs => wt x + 2 + wts xs
def wtk : List (D × D) → Nat
  | [] => 0
  | (k, v) :: r => wt k + wt v + 4 + wtk r
end
mutual
def chD : D → Prop
  | .none => True
  | .bool _ => True
  | .int _ => True
  | .str x => chS x
  | .list xs => chDs xs
  | .tuple xs => chDs xs
  | .dict kvs => chDk kvs
def chDs : List D → Prop
  | [] => True
  | x :: xs => chD x ∧ chDs xs
def chDk : List (D × D) → Prop
  | [] => True
  | (k, v) :: r => chD k ∧ chD v ∧ chDk r
end
theorem app_len (a b : Str) : (a ++ b).length = a.length + b.length := by
  show (a.cps ++ b.cps).size = _
  rw [Array.size_append]
  rfl
theorem join_len : ∀ ts : List Str, (Str.join ", " ts).length ≤ piled ts
  | [] => by simp [piled, Str.join]; rfl
  | t :: ts => by
    have := join_length_add (t :: ts) (by simp)
    omega
theorem textFrom_le : ∀ (ts : List Str) (k : Nat) (acc : Str), (textFrom k acc ts).length ≤ acc.length + piled ts
  | [], k, acc => by simp [textFrom, piled]
  | t :: ts, k, acc => by
    have := textFrom_le ts (k + 1) (acc ++ (if k > 0 then ", " else "" : String) ++ t)
    rw [textFrom, piled_cons]
    rw [app_len, app_len] at this
    have e : ((if k > 0 then ", " else "" : String) : Str).length ≤ 2 := by split <;> decide
    omega
mutual
theorem shown_le : ∀ d : D, chD d → d.shown.length ≤ wt d
  | .none, _ => by rw [PyData.shown]; decide
  | .bool b, _ => by rw [PyData.shown]; cases b <;> decide
  | .int i, _ => by rw [PyData.shown, wt]; exact Nat.le_refl _
  | .str x, h => by rw [PyData.shown, wt]; exact StrLaws.reprText_len x (by simpa [chD, chS] using h)
  | .list xs, h => by
    have := shownAll_le xs (by simpa [chD] using h)
    rw [PyData.shown, wt, listText, app_len]
    have h2 := textFrom_le (PyData.shownAll xs) 0 "["
    have e1 : (("[" : String) : Str).length = 1 := rfl
    have e2 : (("]" : String) : Str).length = 1 := rfl
    omega
  | .tuple xs, h => by
    have := shownAll_le xs (by simpa [chD] using h)
    rw [PyData.shown, wt, tupleText, app_len, app_len]
    have h2 := join_len (PyData.shownAll xs)
    have e1 : (("(" : String) : Str).length = 1 := rfl
    have e2 : ((if (PyData.shownAll xs).length == 1 then ",)" else ")" : String) : Str).length ≤ 2 := by split <;> decide
    omega
  | .dict kvs, h => by
    have := shownKv_le kvs (by simpa [chD] using h)
    rw [PyData.shown, wt, dictText, app_len, app_len]
    have h2 := join_len (PyData.shownKv kvs)
    have e1 : (("{" : String) : Str).length = 1 := rfl
    have e2 : (("}" : String) : Str).length = 1 := rfl
    omega
theorem shownAll_le : ∀ ds : List D, chDs ds → piled (PyData.shownAll ds) ≤ wts ds
  | [], _ => by simp [PyData.shownAll, piled]
  | d :: ds, h => by
    simp only [chDs] at h
    rw [PyData.shownAll, piled_cons, wts]
    have := shown_le d h.1
    have := shownAll_le ds h.2
    omega
theorem shownKv_le : ∀ ds : List (D × D), chDk ds → piled (PyData.shownKv ds) ≤ wtk ds
  | [], _ => by simp [PyData.shownKv, piled]
  | (k, v) :: ds, h => by
    simp only [chDk] at h
    rw [PyData.shownKv, piled_cons, wtk, app_len, app_len]
    have := shown_le k h.1
    have := shown_le v h.2.1
    have := shownKv_le ds h.2.2
    have e1 : ((": " : String) : Str).length = 2 := rfl
    omega
end
/-- what repr asks, of data without dicts -/
structure Sh (d : D) (w k : Nat) : Prop where
  nd : d.hasDict = false
  ok : d.showable = true
  ch : chD d
  wt : wt d ≤ w
  dp : d.depth ≤ k
structure Shs (ds : List D) (w k : Nat) : Prop where
  nd : PyData.hasDictAll ds = false
  ok : PyData.showableAll ds = true
  ch : chDs ds
  wt : wts ds ≤ w
  dp : PyData.depthAll ds ≤ k
theorem Shs.nil {w k : Nat} : Shs [] w k := ⟨by simp [PyData.hasDictAll], by simp [PyData.showableAll], by simp [chDs], by simp [wts], by simp [PyData.depthAll]⟩
theorem Shs.cons {d : D} {ds : List D} {w v k : Nat} (h : Sh d w k) (h' : Shs ds v k) : Shs (d :: ds) (w + 2 + v) k :=
  ⟨by simp [PyData.hasDictAll, h.nd, h'.nd], by simp [PyData.showableAll, h.ok, h'.ok], by simp [chDs, h.ch, h'.ch], by have := h.wt; have := h'.wt; simp only [wts]; omega, by have := h.dp; have := h'.dp; simp only [PyData.depthAll]; omega⟩
theorem Shs.all {α : Type} {f : α → D} {w k : Nat} : ∀ {l : List α}, (∀ x ∈ l, Sh (f x) w k) → Shs (l.map f) ((w + 2) * l.length) k
  | [], _ => .nil
  | x :: l, h => by
    have := Shs.cons (h x List.mem_cons_self) (Shs.all (l := l) fun y hy => h y (List.mem_cons_of_mem _ hy))
    rw [List.map_cons, List.length_cons, Nat.mul_succ, Nat.add_comm]
    exact this
theorem Sh.tuple {ds : List D} {w k : Nat} (h : Shs ds w k) : Sh (.tuple ds) (3 + w) (k + 1) :=
  ⟨by simp [PyData.hasDict, h.nd], by simp [PyData.showable, h.ok], by simp [chD, h.ch], by have := h.wt; simp only [Mh.wt]; omega, by have := h.dp; simp only [PyData.depth]; omega⟩
theorem Sh.list {ds : List D} {w k : Nat} (h : Shs ds w k) : Sh (.list ds) (2 + w) (k + 1) :=
  ⟨by simp [PyData.hasDict, h.nd], by simp [PyData.showable, h.ok], by simp [chD, h.ch], by have := h.wt; simp only [Mh.wt]; omega, by have := h.dp; simp only [PyData.depth]; omega⟩
theorem Sh.mono {d : D} {w w' k k' : Nat} (h : Sh d w k) (hw : w ≤ w') (hk : k ≤ k') : Sh d w' k' := ⟨h.nd, h.ok, h.ch, Nat.le_trans h.wt hw, Nat.le_trans h.dp hk⟩
theorem Sh.str {x : Str} {n : Nat} (h : x.length ≤ n) (hc : chS x) : Sh (.str x) (10 * n + 2) 0 :=
  ⟨by simp [PyData.hasDict], by simp [PyData.showable], by simpa [chD] using hc, by simp only [Mh.wt]; omega, by simp [PyData.depth]⟩
theorem Sh.repr {d : D} {w k : Nat} (h : Sh d w k) (hw : w ≤ sizeLine) (hk : k ≤ 300) : Mp.prim .repr [d] = some (.str d.shown) := by
  show (if reprOk d = true ∧ d.showable = true ∧ d.shown.length ≤ sizeLine ∧ d.depth ≤ DL then some (PyData.str d.shown) else none) = _
  have := shown_le d h.ch
  have := h.wt
  have := h.dp
  rw [if_pos ⟨by simp [reprOk, h.nd], h.ok, by omega, by unfold DL; omega⟩]
theorem named_sh {w : Str} (h : Named w) : Sh (.str w) 82 0 := by
  obtain ⟨l, rfl, h1, h2, h3, _⟩ := h
  exact Sh.str (n := 8) (by rw [tx_len]; exact h2) fun c hc => by
    have : c ∈ l := by simpa [Mg.tx] using hc
    have := h3 c this
    omega
theorem mark_sh : Sh (.str "mark") 82 0 := Sh.str (n := 8) (by decide) (by unfold chS; decide)
section
variable {ks : KS} (ok : KOk ks)
include ok
theorem part_sh {k : Mg.Kind} (hk : k ∈ ks) {r : Row} (hr : r ∈ k.2) {p : Str} (hp : p ∈ r.2) : Sh (.str p) 82 0 := by
  rcases (ok.parts k hk r hr).2 p hp with rfl | h
  · exact mark_sh
  · exact named_sh (ok.nm _ (List.mem_append_left _ h))
theorem row_sh {k : Mg.Kind} (hk : k ∈ ks) {r : Row} (hr : r ∈ k.2) : Sh (rowD r) 400 2 := by
  have h1 : Sh (.str r.1) 82 1 := (named_sh (ok.nm _ (List.mem_append_right _ (List.mem_flatMap.mpr ⟨k, hk, List.mem_map.mpr ⟨r, hr, rfl⟩⟩)))).mono (Nat.le_refl _) (by omega)
  have h2 : Sh (.tuple (sD r.2)) (3 + 84 * 3) 1 := (Sh.tuple (Shs.all (f := PyData.str) (w := 82) (k := 0) fun p hp => part_sh ok hk hr hp)).mono (by have := (ok.parts k hk r hr).1; omega) (by omega)
  exact (Sh.tuple (h1 |>.mono (Nat.le_refl _) (Nat.le_refl _) |> fun a => Shs.cons a (Shs.cons h2 (.nil (w := 0))))).mono (by omega) (by omega)
theorem rows_sh {k : Mg.Kind} (hk : k ∈ ks) : Sh (rowsD k.2) 1700 3 := by
  have := (ok.rows k hk).2
  exact (Sh.tuple (Shs.all (f := rowD) (w := 400) (k := 2) fun r hr => row_sh ok hk hr)).mono (by omega) (by omega)
theorem ks_sh : Sh (ksD ks) 20000 5 := by
  have := ok.len.2
  have h : ∀ k ∈ ks, Sh (kindD k) 2000 4 := fun k hk => by
    have h1 : Sh (.str k.1) 82 3 := (named_sh (ok.nm _ (List.mem_append_left _ (List.mem_map.mpr ⟨k, hk, rfl⟩)))).mono (Nat.le_refl _) (by omega)
    exact (Sh.tuple (Shs.cons h1 (Shs.cons (rows_sh ok hk) (.nil (w := 0))))).mono (by omega) (by omega)
  exact (Sh.tuple (Shs.all (f := kindD) (w := 2000) (k := 4) h)).mono (by omega) (by omega)
theorem rowsOf_sh {w : Str} : Sh (rowsD (rowsOf ks w)) 1700 3 := by
  by_cases h : w ∈ kindNames ks
  · obtain ⟨k, hk, rfl⟩ := List.mem_map.mp h
    rw [rowsOf_kind ok hk]
    exact rows_sh ok hk
  · rw [rowsOf_none h]
    exact (Sh.tuple (Shs.nil (w := 0) (k := 0))).mono (by omega) (by omega)
theorem repr_ks : Mp.prim .repr [ksD ks] = some (.str (ksD ks).shown) := (ks_sh ok).repr (by simp [sizeLine]) (by omega)
theorem repr_rows (w : Str) : Mp.prim .repr [rowsD (rowsOf ks w)] = some (.str (rowsD (rowsOf ks w)).shown) := (rowsOf_sh ok).repr (by simp [sizeLine]) (by omega)
end
end Mh

/-! ranges -/
namespace Mh
open PySem L2 Mp Mg

@[simp] theorem kn_len (ks : KS) : (kindNames ks).length = ks.length := by simp [kindNames]
@[simp] theorem fmM_none {α β : Type} (xs : List α) : fmM (fun _ => (some none : Option (Option β))) xs = some [] := by
  induction xs with
  | nil => rfl
  | cons x xs ih => rw [fmM, ih]; rfl
@[simp] theorem fmM_ifn {α γ : Type} (p : α → Prop) [DecidablePred p] (g : α → γ) (xs : List α) : fmM (fun x => if p x then some none else some (some (g x))) xs = some ((xs.filter fun x => !decide (p x)).map g) := by
  induction xs with
  | nil => rfl
  | cons x xs ih =>
    rw [fmM, ih]
    by_cases h : p x <;> simp [h]
def dD : D → Option (List (D × D))
  | .dict kvs => some kvs
  | _ => none
@[simp] theorem dD_dict (kvs : List (D × D)) : dD (.dict kvs) = some kvs := rfl
theorem B_upd {c : Ec} {ss : List S} {r : Mp.Env} {Q : Post} {i : Nat} {e : E} (h : c.mode i ≠ .fz ∧ OB ((Mp.get r i).bind dD) fun kvs => OB ((pv c e).e r) fun x => OB (dD x) fun more => (kvs.length + more.length ≤ sizeLine ∧ strKs more = true) ∧ B c ss (Mp.put r i (.dict (mergeD kvs more))) Q) : B c (.exp (.upd i e) :: ss) r Q := by
  obtain ⟨h1, kvs, e1, x, e2, more, e5, h3, h⟩ := h
  obtain ⟨d, e3, e4⟩ := bind_some e1
  cases d <;> simp [dD] at e4
  subst e4
  cases x <;> simp [dD] at e5
  subst e5
  refine B_expi ⟨(.none, _), ?_, h⟩
  rw [ev]
  show updE c i (ev c e) r = _
  unfold updE
  simp only [h1, e3, isDct, (snd c e).e _ _ e2, Option.bind_some, h3, and_self, if_true, false_or, Bool.true_eq_false, if_false]
  rfl
theorem small_of {i : Int} (h0 : -1000000000 ≤ i) (h1 : i ≤ 1000000000) : small62 i = true := by unfold small62; exact decide_eq_true (by omega)
theorem rng_gen {c : Ec} {e : E} {r : Mp.Env} {L : Int} (h : (pv c e).e r = some (.int L)) (hs : small62 L = true) : (pv c (.rng [e])).i r = some (intRange 0 L.toNat) := by
  rw [pv_rng_i, rng_one, h]
  simp only [Option.bind_some, iD_int]
  rw [if_pos hs]
theorem rng_srcL {c : Ec} {e : E} {r : Mp.Env} {L : Int} {N : Nat} (h : (pv c e).e r = some (.int L)) (hL : L = N) (hN : N ≤ 1000000) : (pv c (.rng [e])).i r = some ((List.range N).map fun k => .int ((k : Nat) : Int)) := by
  have h1 := rng_gen h (small_of (by omega) (by omega))
  have h2 : L.toNat = N := by omega
  rw [h1, h2]
  unfold intRange
  simp only [Int.zero_add]
theorem rng_src {c : Ec} {e : E} {r : Mp.Env} {N : Nat} (h : (pv c e).e r = some (.int (N : Int))) (hN : N ≤ 1000000) : (pv c (.rng [e])).i r = some ((List.range N).map fun k => .int ((k : Nat) : Int)) := rng_srcL h rfl hN
theorem rng_gen2 {c : Ec} {e e' : E} {r : Mp.Env} {i j : Int} (h : (pv c e).e r = some (.int i)) (h' : (pv c e').e r = some (.int j)) (hs : small62 i = true) (hs' : small62 j = true) : (pv c (.rng [e, e'])).i r = some (intRange i (j - i).toNat) := by
  rw [pv_rng_i, rng_two, h]
  simp only [Option.bind_some, iD_int, h', hs, hs', Bool.and_self, if_true]
theorem rng_src2 {c : Ec} {e e' : E} {r : Mp.Env} {i j : Int} {N : Nat} (h : (pv c e).e r = some (.int i)) (h' : (pv c e').e r = some (.int j)) (hN : N ≤ 1000000) (hi : -1000000 ≤ i ∧ i ≤ 1000000) (hj : (j - i).toNat = N) (hj' : j ≤ 1000000 ∧ -1000000 ≤ j) : (pv c (.rng [e, e'])).i r = some ((List.range N).map fun k => .int (i + ((k : Nat) : Int))) := by
  have h1 := rng_gen2 h h' (small_of (by omega) (by omega)) (small_of (by omega) (by omega))
  rw [hj] at h1
  exact h1
theorem rng_geni {c : Ec} {e : E} {r r1 : Mp.Env} {L : Int} (h : (ev c e).e r = some (.int L, r1)) (hs : small62 L = true) : (ev c (.rng [e])).i r = some (⟨intRange 0 L.toNat, none⟩, r1) := by
  rw [ev]
  show rngV (evs c [e]) r = _
  rw [evs, evs]
  simp only [rngV, h, Option.bind_some]
  rw [if_pos hs]
/-- .. where an expression changes something -/
theorem rng_srciL {c : Ec} {e : E} {r r1 : Mp.Env} {L : Int} {N : Nat} (h : (ev c e).e r = some (.int L, r1)) (hL : L = N) (hN : N ≤ 1000000) : ∃ t : Its, (ev c (.rng [e])).i r = some (t, r1) ∧ t.ds = (List.range N).map (fun k => .int ((k : Nat) : Int)) ∧ t.at_ = none := by
  have h1 := rng_geni h (small_of (by omega) (by omega))
  have h2 : L.toNat = N := by omega
  rw [h2] at h1
  refine ⟨_, h1, ?_, rfl⟩
  unfold intRange
  simp only [Int.zero_add]
theorem rng_srci {c : Ec} {e : E} {r r1 : Mp.Env} {N : Nat} (h : (ev c e).e r = some (.int (N : Int), r1)) (hN : N ≤ 1000000) : ∃ t : Its, (ev c (.rng [e])).i r = some (t, r1) ∧ t.ds = (List.range N).map (fun k => .int ((k : Nat) : Int)) ∧ t.at_ = none := rng_srciL h rfl hN
end Mh

/-! least_size; the laws' own sizes -/
namespace Mh
open PySem L2 Mp Mg

structure PK3 (P : List FD) : Prop extends PK2 P where
  h28 : P[28]? = some Mf.fd_least_size
  h13 : P[13]? = some Mf.fd__law_sizes
section
variable {P : List FD} {wf n : Nat} {ks : KS}
theorem least_size_ok (pk : PK2 P) (h28 : P[28]? = some Mf.fd_least_size) (ok : KOk ks) {w : Str} (hw : w = "mark" ∨ w ∈ kindNames ks) : fnC (run P wf (n + 6)) 28 [ksD ks, .str w] = some (.int (Lz ks w)) := by
  have f1 := fm_of pk.h22
  have f2 := fm_of pk.h3
  have p1 := need_kind_ok pk (wf := wf) (n := n) ok hw
  have p2 := sizes_walk pk.toPK (wf := wf) (n := n + 4) ok.len.2 fun k hk => ⟨(ok.rows k hk).2, fun r hr => (ok.parts k hk r hr).1⟩
  have p3 := iter_is ok (Nat.le_refl _) hw
  refine run_fn h28 rfl ?_
  simp only [Mf.fd_least_size, List.map, List.length, List.replicate]
  refine B_exp ?_
  simp [f1, Mf.fd_need_kind, p1]
  refine B_ret ?_
  simp [f2, Mf.fd_least_sizes, p2, dget_nums, p3.1, p3.2]
theorem law_sizes_ok (h13 : P[13]? = some Mf.fd__law_sizes) (hl : ks.length ≤ 5) (hr : ∀ k ∈ ks, k.2.length ≤ 4 ∧ ∀ r ∈ k.2, r.2.length ≤ 3) : fnC (run P wf (n + 1)) 13 [ksD ks] = some (.dict (numsD (iterK ks (ks.length + 1)))) := by
  refine run_fn h13 rfl ?_
  simp only [Mf.fd__law_sizes, List.map, List.length, List.replicate]
  refine B_own ?_
  simp [mkDict, Mp.dput]
  refine B_for (List.range (ks.length + 1)) (fun k => .int ((k : Nat) : Int)) (fun pre r => r = [some (ksD ks), some (.dict (numsD (iterK ks pre.length))), none, none, none, none, none, none, none]) (rng_src (by simp) (by omega)) (by simp) (by simp [iterK, numsD]) ?_ ?_
  · rintro pre k post r hks rfl
    simp
    refine B_for ks kindD (fun pr r => r = [some (ksD ks), some (.dict (numsD (pr.foldl stepK (iterK ks pre.length)))), some (.int k), none, none, none, none, none, none]) (by simp) (by simp) (by simp) ?_ ?_
    · rintro pr k' po r hks' rfl
      simp
      have gd : Gd ks (pr.foldl stepK (iterK ks pre.length)) := (Gd.iter ks _).fold fun x hx => by rw [hks']; simp [hx]
      generalize pr.foldl stepK (iterK ks pre.length) = al at gd
      have gl := gd.len
      have hk := hr k' (by rw [hks']; simp)
      have l4 : k'.2.length ≤ sizeLine := by simp [sizeLine]; omega
      refine B_set ?_
      simp
      rw [fmM_congr (g := fun x : Row => if (x.2.all fun p => decide (p ∈ keys al)) = true then some (some (.tuple (sD x.2))) else some none)]
      · have l5 : (rowsIn al k').length ≤ sizeLine := Nat.le_trans (List.length_filter_le _ _) l4
        have e : (List.filter (fun x : Row => x.2.all fun p => decide (p ∈ keys al)) k'.2) = rowsIn al k' := rfl
        simp [l4, -List.all_eq_true]
        rw [e]
        have rin : ∀ x ∈ rowsIn al k', x.2.length ≤ 3 ∧ ∀ p ∈ x.2, p ∈ keys al := fun x hx => by
          obtain ⟨h1, h2⟩ := List.mem_filter.mp hx
          exact ⟨hk.2 x h1, by simpa using h2⟩
        refine ⟨l5, B_ite ?_⟩
        have pl : PyData.plainAll ((rowsIn al k').map fun x : Row => PyData.tuple (sD x.2)) = true := plain_map fun _ _ => by simp
        simp [pl]
        by_cases hn : rowsIn al k' = []
        · simp [hn]
          refine B_nil ?_
          simp [stepK, hn]
        · simp [hn]
          refine B_put ?_
          simp
          rw [fmM_congr (g := fun x : Row => some (some (.int (rowVal al x))))]
          · simp [l5, hn, putD, numsD_put]
            refine ⟨by simp [numsD, sizeLine]; omega, B_nil ?_⟩
            simp [stepK, hn]
          · intro x hx
            obtain ⟨h1, h2⟩ := rin x hx
            have l3 : x.2.length ≤ sizeLine := by simp [sizeLine]; omega
            rw [fmM_dget h2]
            simp [l3, rowVal]
      · intro x hx
        have h3 := hk.2 x hx
        have hf : (x.2.filter fun p => decide (Mp.dget (numsD al) p = none)) = x.2.filter fun p => !decide (p ∈ keys al) := by
          congr
          funext p
          rw [dget_nums]
          by_cases h : p ∈ keys al <;> simp [h]
        have hfl : (x.2.filter fun p => !decide (p ∈ keys al)).length ≤ sizeLine := Nat.le_trans (List.length_filter_le _ _) (by simp [sizeLine]; omega)
        have pl : ∀ l : List Str, PyData.plainAll (l.map fun _ => PyData.int 1) = true := fun l => plain_map fun _ _ => by simp
        simp [dget_isSome]
        rw [hf]
        simp [hfl, pl]
    · rintro r rfl
      refine B_nil ?_
      simp [iterK, turnK]
  · rintro r rfl
    refine B_reti ?_
    simp [ev, evs, varV, varE, plainV, asT, asI, View.o, binE, idxE, slcE, primE, osV, resAll, Op.res, notE, andE, orE, listE, esV, asV, Mp.callWith, refsOf, arAll, Ar.res, outs, Mp.get, Mp.put, Mp.wipe, Mp.assign, Mp.assign.go, Mp.seq?, Ec.mode]
end
end Mh

/-! what parts lead to: the plain law -/
namespace Mh
open PySem L2 Mp Mg

def succK (ks : KS) (w : Str) : List Str := (rowsOf ks w).flatMap (·.2)
inductive Reach (ks : KS) : Str → Str → Prop
  | one {w p : Str} : p ∈ succK ks w → Reach ks w p
  | more {w q p : Str} : Reach ks w q → p ∈ succK ks q → Reach ks w p
theorem Reach.within {ks : KS} {w x : Str} (S : Str → Prop) (h0 : ∀ p ∈ succK ks w, S p) (h1 : ∀ q, S q → ∀ p ∈ succK ks q, S p) (h : Reach ks w x) : S x := by
  induction h with
  | one h => exact h0 _ h
  | more _ h2 ih => exact h1 _ ih _ h2
abbrev nm6 (ks : KS) : List Str := ("mark" : Str) :: kindNames ks
def un (ks : KS) (F : List Str) : Nat := ((nm6 ks).filter fun p => !decide (p ∈ F)).length
theorem un_le {ks : KS} {F F' : List Str} (h : ∀ p ∈ F, p ∈ F') : un ks F' ≤ un ks F ∧ ∀ p ∈ nm6 ks, p ∉ F → p ∈ F' → un ks F' + 1 ≤ un ks F := by
  unfold un
  generalize nm6 ks = l
  induction l with
  | nil => exact ⟨Nat.le_refl _, fun p hp => by cases hp⟩
  | cons x l ih =>
    obtain ⟨i1, i2⟩ := ih
    by_cases h1 : x ∈ F
    · have h2 := h x h1
      simp only [List.filter_cons, h1, h2, decide_true, Bool.not_true, Bool.false_eq_true, if_false]
      refine ⟨i1, fun p hp a b => ?_⟩
      rcases List.mem_cons.mp hp with rfl | hp
      · exact absurd h1 a
      · exact i2 p hp a b
    · by_cases h2 : x ∈ F'
      · simp only [List.filter_cons, h1, h2, decide_true, decide_false, Bool.not_true, Bool.not_false, Bool.false_eq_true, if_false, if_true, List.length_cons]
        exact ⟨by omega, fun _ _ _ _ => by omega⟩
      · simp only [List.filter_cons, h1, h2, decide_false, Bool.not_false, if_true, List.length_cons]
        refine ⟨by omega, fun p hp a b => ?_⟩
        rcases List.mem_cons.mp hp with rfl | hp
        · exact absurd b h2
        · have := i2 p hp a b; omega
theorem un_nil (ks : KS) : un ks [] = ks.length + 1 := by
  have : ((nm6 ks).filter fun p => !decide (p ∈ ([] : List Str))) = nm6 ks := List.filter_eq_self.mpr fun _ _ => by simp
  unfold un
  rw [this]
  simp
/-- how far the walk is: found, waiting, the kind at hand, how many steps are left -/
structure Led (ks : KS) (kind : Str) (F W : List Str) (x : Option Str) (k : Nat) : Prop where
  rch : ∀ p ∈ F, Reach ks kind p ∧ p ∈ nm6 ks
  wt : ∀ p ∈ W, p = kind ∨ p ∈ F
  cl : ∀ y, y = kind ∨ y ∈ F → y ∈ W ∨ some y = x ∨ ∀ p ∈ succK ks y, p ∈ F
  ms : W.length + 3 * un ks F ≤ k
theorem Led.step {ks : KS} {kind x : Str} {F W F' ps : List Str} {k : Nat} (h : Led ks kind F W (some x) k) (hx : x = kind ∨ x ∈ F) (h3 : ps.length ≤ 3) (hs : ∀ p ∈ ps, p ∈ succK ks x ∧ p ∈ nm6 ks) (hF : ∀ p, p ∈ F' ↔ p ∈ F ∨ p ∈ ps) :
    Led ks kind F' (W ++ ps.filter fun p => !decide (p ∈ F)) (some x) k := by
  have hsub : ∀ p ∈ F, p ∈ F' := fun p hp => (hF p).mpr (.inl hp)
  refine ⟨fun p hp => ?_, fun p hp => ?_, fun y hy => ?_, ?_⟩
  · rcases (hF p).mp hp with h1 | h1
    · exact h.rch p h1
    · refine ⟨?_, (hs p h1).2⟩
      rcases hx with rfl | hx
      · exact .one (hs p h1).1
      · exact .more (h.rch x hx).1 (hs p h1).1
  · rcases List.mem_append.mp hp with h1 | h1
    · exact (h.wt p h1).imp id (hsub p)
    · exact .inr ((hF p).mpr (.inr (List.mem_filter.mp h1).1))
  · by_cases hyF : y = kind ∨ y ∈ F
    · rcases h.cl y hyF with h1 | h1 | h1
      · exact .inl (List.mem_append_left _ h1)
      · exact .inr (.inl h1)
      · exact .inr (.inr fun p hp => hsub p (h1 p hp))
    · rw [not_or] at hyF
      rcases hy with hy | hy
      · exact absurd hy hyF.1
      · rcases (hF y).mp hy with h1 | h1
        · exact absurd h1 hyF.2
        · exact .inl (List.mem_append_right _ (List.mem_filter.mpr ⟨h1, by simp [hyF.2]⟩))
  · rw [List.length_append]
    have m := h.ms
    obtain ⟨u1, u2⟩ := un_le (ks := ks) hsub
    by_cases hn : (ps.filter fun p => !decide (p ∈ F)) = []
    · rw [hn, List.length_nil]; omega
    · obtain ⟨p, hp⟩ := List.exists_mem_of_ne_nil _ hn
      obtain ⟨p1, p2⟩ := List.mem_filter.mp hp
      have := u2 p (hs p p1).2 (by simpa using p2) ((hF p).mpr (.inr p1))
      have := List.length_filter_le (fun p => !decide (p ∈ F)) ps
      omega
theorem Led.start (ks : KS) (kind : Str) : Led ks kind [] [kind] none (ks.length * 3 + 4) := by
  refine ⟨fun _ h => (by cases h), fun p hp => .inl (by simpa using hp), fun y hy => .inl ?_, (by rw [un_nil]; simp; omega)⟩
  rcases hy with rfl | hy
  · simp
  · cases hy
theorem Led.pop {ks : KS} {kind x : Str} {F W : List Str} {k : Nat} (h : Led ks kind F (W ++ [x]) none k) : Led ks kind F W (some x) (k - 1) ∧ (x = kind ∨ x ∈ F) ∧ 0 < k := by
  have m := h.ms
  rw [List.length_append, List.length_singleton] at m
  refine ⟨⟨h.rch, fun p hp => h.wt p (List.mem_append_left _ hp), fun y hy => ?_, by omega⟩, h.wt x (by simp), by omega⟩
  rcases h.cl y hy with h1 | h1 | h1
  · rcases List.mem_append.mp h1 with h1 | h1
    · exact .inl h1
    · exact .inr (.inl (by simp at h1; rw [h1]))
  · cases h1
  · exact .inr (.inr h1)
theorem Led.turn {ks : KS} {kind x : Str} {F W : List Str} {k : Nat} (h : Led ks kind F W (some x) k) (hx : ∀ p ∈ succK ks x, p ∈ F) : Led ks kind F W none k := by
  refine ⟨h.rch, h.wt, fun y hy => ?_, h.ms⟩
  rcases h.cl y hy with h1 | h1 | h1
  · exact .inl h1
  · cases h1; exact .inr (.inr hx)
  · exact .inr (.inr h1)
theorem Led.done {ks : KS} {kind : Str} {F : List Str} {k : Nat} (h : Led ks kind F [] none k) (p : Str) : p ∈ F ↔ Reach ks kind p := by
  have cl : ∀ y, y = kind ∨ y ∈ F → ∀ p ∈ succK ks y, p ∈ F := fun y hy => by
    rcases h.cl y hy with h1 | h1 | h1
    · cases h1
    · cases h1
    · exact h1
  exact ⟨fun hp => (h.rch p hp).1, fun hp => hp.within (fun q => q ∈ F) (cl kind (.inl rfl)) fun q hq => cl q (.inr hq)⟩
/-- endless rows of unlike trees there are none -/
def Fin' (ks : KS) (w : Str) : Prop := w ≠ "mark" ∧ ¬ Reach ks w "mark" ∧ ¬ Reach ks w w ∧ ∀ p, Reach ks w p → ¬ Reach ks p p
section
variable {ks : KS}
theorem succ_names (ok : KOk ks) {w p : Str} (h : p ∈ succK ks w) : p ∈ nm6 ks := by
  obtain ⟨r, hr, hp⟩ := List.mem_flatMap.mp h
  by_cases hw : w ∈ kindNames ks
  · obtain ⟨k, hk, rfl⟩ := List.mem_map.mp hw
    rw [rowsOf_kind ok hk] at hr
    rcases (ok.parts k hk r hr).2 p hp with rfl | h
    · exact List.mem_cons_self
    · exact List.mem_cons_of_mem _ h
  · rw [rowsOf_none hw] at hr
    cases hr
theorem rowsOf_3 (ok : KOk ks) {w : Str} {r : Row} (hr : r ∈ rowsOf ks w) : r.2.length ≤ 3 ∧ ∀ p ∈ r.2, p ∈ succK ks w ∧ p ∈ nm6 ks := by
  refine ⟨?_, fun p hp => ?_⟩
  · by_cases hw : w ∈ kindNames ks
    · obtain ⟨k, hk, rfl⟩ := List.mem_map.mp hw
      rw [rowsOf_kind ok hk] at hr
      exact (ok.parts k hk r hr).1
    · rw [rowsOf_none hw] at hr
      cases hr
  · have : p ∈ succK ks w := List.mem_flatMap.mpr ⟨r, hr, hp⟩
    exact ⟨this, succ_names ok this⟩
theorem Reach.name (ok : KOk ks) {w p : Str} (h : Reach ks w p) : p ∈ nm6 ks := by
  cases h with
  | one h => exact succ_names ok h
  | more _ h => exact succ_names ok h
end
@[simp] theorem fmM_kv {α γ : Type} (f : D × D → Option (Option γ)) (kf : α → Str) (vf : α → D) (l : List α) : fmM f (kvOf kf vf l) = fmM (fun x => f (.str (kf x), vf x)) l := by unfold kvOf; rw [fmM_map]
/-- found, as a dict -/
abbrev fD (F : List Str) : List (D × D) := kvOf (fun s : Str => s) (fun _ => .bool true) F
theorem dput_fD (k : Str) : ∀ F : List Str, Mp.dput (fD F) k (.bool true) = fD (if k ∈ F then F else F ++ [k])
  | [] => rfl
  | x :: F => by
    have ih := dput_fD k F
    have e : fD (x :: F) = (.str x, .bool true) :: fD F := rfl
    rw [e, Mp.dput]
    by_cases h : x = k
    · subst h
      rw [if_pos rfl, if_pos List.mem_cons_self]
      rfl
    · rw [if_neg h, ih]
      by_cases h' : k ∈ F
      · rw [if_pos h', if_pos (List.mem_cons_of_mem _ h')]; rfl
      · rw [if_neg h', if_neg (by simp [h', Ne.symm h])]; rfl
def addAll (F ps : List Str) : List Str := ps.foldl (fun F k => if k ∈ F then F else F ++ [k]) F
theorem addAll_mem : ∀ (ps F : List Str) (p : Str), p ∈ addAll F ps ↔ p ∈ F ∨ p ∈ ps
  | [], F, p => by simp [addAll]
  | x :: ps, F, p => by
    have := addAll_mem ps (if x ∈ F then F else F ++ [x]) p
    unfold addAll at this ⊢
    rw [List.foldl_cons, this]
    by_cases h : x ∈ F
    · rw [if_pos h]
      simp only [List.mem_cons]
      constructor
      · rintro (h1 | h1) <;> simp [h1]
      · rintro (h1 | h1 | h1)
        · exact .inl h1
        · exact .inl (h1 ▸ h)
        · exact .inr h1
    · rw [if_neg h]
      simp [or_assoc]
theorem addAll_nd : ∀ (ps F : List Str), F.Nodup → (addAll F ps).Nodup
  | [], F, h => h
  | x :: ps, F, h => by
    unfold addAll
    rw [List.foldl_cons]
    refine addAll_nd ps _ ?_
    split
    · exact h
    · rename_i hn
      rw [List.nodup_append]
      refine ⟨h, by simp, fun a ha b hb => ?_⟩
      simp at hb
      subst hb
      rintro rfl
      exact hn ha
theorem mkDict_fD : ∀ (ps F : List Str), (ps.map fun p => (p, PyData.bool true)).foldl (fun kvs q => Mp.dput kvs q.1 q.2) (fD F) = fD (addAll F ps)
  | [], F => rfl
  | x :: ps, F => by
    rw [List.map_cons, List.foldl_cons, dput_fD]
    exact mkDict_fD ps _
theorem mergeD_fD : ∀ (G F : List Str), mergeD (fD F) (fD G) = fD (addAll F G)
  | [], F => rfl
  | x :: G, F => by
    have e : fD (x :: G) = (.str x, .bool true) :: fD G := rfl
    rw [e, mergeD, dput_fD]
    exact mergeD_fD G _
theorem strKs_fD : ∀ G : List Str, strKs (fD G) = true
  | [] => rfl
  | x :: G => strKs_fD G
theorem in_fD (F : List Str) (w : Str) : (Mp.dget (fD F) w).isSome = decide (w ∈ F) := by
  have := find_isSome (fun s : Str => s) w F
  rw [dget_kv, Option.isSome_map, this]
  simp
end Mh

/-! what parts lead to: the walks -/
namespace Mh
open PySem L2 Mp Mg

section
variable {P : List FD} {wf n : Nat} {ks : KS}
theorem led_to_ok (pk : PK2 P) (h29 : P[29]? = some Mf.fd_led_to) (ok : KOk ks) (hwf : 100 < wf) (w : Str) : ∃ F : List Str, fnC (run P wf (n + 2)) 29 [ksD ks, .str w] = some (.dict (fD F)) ∧ F.Nodup ∧ ∀ p, p ∈ F ↔ Reach ks w p := by
  have f24 := fm_of pk.h24
  have mi := fun x => makers_in_ok pk (wf := wf) (n := n) ok x
  have key : ∃ d, fnC (run P wf (n + 2)) 29 [ksD ks, .str w] = some d ∧ ∃ F : List Str, d = .dict (fD F) ∧ F.Nodup ∧ ∀ p, p ∈ F ↔ Reach ks w p := by
    refine run_fnE h29 rfl ?_
    simp only [Mf.fd_led_to, List.map, List.length, List.replicate]
    refine B_own ?_
    simp [mkDict]
    refine B_own ?_
    simp
    have l5 := ok.len.2
    refine B_whl (fun k r => ∃ F W, Led ks w F W none k ∧ F.Nodup ∧ k ≤ 30 ∧ r = [some (ksD ks), some (.str w), some (.dict (fD F)), some (.list (sD W)), none, none, none]) (ks.length * 3 + 4) (by simp; omega) ⟨[], [w], Led.start ks w, List.nodup_nil, by omega, by simp [kvOf, sD]⟩ ?_
    rintro k r ⟨F, W, hL, nd, hk, rfl⟩
    simp
    rcases List.eq_nil_or_concat W with rfl | ⟨W0, x, hW⟩
    · simp [sD]
      refine B_reti ?_
      simp [ev, evs, varV, varE, plainV, asT, asI, View.o, binE, idxE, slcE, primE, osV, resAll, Op.res, notE, andE, orE, listE, esV, asV, Mp.callWith, refsOf, arAll, Ar.res, outs, Mp.get, Mp.put, Mp.wipe, Mp.assign, Mp.assign.go, Mp.seq?, Ec.mode]
      exact ⟨F, rfl, nd, hL.done⟩
    · rw [List.concat_eq_append] at hW
      subst hW
      obtain ⟨hP, hx, hk0⟩ := hL.pop
      have e1 : sD (W0 ++ [x]) = sD W0 ++ [.str x] := by simp [sD]
      have e2 : sD (W0 ++ [x]) ≠ [] := by simp [e1]
      simp [e2]
      have src : (ev (ecOf P wf (n + 1) [Md.fz, Md.fz, Md.ow, Md.ow, Md.fz, Md.fz, Md.fz]) (E.call 24 [E.var 0, E.pop 3])).i [some (ksD ks), some (.str w), some (.dict (fD F)), some (.list (sD (W0 ++ [x]))), none, none, none] =
          some (⟨(rowsOf ks x).map rowD, none⟩, [some (ksD ks), some (.str w), some (.dict (fD F)), some (.list (sD W0)), none, none, none]) := by
        have m1 := mi x
        unfold fnC at m1
        obtain ⟨⟨d, os⟩, m2, m3⟩ := bind_some m1
        split at m3
        · cases m3
          rename_i hl
          simp at hl
          have o1 := outs_val [some (ksD ks), some (.str w), some (.dict (fD F)), some (.list (sD W0)), none, none, none] [ksD ks, .str x] os
          simp only [List.map_cons, List.map_nil] at o1
          simp [ev, evs, varV, varE, plainV, asT, asI, View.o, binE, idxE, slcE, primE, osV, resAll, Op.res, notE, andE, orE, listE, esV, asV, Mp.callWith, refsOf, arAll, Ar.res, outs, Mp.get, Mp.put, Mp.wipe, Mp.assign, Mp.assign.go, Mp.seq?, Ec.mode, popE, f24, Mf.fd_makers_in, e1, m2, hl, rowsD, itsOf, o1]
        · cases m3
      refine B_forG (rowsOf ks x) rowD (fun pre r => ∃ F W, Led ks w F W (some x) (k - 1) ∧ (x = w ∨ x ∈ F) ∧ F.Nodup ∧ (∀ r ∈ pre, ∀ p ∈ r.2, p ∈ F) ∧ r = [some (ksD ks), some (.str w), some (.dict (fD F)), some (.list (sD W)), none, none, none]) src rfl rfl (fun _ _ _ => rfl) ⟨F, W0, hP, hx, nd, by simp, by simp⟩ ?_ ?_
      · rintro pre rw post r hr ⟨F, W, hL, hx, nd, hp, rfl⟩
        obtain ⟨h3, hs⟩ := rowsOf_3 ok (w := x) (r := rw) (by rw [hr]; simp)
        simp
        have lW : W.length ≤ 30 := by have := hL.ms; omega
        have lF : F.length ≤ 6 := by
          have := nodup_len nd fun p hp => (hL.rch p hp).2
          simp at this
          omega
        have l1 : (rw.2.filter fun p => !decide (p ∈ F)).length ≤ 3 := Nat.le_trans (List.length_filter_le _ _) h3
        have l2 : (rw.2.filter fun p => !decide (p ∈ F)).length ≤ sizeLine := by simp [sizeLine]; omega
        have l3 : W.length + (rw.2.filter fun p => !decide (p ∈ F)).length ≤ sizeLine := by simp [sizeLine]; omega
        have l4 : rw.2.length ≤ sizeLine := by simp [sizeLine]; omega
        have hf : (rw.2.filter fun p => decide (Mp.dget (fD F) p = none)) = rw.2.filter fun p => !decide (p ∈ F) := by
          congr
          funext p
          have := in_fD F p
          cases h : Mp.dget (fD F) p <;> rw [h] at this <;> simp at this <;> simp [this]
        have e3 : ((rw.2.filter fun p => !decide (p ∈ F)).map fun p => PyData.str p) = sD (rw.2.filter fun p => !decide (p ∈ F)) := rfl
        have e4 : (sD W ++ sD (rw.2.filter fun p => !decide (p ∈ F))) = sD (W ++ rw.2.filter fun p => !decide (p ∈ F)) := by simp [sD]
        refine B_ext ?_
        simp [hf, l2, l3, e3, e4]
        have e5 : mkDict (rw.2.map fun p => (p, PyData.bool true)) = fD (addAll [] rw.2) := mkDict_fD rw.2 []
        have l5 : (fD F).length + (fD (addAll [] rw.2)).length ≤ sizeLine := by
          have nd2 := addAll_nd rw.2 [] List.nodup_nil
          have : (addAll [] rw.2).length ≤ rw.2.length := nodup_len nd2 fun p hp => by simpa using (addAll_mem rw.2 [] p).mp hp
          simp [kvOf, sizeLine]
          omega
        refine B_upd ?_
        simp [l4, e5, l5, strKs_fD, mergeD_fD]
        refine B_nil ⟨addAll F (addAll [] rw.2), _, hL.step hx h3 hs fun p => ?_, hx.imp id fun h => ?_, addAll_nd _ _ nd, ?_, by simp⟩
        · rw [addAll_mem, addAll_mem]; simp
        · rw [addAll_mem]; exact .inl h
        · intro a b hr p hp'
          rw [addAll_mem, addAll_mem]
          rcases hr with h | h
          · exact .inl (hp (a, b) h p hp')
          · rw [← h]; exact .inr (.inr hp')
      · rintro r ⟨F, W, hL, hx, nd, hp, rfl⟩
        refine B_nil ?_
        simp
        refine ⟨k - 1, by omega, F, W, hL.turn fun p hp' => ?_, nd, by omega, rfl, rfl⟩
        obtain ⟨r, hr, hp'⟩ := List.mem_flatMap.mp hp'
        exact hp r hr p hp'
  obtain ⟨d, e, F, rfl, h1, h2⟩ := key
  exact ⟨F, e, h1, h2⟩
open Classical in
theorem is_finite_ok (pk : PK2 P) (h29 : P[29]? = some Mf.fd_led_to) (h30 : P[30]? = some Mf.fd_is_finite) (ok : KOk ks) (hwf : 100 < wf) {w : Str} (hw : w = "mark" ∨ w ∈ kindNames ks) : fnC (run P wf (n + 6)) 30 [ksD ks, .str w] = some (.bool (decide (Fin' ks w))) := by
  have f22 := fm_of pk.h22
  have f29 := fm_of h29
  have p1 := need_kind_ok pk (wf := wf) (n := n) ok hw
  have led := fun w => led_to_ok (wf := wf) (n := n + 3) pk h29 ok hwf w
  obtain ⟨F, hF, nd, mF⟩ := led w
  refine run_fn h30 rfl ?_
  simp only [Mf.fd_is_finite, List.map, List.length, List.replicate]
  refine B_exp ?_
  simp [f22, Mf.fd_need_kind, p1]
  refine B_set ?_
  simp [f29, Mf.fd_led_to, hF]
  have m1 := in_fD F "mark"
  have m2 := in_fD F w
  refine B_ite ?_
  simp [m1, m2]
  by_cases hm : w = "mark"
  · simp [hm]
    refine B_ret ?_
    simp
    exact fun h => h.1 rfl
  · by_cases h1 : ("mark" : Str) ∈ F
    · simp [h1]
      refine B_ret ?_
      simp
      exact fun h => absurd ((mF _).mp h1) h.2.1
    · by_cases h2 : w ∈ F
      · simp [h1, h2]
        refine B_ret ?_
        simp
        exact fun h => absurd ((mF _).mp h2) h.2.2.1
      · simp [hm, h1, h2]
        refine B_ret ?_
        simp
        have lF : F.length ≤ 6 := by
          have := nodup_len nd fun p hp => ((mF p).mp hp).name ok
          have := ok.len.2
          simp at *
          omega
        have l2 : F.length ≤ sizeLine := by simp [sizeLine]; omega
        rw [fmM_congr (g := fun p : Str => some (some (.bool (!decide (Reach ks p p)))))]
        · simp [l2]
          rw [Bool.eq_iff_iff]
          simp only [List.all_eq_true, Bool.not_eq_true', decide_eq_false_iff_not, decide_eq_true_eq]
          constructor
          · intro h
            exact ⟨hm, fun z => h1 ((mF _).mpr z), fun z => h2 ((mF _).mpr z), fun p hp => h p ((mF _).mpr hp)⟩
          · intro h p hp
            exact h.2.2.2 p ((mF _).mp hp)
        · intro p hp
          obtain ⟨G, hG, _, mG⟩ := led p
          have m3 := in_fD G p
          simp [hG, f29, Mf.fd_led_to, m3]
          by_cases hr : Reach ks p p
          · have := (mG p).mpr hr
            simp [hr, this]
          · have : p ∉ G := fun z => hr ((mG p).mp z)
            simp [hr, this]
end
end Mh

/-! what parts lead to: the law's own walk -/
namespace Mh
open PySem L2 Mp Mg

@[simp] theorem notin_sD (w : Str) (ss : List Str) : Mp.cmp .NotIn (.str w) (.list (sD ss)) = some (.bool (!decide (w ∈ ss))) := by
  have h := in_sD w ss
  rw [cmp_in _ _ fun _ _ _ _ => trivial] at h
  obtain ⟨b, e1, e2⟩ := Option.map_eq_some_iff.mp h
  cases e2
  show (Mp.inL _ _).map _ = _
  rw [e1]
  rfl
section
variable {P : List FD} {wf n : Nat} {ks : KS}
theorem rowsOf_in (ok : KOk ks) {x p : Str} (h : p ∈ succK ks x) : ∃ k ∈ ks, k.1 = x ∧ ∃ r ∈ k.2, p ∈ r.2 := by
  obtain ⟨r, hr, hp⟩ := List.mem_flatMap.mp h
  by_cases hw : x ∈ kindNames ks
  · obtain ⟨k, hk, rfl⟩ := List.mem_map.mp hw
    rw [rowsOf_kind ok hk] at hr
    exact ⟨k, hk, rfl, r, hr, hp⟩
  · rw [rowsOf_none hw] at hr
    cases hr
def IL1 (ks : KS) (w x : Str) (k : Nat) (pre : KS) (r : Mp.Env) : Prop := ∃ F W, Led ks w F W (some x) (k - 1) ∧ (x = w ∨ x ∈ F) ∧ F.length + 3 * un ks F ≤ 18 ∧ (∀ kd ∈ pre, kd.1 = x → ∀ r ∈ kd.2, ∀ p ∈ r.2, p ∈ F) ∧ r = [some (ksD ks), some (.str w), some (.list (sD F)), some (.list (sD W)), some (.str x), none, none, none, none, none]
def IL2 (ks : KS) (w x : Str) (k : Nat) (pre : KS) (kd : Mg.Kind) (pr : List Row) (r : Mp.Env) : Prop := ∃ F W, Led ks w F W (some x) (k - 1) ∧ (x = w ∨ x ∈ F) ∧ F.length + 3 * un ks F ≤ 18 ∧ (∀ kd ∈ pre, kd.1 = x → ∀ r ∈ kd.2, ∀ p ∈ r.2, p ∈ F) ∧ (kd.1 = x → ∀ r ∈ pr, ∀ p ∈ r.2, p ∈ F) ∧ r = [some (ksD ks), some (.str w), some (.list (sD F)), some (.list (sD W)), some (.str x), some (.str kd.1), some (rowsD kd.2), none, none, none]
theorem law_led_ok (h31 : P[31]? = some Mf.fd__law_led) (ok : KOk ks) (hwf : 100 < wf) (w : Str) : ∃ F : List Str, fnC (run P wf (n + 1)) 31 [ksD ks, .str w] = some (.list (sD F)) ∧ F.length ≤ 18 ∧ ∀ p, p ∈ F ↔ Reach ks w p := by
  have key : ∃ d, fnC (run P wf (n + 1)) 31 [ksD ks, .str w] = some d ∧ ∃ F : List Str, d = .list (sD F) ∧ F.length ≤ 18 ∧ ∀ p, p ∈ F ↔ Reach ks w p := by
    refine run_fnE h31 rfl ?_
    simp only [Mf.fd__law_led, List.map, List.length, List.replicate]
    refine B_own ?_
    simp
    refine B_own ?_
    simp
    have l5 := ok.len.2
    refine B_whl (fun k r => ∃ F W, Led ks w F W none k ∧ F.length + 3 * un ks F ≤ 18 ∧ k ≤ 30 ∧ r = [some (ksD ks), some (.str w), some (.list (sD F)), some (.list (sD W)), none, none, none, none, none, none]) (ks.length * 3 + 4) (by simp; omega) ⟨[], [w], Led.start ks w, by rw [un_nil]; simp; omega, by omega, by simp [sD]⟩ ?_
    rintro k r ⟨F, W, hL, nd, hk, rfl⟩
    simp
    rcases List.eq_nil_or_concat W with rfl | ⟨W0, x, hW⟩
    · simp [sD]
      refine B_reti ?_
      simp [ev, evs, varV, varE, plainV, asT, asI, View.o, binE, idxE, slcE, primE, osV, resAll, Op.res, notE, andE, orE, listE, esV, asV, Mp.callWith, refsOf, arAll, Ar.res, outs, Mp.get, Mp.put, Mp.wipe, Mp.assign, Mp.assign.go, Mp.seq?, Ec.mode]
      exact ⟨F, rfl, by omega, hL.done⟩
    · rw [List.concat_eq_append] at hW
      subst hW
      obtain ⟨hP, hx, hk0⟩ := hL.pop
      have e1 : sD (W0 ++ [x]) = sD W0 ++ [.str x] := by simp [sD]
      have e2 : sD (W0 ++ [x]) ≠ [] := by simp [e1]
      simp [e2]
      refine B_seti ?_
      simp [ev, evs, varV, varE, plainV, asT, asI, View.o, binE, idxE, slcE, primE, osV, resAll, Op.res, notE, andE, orE, listE, esV, asV, Mp.callWith, refsOf, arAll, Ar.res, outs, Mp.get, Mp.put, Mp.wipe, Mp.assign, Mp.assign.go, Mp.seq?, Ec.mode, popE, e1]
      refine B_for ks kindD (IL1 ks w x k) (by simp) (by simp) ⟨F, W0, hP, hx, nd, by simp, by simp⟩ ?_ ?_
      · rintro pre kd post r hks ⟨F, W, hL, hx, nd, hp, rfl⟩
        have hkd : kd ∈ ks := by rw [hks]; simp
        simp
        refine B_for kd.2 rowD (IL2 ks w x k pre kd) (by simp) (by simp) ⟨F, W, hL, hx, nd, hp, by simp, by simp⟩ ?_ ?_
        · rintro pr rw po r hr ⟨F, W, hL, hx, nd, hp, hq, rfl⟩
          simp
          by_cases he : kd.1 = x
          · have hrw : rw ∈ rowsOf ks x := by rw [← he, rowsOf_kind ok hkd, hr]; simp
            obtain ⟨h3, hs⟩ := rowsOf_3 ok hrw
            have lW : W.length ≤ 30 := by have := hL.ms; omega
            have l1 : (rw.2.filter fun p => !decide (p ∈ F)).length ≤ 3 := Nat.le_trans (List.length_filter_le _ _) h3
            have l2 : (rw.2.filter fun p => !decide (p ∈ F)).length ≤ sizeLine := by simp [sizeLine]; omega
            have l3 : W.length + (rw.2.filter fun p => !decide (p ∈ F)).length ≤ sizeLine := by simp [sizeLine]; omega
            have l4 : F.length + (rw.2.filter fun p => !decide (p ∈ F)).length ≤ sizeLine := by simp [sizeLine]; omega
            have e3 : ((rw.2.filter fun p => !decide (p ∈ F)).map fun p => PyData.str p) = sD (rw.2.filter fun p => !decide (p ∈ F)) := rfl
            have e4 : ∀ W : List Str, (sD W ++ sD (rw.2.filter fun p => !decide (p ∈ F))) = sD (W ++ rw.2.filter fun p => !decide (p ∈ F)) := fun W => by simp [sD]
            have hF' : ∀ p, p ∈ F ++ rw.2.filter (fun p => !decide (p ∈ F)) ↔ p ∈ F ∨ p ∈ rw.2 := fun p => by
              by_cases h : p ∈ F <;> simp [h]
            refine B_ite ?_
            simp [he]
            refine B_ext ?_
            simp [l2, l3, e3, e4]
            refine B_ext ?_
            simp [l2, l4, e3, e4]
            refine B_nil ⟨_, _, hL.step hx h3 hs hF', hx.imp id fun h => List.mem_append_left _ h, ?_, fun kd' hk' h r hr p hp' => List.mem_append_left _ (hp kd' hk' h r hr p hp'), fun h r hr p hp' => ?_, by simp [he]⟩
            · rw [List.length_append]
              have hsub : ∀ p ∈ F, p ∈ F ++ rw.2.filter (fun p => !decide (p ∈ F)) := fun p hp => List.mem_append_left _ hp
              obtain ⟨u1, u2⟩ := un_le (ks := ks) hsub
              by_cases hn : (rw.2.filter fun p => !decide (p ∈ F)) = []
              · rw [hn]; simp; omega
              · obtain ⟨p, hp⟩ := List.exists_mem_of_ne_nil _ hn
                obtain ⟨p1, p2⟩ := List.mem_filter.mp hp
                have := u2 p (hs p p1).2 (by simpa using p2) (List.mem_append_right _ hp)
                omega
            · rcases List.mem_append.mp hr with h' | h'
              · exact List.mem_append_left _ (hq h r h' p hp')
              · simp at h'; subst h'; exact (hF' p).mpr (.inr hp')
          · refine B_ite ?_
            simp [he]
            refine B_nil ⟨F, W, hL, hx, nd, hp, fun h => absurd h he, by simp⟩
        · rintro r ⟨F, W, hL, hx, nd, hp, hq, rfl⟩
          refine B_nil ⟨F, W, hL, hx, nd, fun kd' hk' h => ?_, by simp⟩
          rcases List.mem_append.mp hk' with h' | h'
          · exact hp kd' h' h
          · simp at h'; subst h'; exact hq h
      · rintro r ⟨F, W, hL, hx, nd, hp, rfl⟩
        refine B_nil ⟨k - 1, by omega, F, W, hL.turn fun p hp' => ?_, nd, by omega, by simp⟩
        obtain ⟨kd, h1, h2, r, h3, h4⟩ := rowsOf_in ok hp'
        exact hp kd h1 h2 r h3 p h4
  obtain ⟨d, e, F, rfl, h1, h2⟩ := key
  exact ⟨F, e, h1, h2⟩
open Classical in
theorem law_ends_ok (h31 : P[31]? = some Mf.fd__law_led) (h32 : P[32]? = some Mf.fd__law_ends) (ok : KOk ks) (hwf : 100 < wf) (w : Str) : fnC (run P wf (n + 2)) 32 [ksD ks, .str w] = some (.bool (decide (Fin' ks w))) := by
  have f31 := fm_of h31
  have led := fun w => law_led_ok (wf := wf) (n := n) h31 ok hwf w
  obtain ⟨F, hF, lF, mF⟩ := led w
  have l1 : F.length + 1 ≤ sizeLine := by simp [sizeLine]; omega
  have e1 : sD F ++ [PyData.str w] = sD (F ++ [w]) := by simp [sD]
  refine run_fn h32 rfl ?_
  simp only [Mf.fd__law_ends, List.map, List.length, List.replicate]
  refine B_set ?_
  simp [f31, Mf.fd__law_led, hF, l1, e1]
  refine B_ite ?_
  simp
  by_cases hm : ("mark" : Str) ∈ F ∨ ("mark" : Str) = w
  · simp [hm]
    refine B_ret ?_
    simp
    rintro ⟨h1, h2, _⟩
    rcases hm with h | h
    · exact h2 ((mF _).mp h)
    · exact h1 h.symm
  · simp [hm]
    refine B_ret ?_
    simp
    rw [fmM_congr (g := fun p : Str => if Reach ks p p then some (some (.str p)) else some none)]
    · have l2 : ((F ++ [w]).filter fun p => decide (Reach ks p p)).length ≤ sizeLine := Nat.le_trans (List.length_filter_le _ _) (by simpa using l1)
      simp only [fmM_if, OB_some, l2, List.length_map, true_and]
      rw [not_or] at hm
      rw [eq_nil (plain_strs (fun s => s) _)]
      simp only [OB_some, PyData.bool.injEq]
      rw [Bool.eq_iff_iff]
      simp
      constructor
      · rintro ⟨h1, h2⟩
        exact ⟨fun z => hm.2 z.symm, fun z => hm.1 ((mF _).mpr z), h2, fun p hp => h1 p ((mF p).mpr hp)⟩
      · rintro ⟨h1, h2, h3, h4⟩
        exact ⟨fun p hp => h4 p ((mF p).mp hp), h3⟩
    · intro p hp
      obtain ⟨G, hG, _, mG⟩ := led p
      simp [hG, f31, Mf.fd__law_led]
      by_cases hr : Reach ks p p
      · have := (mG p).mpr hr
        simp [hr, this]
      · have : p ∉ G := fun z => hr ((mG p).mp z)
        simp [hr, this]
end
end Mh

/-! written kinds, looked at -/
namespace Mh
open PySem L2 Mp Mg

def nameB (w : Str) : Bool := decide (1 ≤ w.cps.toList.length) && decide (w.cps.toList.length ≤ 8) && w.cps.toList.all (fun c => decide (97 ≤ c) && decide (c ≤ 122)) && decide (w ∉ noWords)
theorem nameB_ok {w : Str} (h : nameB w = true) : Named w := by
  simp only [nameB, Bool.and_eq_true, decide_eq_true_eq, List.all_eq_true] at h
  obtain ⟨⟨⟨h1, h2⟩, h3⟩, h4⟩ := h
  exact ⟨w.cps.toList, by cases w; rfl, h1, h2, fun c hc => h3 c hc, h4⟩
/-- kinds, by an order in which each has a maker of kinds ahead of it -/
def okB (ks : KS) (rk : Str → Nat) : Bool := decide (1 ≤ ks.length) && decide (ks.length ≤ 5) && ks.all (fun k => decide (1 ≤ k.2.length) && decide (k.2.length ≤ 4) && k.2.all fun r => decide (r.2.length ≤ 3) && r.2.all fun p => decide (p = "mark" ∨ p ∈ kindNames ks)) &&
  decide (kindNames ks ++ makers ks).Nodup && (kindNames ks ++ makers ks).all nameB && ks.all (fun k => decide (rk k.1 < ks.length) && k.2.any fun r => r.2.all fun p => decide (p = "mark" ∨ (p ∈ kindNames ks ∧ rk p < rk k.1)))
theorem okB_ok {ks : KS} (rk : Str → Nat) (h : okB ks rk = true) : KOk ks := by
  simp only [okB, Bool.and_eq_true, decide_eq_true_eq, List.all_eq_true, List.any_eq_true] at h
  obtain ⟨⟨⟨⟨⟨h1, h2⟩, h3⟩, h4⟩, h5⟩, h6⟩ := h
  exact ⟨⟨h1, h2⟩, fun k hk => (h3 k hk).1, fun k hk r hr => (h3 k hk).2 r hr, h4, fun w hw => nameB_ok (h5 w hw), rk, fun k hk => (h6 k hk).1, fun k hk => by
    obtain ⟨r, hr, hp⟩ := (h6 k hk).2
    exact ⟨r, hr, fun p hp' => hp p hp'⟩⟩
/-- the place of a name in a row -/
def ixIn (l : List Str) (w : Str) : Nat := l.findIdx fun x => decide (x = w)
theorem Lz_small {ks : KS} (ok : KOk ks) {p : Str} (hp : p = "mark" ∨ p ∈ kindNames ks) : Lz ks p ≤ 1024 := by
  have key : ∀ n p, p ∈ kindNames ks → rkL ks p ≤ n → Lz ks p ≤ 4 ^ (n + 1) := fun n => by
    induction n with
    | zero =>
      intro p hp hl
      obtain ⟨k, hk, rfl⟩ := List.mem_map.mp hp
      obtain ⟨r, hr, e⟩ := Lz_eq ok hk
      have h3 := (ok.parts k hk r hr).1
      have h1 : ∀ l : List Str, (∀ p ∈ l, Lz ks p ≤ 1) → (l.map (Lz ks)).sum ≤ l.length := fun l => by
        induction l with
        | nil => intro _; simp
        | cons x xs ih =>
          intro h
          have a := h x List.mem_cons_self
          have b := ih fun y hy => h y (List.mem_cons_of_mem _ hy)
          simp only [List.map_cons, List.sum_cons, List.length_cons]
          omega
      have := h1 r.2 fun p hp => by
        rcases (ok.parts k hk r hr).2 p hp with rfl | hpn
        · rw [Lz_mark]; exact Nat.le_refl _
        · have := rkL_lt hpn (part_less ok hk hr e hp); omega
      omega
    | succ n ih =>
      intro p hp hl
      obtain ⟨k, hk, rfl⟩ := List.mem_map.mp hp
      obtain ⟨r, hr, e⟩ := Lz_eq ok hk
      have h3 := (ok.parts k hk r hr).1
      have h1 : ∀ l : List Str, (∀ p ∈ l, Lz ks p ≤ 4 ^ (n + 1)) → (l.map (Lz ks)).sum ≤ l.length * 4 ^ (n + 1) := fun l => by
        induction l with
        | nil => intro _; simp
        | cons x xs ih =>
          intro h
          have a := h x List.mem_cons_self
          have b := ih fun y hy => h y (List.mem_cons_of_mem _ hy)
          simp only [List.map_cons, List.sum_cons, List.length_cons, Nat.add_mul, Nat.one_mul]
          omega
      have pos : 0 < 4 ^ (n + 1) := Nat.pow_pos (by omega)
      have h4 := h1 r.2 fun p hp => by
        rcases (ok.parts k hk r hr).2 p hp with rfl | hpn
        · rw [Lz_mark]; exact pos
        · exact ih p hpn (by have := rkL_lt hpn (part_less ok hk hr e hp); omega)
      have h5 : r.2.length * 4 ^ (n + 1) ≤ 3 * 4 ^ (n + 1) := Nat.mul_le_mul_right _ h3
      have h6 : 4 ^ (n + 1 + 1) = 4 * 4 ^ (n + 1) := by rw [Nat.pow_succ, Nat.mul_comm]
      omega
  rcases hp with rfl | hp
  · rw [Lz_mark]; omega
  · have := key 4 p hp (by have := rkL_n hp; have := ok.len.2; omega)
    simpa using this
theorem repr_int {i : Int} (h0 : 0 ≤ i) (h : i < 10 ^ 10) : Mp.prim .repr [.int i] = some (.str (PyData.int i).shown) := by
  refine Sh.repr (w := 10) (k := 0) ⟨by simp [PyData.hasDict], ?_, by simp [chD], ?_, by simp [PyData.depth]⟩ (by simp [sizeLine]) (by omega)
  · simp only [PyData.showable, decide_eq_true_eq]
    by_cases z : i.natAbs = 0
    · rw [z]; decide
    · refine (Nat.log2_lt z).mpr (Nat.lt_of_lt_of_le (m := 10 ^ 10) (by omega) (by decide))
  · simp only [wt]
    exact PyProof.Rows.toString_length_le h0 (by decide) h
section
variable {P : List FD} {wf n : Nat} {ks : KS}
theorem law_right_ok (pk : PK2 P) (h13 : P[13]? = some Mf.fd__law_sizes) (h28 : P[28]? = some Mf.fd_least_size) (h29 : P[29]? = some Mf.fd_led_to) (h30 : P[30]? = some Mf.fd_is_finite) (h31 : P[31]? = some Mf.fd__law_led) (h32 : P[32]? = some Mf.fd__law_ends) (h33 : P[33]? = some Mf.fd__law_right)
    (ok : KOk ks) (hwf : 100 < wf) {w : Str} (hw : w = "mark" ∨ w ∈ kindNames ks) : fnC (run P wf (n + 7)) 33 [ksD ks, .str w] = some (.bool true) := by
  classical
  have f13 := fm_of h13
  have f28 := fm_of h28
  have f30 := fm_of h30
  have f32 := fm_of h32
  have p28 := least_size_ok pk h28 (wf := wf) (n := n) ok hw
  have p13 := law_sizes_ok h13 (wf := wf) (n := n + 5) ok.len.2 fun k hk => ⟨(ok.rows k hk).2, fun r hr => (ok.parts k hk r hr).1⟩
  have p30 := is_finite_ok pk h29 h30 (wf := wf) (n := n) ok hwf hw
  have p32 := law_ends_ok h31 h32 (wf := wf) (n := n + 4) ok hwf w
  obtain ⟨i1, i2⟩ := iter_is ok (n := ks.length + 1) (by omega) hw
  have sh := repr_int (i := (Lz ks w : Int)) (by omega) (by have := Lz_small ok hw; omega)
  generalize decide (Fin' ks w) = b at p30 p32
  refine run_fn h33 rfl ?_
  simp only [Mf.fd__law_right, List.map, List.length, List.replicate]
  refine B_for (List.range 2) (fun k => .int ((k : Nat) : Int)) (fun pre r => r = [some (ksD ks), some (.str w), none, none]) (rng_src (by simp) (by omega)) (by simp) (by simp) ?_ ?_
  · rintro pre k post r hk rfl
    simp
    refine B_ite ?_
    simp [f28, Mf.fd_least_size, p28, f13, Mf.fd__law_sizes, p13, dget_nums, i1, i2, sh]
    refine B_set ?_
    simp [f30, Mf.fd_is_finite, p30]
    refine B_ite ?_
    simp [f32, Mf.fd__law_ends, p32]
    refine B_nil ?_
    simp
  · rintro r rfl
    refine B_ret ?_
    simp
end
end Mh

/-! names, of any things -/
namespace Mh
open PySem L2 Mp Mg

/-- whether a thing is a name -/
def nameD : D → Bool
  | .str x => nameB x
  | _ => false
theorem nameB_is (x : Str) : nameB x = (decide (1 ≤ x.length) && decide (x.length ≤ 8) && !decide (x ∈ noWords) && x.cps.toList.all fun c => decide (97 ≤ c ∧ c ≤ 122)) := by
  unfold nameB
  have e : x.cps.toList.length = x.length := by simp [Str.length]
  rw [e]
  by_cases h : x ∈ noWords <;> simp [h]
def szS : D → Prop
  | .str x => x.length ≤ sizeLine
  | _ => True
theorem in_noWordsT (w : Str) : Mp.cmp .In (.str w) (.tuple [.str "mark", .str "part", .str "same", .str "test", .str "sum", .str "not", .str "both", .str "either"]) = some (.bool (decide (w ∈ noWords))) := by
  have e : Mp.cmp .In (.str w) (.tuple [.str "mark", .str "part", .str "same", .str "test", .str "sum", .str "not", .str "both", .str "either"]) = Mp.cmp .In (.str w) (.list [.str "mark", .str "part", .str "same", .str "test", .str "sum", .str "not", .str "both", .str "either"]) := by
    rw [cmp_in _ _ fun _ _ _ _ => trivial]
    rw [show ∀ ds : List D, Mp.cmp .In (.str w) (.tuple ds) = (Mp.inT (.str w) ds).map PyData.bool from fun ds => by simp [Mp.cmp]]
    unfold Mp.inL Mp.inT
    rw [if_pos ⟨rfl, rfl⟩]
  rw [e, in_noWords]
theorem in_lettersB (c : Nat) : Mp.cmp .In (.str ⟨#[c]⟩) (.str "abcdefghijklmnopqrstuvwxyz") = some (.bool (decide (97 ≤ c ∧ c ≤ 122))) := by
  show some (PyData.bool (Mp.inStr _ _)) = _
  unfold Mp.inStr
  rw [StrLaws.found_one]
  congr 2
  have h : (("abcdefghijklmnopqrstuvwxyz" : String) : Str).cps.toList = List.range' 97 26 := by decide +kernel
  rw [h]
  simp only [List.mem_range'_1, decide_eq_decide]
  omega
theorem lt_one (a c : Nat) : ([a] < [c]) = (a < c) := by
  rw [List.cons_lt_cons_iff]
  simp [List.not_lt_nil]
theorem signs_a (c : Nat) : ((Str.ofString "a").cps.toList ≤ [c]) = (97 ≤ c) := by
  rw [show (Str.ofString "a").cps.toList = [97] from by decide +kernel]
  show (¬ ([c] < [97])) = _
  rw [lt_one]
  simp
theorem signs_z (c : Nat) : ((Str.ofString "z").cps.toList < [c]) = (122 < c) := by
  rw [show (Str.ofString "z").cps.toList = [122] from by decide +kernel]
  exact lt_one _ _
theorem lenS {x : Str} (h : x.length ≤ sizeLine) : Mp.prim .len [.str x] = some (.int x.length) := by
  show (if x.length ≤ sizeLine then some (PyData.int (x.length : Nat)) else none) = _
  rw [if_pos h]
theorem itsS {x : Str} (h : x.length ≤ sizeLine) : itsD (.str x) = some (x.cps.toList.map fun c => .str ⟨#[c]⟩) := by
  show (if x.length ≤ sizeLine then _ else none) = _
  rw [if_pos h]
section
variable {P : List FD} {wf n : Nat}
theorem is_name_ok (h1 : P[1]? = some Mf.fd_is_name) {d : D} (hd : szS d) : fnC (run P wf (n + 1)) 1 [d] = some (.bool (nameD d)) := by
  refine run_fn h1 rfl ?_
  simp only [Mf.fd_is_name, List.map, List.length, List.replicate]
  refine B_ite ?_
  cases d with
  | str x =>
    have hx : x.length ≤ sizeLine := hd
    have hl := lenS hx
    have hc : x.cps.toList.length ≤ sizeLine := by simpa [Str.length] using hx
    have i1 : ((1 : Int) ≤ (x.length : Int)) = (1 ≤ x.length) := by simp only [eq_iff_iff]; omega
    have i8 : ((x.length : Int) ≤ 8) = (x.length ≤ 8) := by simp only [eq_iff_iff]; omega
    by_cases a1 : 1 ≤ x.length
    · by_cases a2 : x.length ≤ 8
      · by_cases a3 : x ∈ noWords
        · simp [hl, i1, i8, in_noWordsT, a1, a2, a3, nameD, nameB_is]
          refine B_ret ?_
          simp
        · simp [hl, i1, i8, in_noWordsT, a1, a2, a3, nameD, nameB_is]
          refine B_ret ?_
          simp [itsS hx, in_lettersB]
          exact hx
      · simp [hl, i1, i8, a1, a2, nameD, nameB_is]
        refine B_ret ?_
        simp
    · simp [hl, i1, i8, a1, nameD, nameB_is]
      refine B_ret ?_
      simp
  | _ =>
    simp [isS, nameD, nameB_is]
    refine B_ret ?_
    simp
theorem law_words_ok (h8 : P[8]? = some Mf.fd__law_words) : fnC (run P wf (n + 1)) 8 [] = some (.list (sD noWords)) := by
  unfold fnC
  rw [run_eq h8]
  kernel_rfl
theorem law_is_name_ok (h8 : P[8]? = some Mf.fd__law_words) (h9 : P[9]? = some Mf.fd__law_is_name) {d : D} (hd : szS d) : fnC (run P wf (n + 2)) 9 [d] = some (.bool (nameD d)) := by
  have f8 := fm_of h8
  have p8 := law_words_ok h8 (wf := wf) (n := n)
  refine run_fn h9 rfl ?_
  simp only [Mf.fd__law_is_name, List.map, List.length, List.replicate]
  refine B_ite ?_
  cases d with
  | str x =>
    have hx : x.length ≤ sizeLine := hd
    have hl := lenS hx
    have hc : x.cps.toList.length ≤ sizeLine := by simpa [Str.length] using hx
    have i1 : ((1 : Int) ≤ (x.length : Int)) = (1 ≤ x.length) := by simp only [eq_iff_iff]; omega
    have i8 : ((x.length : Int) ≤ 8) = (x.length ≤ 8) := by simp only [eq_iff_iff]; omega
    by_cases a1 : 1 ≤ x.length
    · by_cases a2 : x.length ≤ 8
      · by_cases a3 : x ∈ noWords
        · simp [hl, i1, i8, f8, Mf.fd__law_words, p8, a1, a2, a3, nameD, nameB_is]
          refine B_ret ?_
          simp
        · simp [hl, i1, i8, f8, Mf.fd__law_words, p8, a1, a2, a3, nameD, nameB_is, -Array.all_toList]
          refine B_ret ?_
          simp [itsS hx, -Array.all_toList]
          rw [fmM_congr (g := fun c : Nat => if ¬ (97 ≤ c ∧ c ≤ 122) then some (some (.str ⟨#[c]⟩)) else some none) fun c _ => by
            simp only [signs_a, signs_z]
            by_cases e1 : 97 ≤ c
            · by_cases e2 : c ≤ 122 <;> simp [e1, e2]
            · simp [e1]]
          rw [fmM_if]
          have hf : (List.filter (fun c : Nat => decide ¬ (97 ≤ c ∧ c ≤ 122)) x.cps.toList).length ≤ sizeLine := Nat.le_trans (List.length_filter_le _ _) hc
          refine ⟨_, rfl, by rw [List.length_map]; exact hf, ?_⟩
          rw [eq_nil (plain_map fun _ _ => by simp)]
          refine ⟨_, rfl, ?_⟩
          congr 1
          generalize x.cps.toList = l
          rw [Bool.eq_iff_iff]
          simp
      · simp [hl, i1, i8, a1, a2, nameD, nameB_is]
        refine B_ret ?_
        simp
    · simp [hl, i1, i8, a1, nameD, nameB_is]
      refine B_ret ?_
      simp
  | _ =>
    simp [isS, nameD, nameB_is]
    refine B_ret ?_
    simp
end
end Mh

/-! pairs of names, of any things -/
namespace Mh
open PySem L2 Mp Mg

def pairD : D → Bool
  | .tuple [a, b] => nameD a && isT b
  | _ => false
theorem pairD_two (a b : D) : pairD (.tuple [a, b]) = (nameD a && isT b) := rfl
def pairsD (most : Nat) : D → Bool
  | .tuple ds => decide (1 ≤ ds.length ∧ ds.length ≤ most) && ds.all pairD
  | _ => false
theorem wt_mem : ∀ {ds : List D} {x : D}, x ∈ ds → wt x ≤ wts ds
  | d :: ds, x, h => by
    rw [wts]
    rcases List.mem_cons.mp h with rfl | h
    · omega
    · have := wt_mem h; omega
theorem wt_tup {ds : List D} {x : D} {w : Nat} (h : wt (.tuple ds) ≤ w) (hx : x ∈ ds) : wt x ≤ w := by
  have := wt_mem hx
  rw [wt] at h
  omega
theorem szS_of {d : D} (h : wt d ≤ sizeLine) : szS d := by
  cases d <;> try trivial
  rw [wt] at h
  show _ ≤ _
  omega
theorem len_pos (l : Nat) : ((1 : Int) ≤ (l : Int)) = (1 ≤ l) := by simp only [eq_iff_iff]; omega
theorem len_le (l m : Nat) : ((l : Int) ≤ (m : Int)) = (l ≤ m) := by simp only [eq_iff_iff]; omega
theorem no_pair {x : D} (h : ¬ ∃ a b, x = .tuple [a, b]) : pairD x = false ∧ (isT x = false ∨ ∃ ds : List D, x = .tuple ds ∧ ds.length ≠ 2) := by
  cases x with
  | tuple ds =>
    match ds with
    | [] => exact ⟨rfl, .inr ⟨_, rfl, by simp⟩⟩
    | [a] => exact ⟨rfl, .inr ⟨_, rfl, by simp⟩⟩
    | [a, b] => exact absurd ⟨a, b, rfl⟩ h
    | a :: b :: c :: t => exact ⟨rfl, .inr ⟨_, rfl, by simp⟩⟩
  | _ => exact ⟨rfl, .inl rfl⟩
section
variable {P : List FD} {wf n : Nat}
theorem are_pairs_ok (h1 : P[1]? = some Mf.fd_is_name) (h2 : P[2]? = some Mf.fd_are_pairs) {d : D} {most : Nat} (hd : wt d ≤ sizeLine) : fnC (run P wf (n + 2)) 2 [d, .int (most : Int)] = some (.bool (pairsD most d)) := by
  have f1 := fm_of h1
  refine run_fn h2 rfl ?_
  simp only [Mf.fd_are_pairs, List.map, List.length, List.replicate]
  refine B_ite ?_
  cases d with
  | tuple ds =>
    have i1 := len_pos ds.length
    have i8 := len_le ds.length most
    by_cases a1 : 1 ≤ ds.length
    · by_cases a2 : ds.length ≤ most
      · simp [i1, i8, a1, a2]
        refine B_for ds (fun d => d) (fun pre r => r = [some (.tuple ds), some (.int (most : Int)), none] ∧ pre.all pairD = true) (by simp) (by simp) (by simp) ?_ ?_
        · rintro pre x post r hx ⟨rfl, hp⟩
          have hxw : wt x ≤ sizeLine := wt_tup hd (by rw [hx]; simp)
          simp
          refine B_ite ?_
          by_cases hxx : ∃ a b, x = .tuple [a, b]
          · obtain ⟨a, b, rfl⟩ := hxx
            have p1 := is_name_ok h1 (wf := wf) (n := n) (szS_of (wt_tup hxw (x := a) (by simp)))
            cases hn : nameD a
            · simp [f1, Mf.fd_is_name, p1, hn]
              refine B_ret ?_
              simp [pairsD, hx, pairD, hn]
            · cases hb : isT b
              · simp [f1, Mf.fd_is_name, p1, hn, hb]
                refine B_ret ?_
                simp [pairsD, hx, pairD, hn, hb]
              · simp [f1, Mf.fd_is_name, p1, hn, hb]
                refine B_nil ?_
                simp [pairD_two, hn, hb]
                simpa using hp
          · obtain ⟨n1, n2⟩ := no_pair hxx
            rcases n2 with n2 | ⟨es, rfl, n2⟩
            · simp [n2]
              refine B_ret ?_
              simp [pairsD, hx, n1]
            · have n3 : ¬ (es.length : Int) = 2 := by omega
              simp [n3]
              refine B_ret ?_
              simp [pairsD, hx, n1]
        · rintro r ⟨rfl, hp⟩
          refine B_ret ?_
          simp [pairsD, a1, a2]
          simpa using hp
      · simp [i1, i8, a1, a2]
        refine B_ret ?_
        simp [pairsD, a2]
    · simp [i1, i8, a1]
      refine B_ret ?_
      simp [pairsD, a1]
  | _ =>
    simp [isT]
    refine B_ret ?_
    simp [pairsD]
end
end Mh

/-! kinds, of any things: what is asked -/
namespace Mh
open PySem L2 Mp Mg

abbrev RowA := Str × List D
abbrev KindA := Str × List RowA
abbrev KSA := List KindA
def rowA (r : RowA) : D := .tuple [.str r.1, .tuple r.2]
def kindA (k : KindA) : D := .tuple [.str k.1, .tuple (k.2.map rowA)]
def ksA (ka : KSA) : D := .tuple (ka.map kindA)
theorem rowA_inj {r r' : RowA} (h : rowA r = rowA r') : r = r' := by
  simp only [rowA, PyData.tuple.injEq, List.cons.injEq, PyData.str.injEq, and_true] at h
  exact Prod.ext h.1 h.2
theorem map_inj {α β : Type} {f : α → β} (hf : ∀ x y, f x = f y → x = y) : ∀ {a b : List α}, a.map f = b.map f → a = b
  | [], [], _ => rfl
  | [], _ :: _, h => by simp at h
  | _ :: _, [], h => by simp at h
  | x :: a, y :: b, h => by
    simp only [List.map_cons, List.cons.injEq] at h
    rw [hf _ _ h.1, map_inj hf h.2]
theorem kindA_inj {r r' : KindA} (h : kindA r = kindA r') : r = r' := by
  simp only [kindA, PyData.tuple.injEq, List.cons.injEq, PyData.str.injEq, and_true] at h
  exact Prod.ext h.1 (map_inj (fun _ _ => rowA_inj) h.2)
theorem ksA_inj {a b : KSA} (h : ksA a = ksA b) : a = b := by
  simp only [ksA, PyData.tuple.injEq] at h
  exact map_inj (fun _ _ => kindA_inj) h
structure GoodA (ka : KSA) : Prop where
  len : 1 ≤ ka.length ∧ ka.length ≤ 5
  nm : ∀ k ∈ ka, nameB k.1 = true
  rows : ∀ k ∈ ka, 1 ≤ k.2.length ∧ k.2.length ≤ 4
  rn : ∀ k ∈ ka, ∀ r ∈ k.2, nameB r.1 = true
def namesA (ka : KSA) : List Str := ka.map (·.1)
def rowsAll (ka : KSA) : List RowA := ka.flatMap (·.2)
def partIn (ss : List Str) : D → Bool
  | .str s => decide (s ∈ ss)
  | _ => false
def sOf : D → Str
  | .str s => s
  | _ => "" 
def toKS (ka : KSA) : KS := ka.map fun k => (k.1, k.2.map fun r => (r.1, r.2.map sOf))
def kindsA (ka : KSA) : Bool :=
  (rowsAll ka).all (fun r => decide (r.2.length ≤ 3)) && decide (namesA ka ++ (rowsAll ka).map (·.1)).Nodup && (rowsAll ka).all (fun r => r.2.all (partIn (namesA ka ++ [("mark" : Str)]))) && decide ((iterK (toKS ka) ka.length).length = ka.length + 1)
open Classical in
noncomputable def kindsD (d : D) : Bool := decide (∃ ka, GoodA ka ∧ d = ksA ka ∧ kindsA ka = true)
open Classical in
theorem kindsD_ksA {ka : KSA} (g : GoodA ka) : kindsD (ksA ka) = kindsA ka := by
  unfold kindsD
  cases h : kindsA ka with
  | true => exact decide_eq_true ⟨ka, g, rfl, h⟩
  | false =>
    refine decide_eq_false ?_
    rintro ⟨kb, _, e, h'⟩
    rw [← ksA_inj e, h] at h'
    cases h'
def rowOk3 : D → Bool
  | .tuple [a, .tuple ps] => nameD a && decide (ps.length ≤ 3)
  | _ => false
def kindOk3 : D → Bool
  | .tuple [a, .tuple rs] => nameD a && decide (1 ≤ rs.length ∧ rs.length ≤ 4) && rs.all rowOk3
  | _ => false
theorem nameD_str {a : D} (h : nameD a = true) : ∃ s, a = .str s ∧ nameB s = true := by
  cases a <;> simp [nameD] at h
  exact ⟨_, rfl, h⟩
theorem pairD_ok {x : D} (h : pairD x = true) : ∃ s ps, x = .tuple [.str s, .tuple ps] ∧ nameB s = true := by
  by_cases hx : ∃ a b, x = .tuple [a, b]
  · obtain ⟨a, b, rfl⟩ := hx
    rw [pairD_two, Bool.and_eq_true] at h
    obtain ⟨s, rfl, hs⟩ := nameD_str h.1
    cases b <;> simp [isT] at h
    exact ⟨s, _, rfl, hs⟩
  · rw [(no_pair hx).1] at h
    cases h
theorem rowOk3_ok {x : D} (h : rowOk3 x = true) : ∃ r : RowA, x = rowA r ∧ nameB r.1 = true ∧ r.2.length ≤ 3 := by
  unfold rowOk3 at h
  split at h
  · rw [Bool.and_eq_true] at h
    obtain ⟨s, rfl, hs⟩ := nameD_str h.1
    exact ⟨(s, _), rfl, hs, of_decide_eq_true h.2⟩
  · cases h
theorem all_map {α : Type} {p : α → Bool} {f : D → Bool} {g : α → D} (h : ∀ x, f x = true → ∃ a, x = g a ∧ p a = true) : ∀ {ds : List D}, ds.all f = true → ∃ as : List α, ds = as.map g ∧ as.all p = true
  | [], _ => ⟨[], rfl, rfl⟩
  | d :: ds, hd => by
    rw [List.all_cons, Bool.and_eq_true] at hd
    obtain ⟨a, rfl, pa⟩ := h d hd.1
    obtain ⟨as, rfl, pas⟩ := all_map h hd.2
    exact ⟨a :: as, rfl, by rw [List.all_cons, pa, pas]; rfl⟩
def okRow (r : RowA) : Bool := nameB r.1 && decide (r.2.length ≤ 3)
def okKind (k : KindA) : Bool := nameB k.1 && decide (1 ≤ k.2.length ∧ k.2.length ≤ 4) && k.2.all fun r => nameB r.1
def okKind3 (k : KindA) : Bool := nameB k.1 && decide (1 ≤ k.2.length ∧ k.2.length ≤ 4) && k.2.all okRow
theorem kindOk3_ok {x : D} (h : kindOk3 x = true) : ∃ k : KindA, x = kindA k ∧ okKind3 k = true := by
  unfold kindOk3 at h
  split at h
  · simp only [Bool.and_eq_true] at h
    obtain ⟨s, rfl, hs⟩ := nameD_str h.1.1
    obtain ⟨as, rfl, ha⟩ := all_map (p := okRow) (g := rowA) (fun x hx => by
      obtain ⟨r, rfl, h1, h2⟩ := rowOk3_ok hx
      exact ⟨r, rfl, by simp [okRow, h1, h2]⟩) h.2
    refine ⟨(s, as), rfl, ?_⟩
    simp only [okKind3, hs, Bool.true_and, Bool.and_eq_true]
    exact ⟨by simpa using h.1.2, ha⟩
  · cases h
theorem GoodA.of {ka : KSA} (h1 : 1 ≤ ka.length ∧ ka.length ≤ 5) (h : ka.all okKind = true) : GoodA ka := by
  simp only [List.all_eq_true, okKind, Bool.and_eq_true, decide_eq_true_eq] at h
  exact ⟨h1, fun k hk => (h k hk).1.1, fun k hk => (h k hk).1.2, fun k hk r hr => (h k hk).2 r hr⟩
theorem okKind_of3 {k : KindA} (h : okKind3 k = true) : okKind k = true := by
  simp only [List.all_eq_true, okKind, okKind3, okRow, Bool.and_eq_true, decide_eq_true_eq] at h ⊢
  exact ⟨h.1, fun r hr => (h.2 r hr).1⟩
open Classical in
/-- what is not of the form is no kinds -/
theorem kindsD_tuple {ds : List D} (h : kindsD (.tuple ds) = true) : (1 ≤ ds.length ∧ ds.length ≤ 5) ∧ ∀ x ∈ ds, kindOk3 x = true := by
  unfold kindsD at h
  obtain ⟨ka, g, e, hk⟩ := of_decide_eq_true h
  simp only [ksA, PyData.tuple.injEq] at e
  subst e
  refine ⟨by simpa using g.len, fun x hx => ?_⟩
  obtain ⟨k, hk', rfl⟩ := List.mem_map.mp hx
  simp only [kindsA, Bool.and_eq_true, List.all_eq_true, decide_eq_true_eq] at hk
  have h3 := hk.1.1.1
  have e1 := g.nm k hk'
  have e2 := g.rows k hk'
  simp only [kindA, kindOk3, nameD, e1, Bool.true_and, Bool.and_eq_true, List.length_map, decide_eq_true_eq, List.all_eq_true, List.mem_map, forall_exists_index, and_imp, forall_apply_eq_imp_iff₂]
  refine ⟨e2, fun r hr => ?_⟩
  simp only [rowA, rowOk3, nameD, g.rn k hk' r hr, Bool.true_and, decide_eq_true_eq]
  exact h3 r (List.mem_flatMap.mpr ⟨k, hk', hr⟩)
open Classical in
theorem kindsD_no {d : D} (h : isT d = false) : kindsD d = false := by
  unfold kindsD
  refine decide_eq_false ?_
  rintro ⟨ka, _, rfl, _⟩
  cases h
theorem kindsD_len {ds : List D} (h : ¬ (1 ≤ ds.length ∧ ds.length ≤ 5)) : kindsD (.tuple ds) = false := by
  cases e : kindsD (.tuple ds)
  · rfl
  · exact absurd (kindsD_tuple e).1 h
theorem kindsD_bad {ds : List D} {x : D} (hx : x ∈ ds) (h : kindOk3 x = false) : kindsD (.tuple ds) = false := by
  cases e : kindsD (.tuple ds)
  · rfl
  · have := (kindsD_tuple e).2 x hx
    rw [h] at this
    cases this
theorem toKS_len (ka : KSA) : (toKS ka).length = ka.length := by simp [toKS]
theorem toKS_names (ka : KSA) : kindNames (toKS ka) = namesA ka := by simp [kindNames, toKS, namesA]
theorem toKS_D {ka : KSA} (h : ∀ r ∈ rowsAll ka, ∀ p ∈ r.2, isS p = true) : ksA ka = ksD (toKS ka) := by
  unfold ksA ksD toKS
  rw [List.map_map]
  congr 1
  refine List.map_congr_left fun k hk => ?_
  simp only [Function.comp_apply, kindA, kindD, rowsD, List.map_map]
  congr 4
  refine List.map_congr_left fun r hr => ?_
  simp only [Function.comp_apply, rowA, rowD, sD, List.map_map]
  congr 4
  have : ∀ p ∈ r.2, PyData.str (sOf p) = p := fun p hp => by
    have := h r (List.mem_flatMap.mpr ⟨k, hk, hr⟩) p hp
    cases p <;> simp [isS] at this
    rfl
  have e : r.2.map (PyData.str ∘ sOf) = r.2.map id := List.map_congr_left this
  rw [e, List.map_id]
/-! the keys of the least sizes settle -/
def keyStep (l : List Str) (k : Mg.Kind) : List Str := if (k.2.any fun r => r.2.all fun p => decide (p ∈ l)) = true then (if k.1 ∈ l then l else l ++ [k.1]) else l
theorem keys_stepK (al : List (Str × Int)) (k : Mg.Kind) : keys (stepK al k) = keyStep (keys al) k := by
  unfold stepK keyStep
  have e : (rowsIn al k = []) = ¬ ((k.2.any fun r => r.2.all fun p => decide (p ∈ keys al)) = true) := by
    unfold rowsIn
    rw [List.filter_eq_nil_iff]
    simp
  by_cases h : rowsIn al k = []
  · rw [if_pos h, if_neg (by rwa [e] at h)]
  · rw [if_neg h, if_pos (by rw [e] at h; exact Decidable.not_not.mp h)]
    show (sput al k.1 _).map (·.1) = _
    rw [sput_keys]
    rfl
theorem keys_turn (ks : KS) (al : List (Str × Int)) : keys (turnK ks al) = ks.foldl keyStep (keys al) := by
  unfold turnK
  induction ks generalizing al with
  | nil => rfl
  | cons k ks ih => rw [List.foldl_cons, List.foldl_cons, ih, keys_stepK]
theorem keyStep_grow (l : List Str) (k : Mg.Kind) : ∃ m, keyStep l k = l ++ m := by
  unfold keyStep
  split
  · split
    · exact ⟨[], by simp⟩
    · exact ⟨[k.1], rfl⟩
  · exact ⟨[], by simp⟩
theorem fold_grow (ks : KS) (l : List Str) : ∃ m, ks.foldl keyStep l = l ++ m := by
  induction ks generalizing l with
  | nil => exact ⟨[], by simp⟩
  | cons k ks ih =>
    obtain ⟨m, e⟩ := keyStep_grow l k
    obtain ⟨m', e'⟩ := ih (keyStep l k)
    exact ⟨m ++ m', by rw [List.foldl_cons, e', e, List.append_assoc]⟩
theorem iter_settles (ks : KS) : ∀ n, (keys (iterK ks (n + 1)) = keys (iterK ks n)) ∨ n + 1 < (keys (iterK ks (n + 1))).length
  | 0 => by
    have e : keys (iterK ks 1) = ks.foldl keyStep (keys (iterK ks 0)) := keys_turn _ _
    obtain ⟨m, h⟩ := fold_grow ks (keys (iterK ks 0))
    rw [e, h]
    cases m with
    | nil => exact .inl (by simp)
    | cons x m => exact .inr (by simp [iterK, keys])
  | n + 1 => by
    have e : keys (iterK ks (n + 2)) = ks.foldl keyStep (keys (iterK ks (n + 1))) := keys_turn _ _
    have e1 : keys (iterK ks (n + 1)) = ks.foldl keyStep (keys (iterK ks n)) := keys_turn _ _
    rcases iter_settles ks n with h | h
    · left
      rw [e, h, ← e1, h]
    · obtain ⟨m, hm⟩ := fold_grow ks (keys (iterK ks (n + 1)))
      rw [e, hm]
      cases m with
      | nil => exact .inl (by simp)
      | cons x m =>
        right
        simp only [List.length_append, List.length_cons]
        omega
/-- one turn more tells no other number of kinds -/
theorem iter_more {ks : KS} : ((iterK ks (ks.length + 1)).length = ks.length + 1) = ((iterK ks ks.length).length = ks.length + 1) := by
  have l1 := (Gd.iter ks ks.length).len
  have l2 := (Gd.iter ks (ks.length + 1)).len
  have k1 : ∀ n, (keys (iterK ks n)).length = (iterK ks n).length := fun n => by simp [keys]
  rw [← k1] at l1 l2
  rw [← k1, ← k1, eq_iff_iff]
  have h := iter_settles ks ks.length
  constructor
  · intro e
    rcases h with h | h
    · rw [← h]; exact e
    · omega
  · intro e
    have e1 : keys (iterK ks (ks.length + 1)) = ks.foldl keyStep (keys (iterK ks ks.length)) := keys_turn _ _
    obtain ⟨m, hm⟩ := fold_grow ks (keys (iterK ks ks.length))
    rw [hm] at e1
    rw [e1, List.length_append] at l2 ⊢
    omega
/-! each once -/
theorem firsts_len {ss : List Str} : ((firsts ss).length = ss.length) = ss.Nodup := by
  have key : ∀ (ss acc : List Str), acc.Nodup → (ss.foldl step1 acc).length ≤ acc.length + ss.length ∧ ((ss.foldl step1 acc).length = acc.length + ss.length → (acc ++ ss).Nodup) := fun ss => by
    induction ss with
    | nil => intro acc h; exact ⟨by simp, fun _ => by simpa using h⟩
    | cons x xs ih =>
      intro acc h
      rw [List.foldl_cons]
      by_cases hx : x ∈ acc
      · have e : step1 acc x = acc := by
          unfold step1
          rw [if_pos]
          exact List.any_eq_true.mpr ⟨x, hx, by simp⟩
        rw [e]
        obtain ⟨a, b⟩ := ih acc h
        refine ⟨by simp only [List.length_cons]; omega, fun z => ?_⟩
        simp only [List.length_cons] at z
        omega
      · have e : step1 acc x = acc ++ [x] := by
          unfold step1
          rw [if_neg]
          intro z
          obtain ⟨y, hy, e⟩ := List.any_eq_true.mp z
          have e : y = x := by simpa using e
          subst e
          exact hx hy
        rw [e]
        obtain ⟨a, b⟩ := ih (acc ++ [x]) (by rw [List.nodup_append]; exact ⟨h, by simp, fun u hu v hv => by simp at hv; subst hv; rintro rfl; exact hx hu⟩)
        refine ⟨by simp only [List.length_cons, List.length_append, List.length_nil] at a ⊢; omega, fun z => ?_⟩
        have := b (by simp only [List.length_cons, List.length_append, List.length_nil] at z ⊢; omega)
        simpa using this
  rw [eq_iff_iff]
  constructor
  · intro h
    have := (key ss [] (by simp)).2 (by simpa [firsts] using h)
    simpa using this
  · intro h
    rw [firsts_nodup h]
theorem perm_names {α : Type} (f : KindA → α) (g : KindA → List α) : ∀ ka : KSA, (ka.flatMap fun k => f k :: g k).Perm (ka.map f ++ ka.flatMap g)
  | [] => .refl _
  | k :: ka => by
    have ih := perm_names f g ka
    simp only [List.flatMap_cons, List.map_cons, List.cons_append]
    refine .cons _ ?_
    have h1 : (g k ++ ka.flatMap fun k => f k :: g k).Perm (g k ++ (ka.map f ++ ka.flatMap g)) := ih.append_left _
    refine h1.trans ?_
    rw [← List.append_assoc, ← List.append_assoc]
    exact (List.perm_append_comm).append_right _
end Mh

/-! is_kinds, of any things -/
namespace Mh
open PySem L2 Mp Mg

@[simp] theorem seq_kindA (k : KindA) : seq? (kindA k) = some [.str k.1, .tuple (k.2.map rowA)] := rfl
@[simp] theorem seq_rowA (k : RowA) : seq? (rowA k) = some [.str k.1, .tuple k.2] := rfl
def secs : D → Bool
  | .tuple [_, b] => pairsD 4 b
  | _ => false
theorem secs_two (a b : D) : secs (.tuple [a, b]) = pairsD 4 b := rfl
theorem pairD_row (r : RowA) : pairD (rowA r) = nameB r.1 := by simp [rowA, pairD_two, nameD]
theorem pairD_kind (r : KindA) : pairD (kindA r) = nameB r.1 := by simp [kindA, pairD_two, nameD]
open Classical in
theorem kindsD_pairs {d : D} (h : kindsD d = true) : pairsD 5 d = true ∧ ∀ ds, d = .tuple ds → ds.all secs = true := by
  unfold kindsD at h
  obtain ⟨ka, g, rfl, _⟩ := of_decide_eq_true h
  have l5 := g.len
  refine ⟨?_, ?_⟩
  · simp only [ksA, pairsD, List.length_map, Bool.and_eq_true, decide_eq_true_eq, List.all_eq_true, List.mem_map, forall_exists_index, and_imp, forall_apply_eq_imp_iff₂]
    exact ⟨l5, fun k hk => by rw [pairD_kind]; exact g.nm k hk⟩
  · intro ds e
    simp only [ksA, PyData.tuple.injEq] at e
    subst e
    simp only [List.all_eq_true, List.mem_map, forall_exists_index, and_imp, forall_apply_eq_imp_iff₂]
    intro k hk
    show pairsD 4 (.tuple (k.2.map rowA)) = true
    simp only [pairsD, List.length_map, Bool.and_eq_true, decide_eq_true_eq, List.all_eq_true, List.mem_map, forall_exists_index, and_imp, forall_apply_eq_imp_iff₂]
    exact ⟨g.rows k hk, fun r hr => by rw [pairD_row]; exact g.rn k hk r hr⟩
theorem secs_ok {x : D} (h1 : pairD x = true) (h2 : secs x = true) : ∃ k : KindA, x = kindA k ∧ okKind k = true := by
  obtain ⟨s, ps, rfl, hs⟩ := pairD_ok h1
  rw [secs_two] at h2
  simp only [pairsD, Bool.and_eq_true] at h2
  obtain ⟨as, rfl, ha⟩ := all_map (p := fun r : RowA => nameB r.1) (g := rowA) (fun x hx => by
    obtain ⟨s, ps, rfl, hs⟩ := pairD_ok hx
    exact ⟨(s, ps), rfl, hs⟩) h2.2
  refine ⟨(s, as), rfl, ?_⟩
  simp only [okKind, hs, Bool.true_and, Bool.and_eq_true]
  exact ⟨by simpa using h2.1, ha⟩
theorem partIn_S {ss : List Str} {p : D} (h : partIn ss p = true) : isS p = true := by
  cases p <;> simp [partIn] at h
  rfl
theorem all_two {α : Type} (f g : α → Bool) : ∀ l : List α, (l.all fun x => f x && g x) = (l.all f && l.all g)
  | [] => rfl
  | x :: l => by
    simp only [List.all_cons, all_two f g l]
    cases f x <;> cases g x <;> simp
theorem toKS_lens {ka : KSA} (g : GoodA ka) (h : ∀ r ∈ rowsAll ka, r.2.length ≤ 3) : ∀ k ∈ toKS ka, k.2.length ≤ 4 ∧ ∀ r ∈ k.2, r.2.length ≤ 3 := by
  intro k hk
  obtain ⟨k', hk', rfl⟩ := List.mem_map.mp hk
  refine ⟨by simpa using (g.rows k' hk').2, fun r hr => ?_⟩
  obtain ⟨r', hr', rfl⟩ := List.mem_map.mp hr
  simpa using h r' (List.mem_flatMap.mpr ⟨k', hk', hr'⟩)
section
variable {P : List FD} (pk : PK P) {wf n : Nat}
include pk
theorem are_parts_ok {ps : List D} {ss : List Str} : fnC (run P wf (n + 1)) 4 [.tuple ps, .list (sD ss)] = some (.bool (decide (ps.length ≤ 3) && ps.all (partIn ss))) := by
  refine run_fn pk.h4 rfl ?_
  simp only [Mf.fd_are_parts, List.map, List.length, List.replicate]
  refine B_ret ?_
  have i3 : ((ps.length : Int) ≤ 3) = (ps.length ≤ 3) := len_le ps.length 3
  by_cases h3 : ps.length ≤ 3
  · have h5 : ps.length ≤ sizeLine := by simp [sizeLine]; omega
    simp [i3, h3]
    rw [fmM_congr (g := fun p => some (some (.bool (partIn ss p)))) fun p hp => by
      cases p <;> simp [partIn, isS]]
    simp [h5]
  · simp [i3, h3]
theorem is_kinds_ok {d : D} (hd : wt d ≤ sizeLine) : fnC (run P wf (n + 3)) 5 [d] = some (.bool (kindsD d)) := by
  have f2 := fm_of pk.h2
  have f3 := fm_of pk.h3
  have f4 := fm_of pk.h4
  have p1 : fnC (run P wf (n + 2)) 2 [d, .int 5] = some (.bool (pairsD 5 d)) := are_pairs_ok pk.h1 pk.h2 (most := 5) hd
  refine run_fn pk.h5 rfl ?_
  simp only [Mf.fd_is_kinds, List.map, List.length, List.replicate]
  refine B_ite ?_
  cases h1 : pairsD 5 d with
  | false =>
    have hk : kindsD d = false := by
      cases e : kindsD d
      · rfl
      · rw [(kindsD_pairs e).1] at h1; cases h1
    simp [f2, Mf.fd_are_pairs, p1, h1]
    refine B_ret ?_
    simp [hk]
  | true =>
    obtain ⟨ds, rfl⟩ : ∃ ds, d = .tuple ds := by
      cases d <;> simp [pairsD] at h1
      exact ⟨_, rfl⟩
    have h1' := h1
    simp only [pairsD, Bool.and_eq_true, decide_eq_true_eq, List.all_eq_true] at h1'
    have ld : ds.length ≤ sizeLine := by simp [sizeLine]; omega
    have p2 : ∀ x ∈ ds, ∃ a b, x = .tuple [a, b] ∧ fnC (run P wf (n + 2)) 2 [b, .int 4] = some (.bool (secs x)) := fun x hx => by
      obtain ⟨s, ps, rfl, hs⟩ := pairD_ok (h1'.2 x hx)
      exact ⟨_, _, rfl, are_pairs_ok pk.h1 pk.h2 (most := 4) (wt_tup (wt_tup hd hx) (by simp))⟩
    simp [f2, Mf.fd_are_pairs, p1, h1]
    rw [fmM_congr (g := fun x => some (some (.bool (secs x)))) fun x hx => by
      obtain ⟨a, b, rfl, e⟩ := p2 x hx
      simp [e, f2, Mf.fd_are_pairs]]
    simp [ld, -List.all_eq_true]
    cases h2 : ds.all secs with
    | false =>
      have hk : kindsD (.tuple ds) = false := by
        cases e : kindsD (.tuple ds)
        · rfl
        · rw [(kindsD_pairs e).2 ds rfl] at h2; cases h2
      simp [h2]
      refine B_ret ?_
      simp [hk]
    | true =>
      obtain ⟨ka, rfl, hka⟩ := all_map (p := okKind) (g := kindA) (f := fun x => pairD x && secs x) (fun x hx => by
        rw [Bool.and_eq_true] at hx
        exact secs_ok hx.1 hx.2) (ds := ds) (by
        simp only [List.all_eq_true, Bool.and_eq_true] at h2 ⊢
        exact fun x hx => ⟨h1'.2 x hx, h2 x hx⟩)
      have g : GoodA ka := .of (by simpa using h1'.1) hka
      have hfin : kindsD (.tuple (ka.map kindA)) = kindsA ka := kindsD_ksA g
      rw [hfin]
      have l5 := g.len.2
      have lk : ka.length ≤ sizeLine := by simp [sizeLine]; omega
      have hrows : (rowsAll ka).length ≤ 20 := by
        have key : ∀ l : KSA, (∀ k ∈ l, k.2.length ≤ 4) → (l.flatMap (·.2)).length ≤ 4 * l.length := fun l => by
          induction l with
          | nil => intro _; simp
          | cons x xs ih =>
            intro h
            have h1 := h x List.mem_cons_self
            have h2 := ih fun y hy => h y (List.mem_cons_of_mem _ hy)
            rw [List.flatMap_cons, List.length_append, List.length_cons]
            omega
        have := key ka fun k hk => (g.rows k hk).2
        unfold rowsAll
        omega
      have e1 : (ka.map fun k => PyData.str k.1) = sD (namesA ka) := by simp [sD, namesA]
      simp [h2]
      refine B_set ?_
      simp [lk]
      rw [e1]
      refine B_set ?_
      simp [-List.length_flatMap]
      have e2 : (ka.flatMap fun k => k.2.map rowA) = (rowsAll ka).map rowA := by rw [rowsAll, List.map_flatMap]
      rw [e2]
      have lr : (rowsAll ka).length ≤ sizeLine := by simp only [sizeLine]; omega
      unfold kindsA
      generalize hrs : rowsAll ka = rs at *
      have e3 : (sD (namesA ka) ++ rs.map fun x => PyData.str x.1) = sD (namesA ka ++ rs.map (·.1)) := by simp [sD]
      have e4 : (sD (namesA ka) ++ [PyData.str "mark"]) = sD (namesA ka ++ [("mark" : Str)]) := by simp [sD]
      have e5 : (namesA ka).length = ka.length := by simp [namesA]
      have l6 : ka.length + rs.length ≤ sizeLine := by simp only [sizeLine]; omega
      have l7 : ka.length + 1 ≤ sizeLine := by simp only [sizeLine]; omega
      have l8 : ka.length + rs.length ≤ 4000 := by omega
      have e6 : ((firsts (namesA ka ++ rs.map (·.1))).length : Int) = (ka.length : Int) + (rs.length : Int) ↔ (namesA ka ++ rs.map (·.1)).Nodup := by
        rw [← firsts_len]
        simp only [List.length_append, List.length_map, e5]
        omega
      refine ⟨by simpa using lr, B_ite ?_⟩
      by_cases hn : (namesA ka ++ rs.map (·.1)).Nodup
      · have e6 := e6.mpr hn
        simp [lr, e5, l6, e3, l8, e6]
        refine B_ite ?_
        simp [lr, f4, Mf.fd_are_parts, e4, e5, l7]
        have p3 : ∀ r ∈ rs, fnC (run P wf (n + 2)) 4 [.tuple r.2, .list (sD (namesA ka ++ [("mark" : Str)]))] = some (.bool (decide (r.2.length ≤ 3) && r.2.all (partIn (namesA ka ++ [("mark" : Str)])))) := fun r hr => are_parts_ok pk
        rw [fmM_congr (g := fun r : RowA => some (some (.bool (decide (r.2.length ≤ 3) && r.2.all (partIn (namesA ka ++ [("mark" : Str)])))))) fun r hr => by
          simp [p3 r hr, l7]]
        simp [lr, -List.all_eq_true]
        cases h3 : rs.all fun r => decide (r.2.length ≤ 3) && r.2.all (partIn (namesA ka ++ [("mark" : Str)])) with
        | false =>
          simp [h3]
          refine B_ret ?_
          have : (rs.all (fun r => decide (r.2.length ≤ 3)) && rs.all fun r => r.2.all (partIn (namesA ka ++ [("mark" : Str)]))) = false := by
            rw [← all_two]
            exact h3
          cases hq : rs.all fun r => decide (r.2.length ≤ 3)
          · simp
          · rw [hq, Bool.true_and] at this
            rw [this]
            simp
        | true =>
          simp [h3]
          refine B_ret ?_
          rw [all_two, Bool.and_eq_true] at h3
          have hS : ∀ r ∈ rowsAll ka, ∀ p ∈ r.2, isS p = true := fun r hr p hp => by
            rw [hrs] at hr
            exact partIn_S (List.all_eq_true.mp (List.all_eq_true.mp h3.2 r hr) p hp)
          have eK : PyData.tuple (ka.map kindA) = ksD (toKS ka) := toKS_D hS
          have p4 : fnC (run P wf (n + 2)) 3 [ksD (toKS ka)] = some (.dict (numsD (iterK (toKS ka) (toKS ka).length))) := sizes_walk pk (wf := wf) (n := n + 1) (by rw [toKS_len]; exact l5) (toKS_lens g (by rw [hrs]; simpa using h3.1))
          rw [toKS_len] at p4
          rw [h3.1, h3.2, decide_eq_true hn]
          simp [f3, Mf.fd_least_sizes]
          rw [eK]
          simp [p4, toKS_len, numsD]
          omega
      · have e6 : ¬ ((firsts (namesA ka ++ rs.map (·.1))).length : Int) = (ka.length : Int) + (rs.length : Int) := fun z => hn (e6.mp z)
        simp [lr, e5, l6, e3, l8, e6]
        refine B_ret ?_
        simp [hn]
end
end Mh

/-! the law's own look at kinds, of any things -/
namespace Mh
open PySem L2 Mp Mg

theorem ne_nilU (ds : List D) : Mp.cmp .NotEq (.list ds) (.list []) = some (.bool (!decide (ds = []))) := by
  cases h : PyData.plainAll ds with
  | true => exact ne_nil h
  | false =>
    show (eqD (.list ds) (.list [])).map _ = _
    have hn : ds ≠ [] := by rintro rfl; simp at h
    unfold eqD
    simp only
    rw [if_neg (by simp [h]), if_pos (by simp [unlikeD, hn])]
    simp [hn]
def nmD : D → D
  | .tuple (a :: _) => a
  | _ => .none
def bdD : D → List D
  | .tuple [_, .tuple ps] => ps
  | _ => []
def kNs (x : D) : List D := nmD x :: (bdD x).map nmD
def kPs (x : D) : List D := (bdD x).flatMap bdD
theorem flat_le {α β : Type} {f : α → List β} {n : Nat} : ∀ {l : List α}, (∀ x ∈ l, (f x).length ≤ n) → (l.flatMap f).length ≤ n * l.length
  | [], _ => by simp
  | x :: l, h => by
    have h1 := h x List.mem_cons_self
    have h2 := flat_le (l := l) fun y hy => h y (List.mem_cons_of_mem _ hy)
    rw [List.flatMap_cons, List.length_append, List.length_cons, Nat.mul_succ]
    omega
theorem bd3 {y : D} (h : rowOk3 y = true) : (bdD y).length ≤ 3 := by
  obtain ⟨r, rfl, _, h3⟩ := rowOk3_ok h
  exact h3
theorem kNs5 {x : D} (h : kindOk3 x = true) : (kNs x).length ≤ 5 := by
  obtain ⟨k, rfl, h3⟩ := kindOk3_ok h
  simp only [okKind3, Bool.and_eq_true, decide_eq_true_eq] at h3
  simp only [kNs, kindA, bdD, List.length_cons, List.length_map]
  omega
theorem kPs12 {x : D} (h : kindOk3 x = true) : (kPs x).length ≤ 12 := by
  obtain ⟨k, rfl, h3⟩ := kindOk3_ok h
  simp only [okKind3, Bool.and_eq_true, decide_eq_true_eq, List.all_eq_true] at h3
  have := flat_le (f := bdD) (n := 3) (l := k.2.map rowA) fun y hy => by
    obtain ⟨r, hr, rfl⟩ := List.mem_map.mp hy
    have := h3.2 r hr
    simp only [okRow, Bool.and_eq_true, decide_eq_true_eq] at this
    exact this.2
  rw [List.length_map] at this
  show ((k.2.map rowA).flatMap bdD).length ≤ 12
  omega
theorem kNs_kinds (ka : KSA) : (ka.map kindA).flatMap kNs = sD (ka.flatMap fun k => k.1 :: k.2.map (·.1)) := by
  induction ka with
  | nil => rfl
  | cons k ka ih =>
    simp only [List.map_cons, List.flatMap_cons, ih]
    simp [sD, kNs, kindA, bdD, nmD, rowA, Function.comp_def]
theorem kPs_kinds (ka : KSA) : (ka.map kindA).flatMap kPs = (rowsAll ka).flatMap (·.2) := by
  unfold rowsAll
  induction ka with
  | nil => rfl
  | cons k ka ih =>
    simp only [List.map_cons, List.flatMap_cons, List.flatMap_append, ih]
    congr 1
    show (k.2.map rowA).flatMap bdD = _
    generalize k.2 = rs
    induction rs with
    | nil => rfl
    | cons r rs ih2 =>
      simp only [List.map_cons, List.flatMap_cons, ih2]
      rfl
theorem kOk3_two (a : D) (rs : List D) : kindOk3 (.tuple [a, .tuple rs]) = (nameD a && decide (1 ≤ rs.length ∧ rs.length ≤ 4) && rs.all rowOk3) := rfl
theorem rOk3_two (a : D) (rs : List D) : rowOk3 (.tuple [a, .tuple rs]) = (nameD a && decide (rs.length ≤ 3)) := rfl
theorem kOk3_noT {a b : D} (h : isT b = false) : kindOk3 (.tuple [a, b]) = false := by cases b <;> simp [isT] at h <;> rfl
theorem rOk3_noT {a b : D} (h : isT b = false) : rowOk3 (.tuple [a, b]) = false := by cases b <;> simp [isT] at h <;> rfl
theorem kOk3_no {x : D} (h : ¬ ∃ a b, x = .tuple [a, b]) : kindOk3 x = false := by
  unfold kindOk3
  split
  · exact absurd ⟨_, _, rfl⟩ h
  · rfl
theorem rOk3_no {x : D} (h : ¬ ∃ a b, x = .tuple [a, b]) : rowOk3 x = false := by
  unfold rowOk3
  split
  · exact absurd ⟨_, _, rfl⟩ h
  · rfl
theorem isT_ex {b : D} (h : isT b = true) : ∃ rs, b = .tuple rs := by
  cases b <;> simp [isT] at h
  exact ⟨_, rfl⟩
section
variable {P : List FD} {wf n : Nat}
theorem law_are_kinds_ok (h8 : P[8]? = some Mf.fd__law_words) (h9 : P[9]? = some Mf.fd__law_is_name) (h13 : P[13]? = some Mf.fd__law_sizes) (h16 : P[16]? = some Mf.fd__law_are_kinds) {d : D} (hd : wt d ≤ sizeLine) : fnC (run P wf (n + 3)) 16 [d] = some (.bool (kindsD d)) := by
  have f9 := fm_of h9
  have f13 := fm_of h13
  refine run_fn h16 rfl ?_
  simp only [Mf.fd__law_are_kinds, List.map, List.length, List.replicate]
  refine B_ite ?_
  cases hT : isT d with
  | false =>
    simp [hT]
    refine B_ret ?_
    simp [kindsD_no hT]
  | true =>
    obtain ⟨ds, rfl⟩ := isT_ex hT
    have i1 := len_pos ds.length
    have i5 : ((ds.length : Int) ≤ 5) = (ds.length ≤ 5) := len_le ds.length 5
    by_cases hl : 1 ≤ ds.length ∧ ds.length ≤ 5
    · obtain ⟨a1, a2⟩ := hl
      simp [i1, i5, a1, a2]
      refine B_own ?_
      simp
      refine B_own ?_
      simp
      refine B_for ds (fun d => d) (fun pre r => (∃ o, r = [some (.tuple ds), some (.list (pre.flatMap kNs)), some (.list (pre.flatMap kPs)), o, none, none, none]) ∧ pre.all kindOk3 = true) (by simp) (by simp) (by simp) ?_ ?_
      · rintro pre x post r hx ⟨⟨o, rfl⟩, hp⟩
        have hxd : x ∈ ds := by rw [hx]; simp
        have hxw : wt x ≤ sizeLine := wt_tup hd hxd
        have hpl : pre.length ≤ 4 := by
          have := congrArg List.length hx
          simp at this
          omega
        have b1 := flat_le (f := kNs) (n := 5) (l := pre) fun y hy => kNs5 (List.all_eq_true.mp hp y hy)
        have b2 := flat_le (f := kPs) (n := 12) (l := pre) fun y hy => kPs12 (List.all_eq_true.mp hp y hy)
        simp
        refine B_ite ?_
        by_cases hxx : ∃ a b, x = .tuple [a, b]
        · obtain ⟨a, b, rfl⟩ := hxx
          have p1 := law_is_name_ok h8 h9 (wf := wf) (n := n) (szS_of (wt_tup hxw (x := a) (by simp)))
          cases hn : nameD a
          · have hk := kindsD_bad hxd (by
              cases hb : isT b
              · exact kOk3_noT hb
              · obtain ⟨rs, rfl⟩ := isT_ex hb
                simp [kOk3_two, hn])
            simp [f9, Mf.fd__law_is_name, p1, hn]
            refine B_ret ?_
            simp [hk]
          · simp [f9, Mf.fd__law_is_name, p1, hn]
            refine B_ite ?_
            cases hb : isT b
            · have hk := kindsD_bad hxd (kOk3_noT hb)
              simp [hb]
              refine B_ret ?_
              simp [hk]
            · obtain ⟨rs, rfl⟩ := isT_ex hb
              have j1 := len_pos rs.length
              have j4 : ((rs.length : Int) ≤ 4) = (rs.length ≤ 4) := len_le rs.length 4
              by_cases hr : 1 ≤ rs.length ∧ rs.length ≤ 4
              · obtain ⟨c1, c2⟩ := hr
                simp [j1, j4, c1, c2]
                refine B_app ?_
                simp [-List.length_flatMap]
                refine ⟨by simp only [sizeLine]; omega, ?_⟩
                refine B_for rs (fun d => d) (fun pr r => r = [some (.tuple ds), some (.list (pre.flatMap kNs ++ (a :: pr.map nmD))), some (.list (pre.flatMap kPs ++ pr.flatMap bdD)), some (.tuple [a, .tuple rs]), none, none, none] ∧ pr.all rowOk3 = true) (by simp) (by simp) (by simp) ?_ ?_
                · rintro pr y po r hy ⟨rfl, hq⟩
                  have hyd : y ∈ rs := by rw [hy]; simp
                  have hyw : wt y ≤ sizeLine := wt_tup (wt_tup hxw (x := .tuple rs) (by simp)) hyd
                  have hql : pr.length ≤ 3 := by
                    have := congrArg List.length hy
                    simp at this
                    omega
                  have b3 := flat_le (f := bdD) (n := 3) (l := pr) fun y hy => bd3 (List.all_eq_true.mp hq y hy)
                  have bad : rowOk3 y = false → kindsD (.tuple ds) = false := fun z => kindsD_bad hxd (by
                    rw [kOk3_two]
                    have : rs.all rowOk3 = false := by
                      rw [List.all_eq_false]
                      exact ⟨y, hyd, by simp [z]⟩
                    simp [this])
                  simp
                  refine B_ite ?_
                  by_cases hyy : ∃ a b, y = .tuple [a, b]
                  · obtain ⟨u, v, rfl⟩ := hyy
                    have p2 := law_is_name_ok h8 h9 (wf := wf) (n := n) (szS_of (wt_tup hyw (x := u) (by simp)))
                    cases hn2 : nameD u
                    · have hk := bad (by
                        cases hb : isT v
                        · exact rOk3_noT hb
                        · obtain ⟨rs, rfl⟩ := isT_ex hb
                          simp [rOk3_two, hn2])
                      simp [f9, Mf.fd__law_is_name, p2, hn2]
                      refine B_ret ?_
                      simp [hk]
                    · simp [f9, Mf.fd__law_is_name, p2, hn2]
                      refine B_ite ?_
                      cases hv : isT v
                      · have hk := bad (rOk3_noT hv)
                        simp [hv]
                        refine B_ret ?_
                        simp [hk]
                      · obtain ⟨qs, rfl⟩ := isT_ex hv
                        have k3 : ((3 : Int) < (qs.length : Int)) = ¬ (qs.length ≤ 3) := by simp only [eq_iff_iff]; omega
                        by_cases h3 : qs.length ≤ 3
                        · simp [k3, h3]
                          refine B_app ?_
                          simp [-List.length_flatMap]
                          refine ⟨by simp only [sizeLine]; omega, ?_⟩
                          refine B_ext ?_
                          simp [-List.length_flatMap]
                          refine ⟨by simp only [sizeLine]; omega, ?_⟩
                          refine B_nil ?_
                          simp [rOk3_two, hn2, h3, nmD, bdD]
                          simpa using hq
                        · have hk := bad (by simp [rOk3_two, h3])
                          simp [k3, h3]
                          refine B_ret ?_
                          simp [hk]
                  · have hk := bad (rOk3_no hyy)
                    obtain ⟨_, n2⟩ := no_pair hyy
                    rcases n2 with n2 | ⟨es, rfl, n2⟩
                    · simp [n2]
                      refine B_ret ?_
                      simp [hk]
                    · have n3 : ¬ (es.length : Int) = 2 := by omega
                      simp [n3]
                      refine B_ret ?_
                      simp [hk]
                · rintro r ⟨rfl, hq⟩
                  refine B_nil ?_
                  simp [kNs, kPs, nmD, bdD]
                  simp [kOk3_two, hn, c1, c2]
                  exact ⟨by simpa using hp, by simpa using hq⟩
              · have hk := kindsD_bad hxd (by simp only [kOk3_two, decide_eq_false hr]; simp)
                by_cases c1 : 1 ≤ rs.length
                · have c2 : ¬ rs.length ≤ 4 := fun z => hr ⟨c1, z⟩
                  simp [j1, j4, c1, c2]
                  refine B_ret ?_
                  simp [hk]
                · simp [j1, c1]
                  refine B_ret ?_
                  simp [hk]
        · have hk := kindsD_bad hxd (kOk3_no hxx)
          obtain ⟨_, n2⟩ := no_pair hxx
          rcases n2 with n2 | ⟨es, rfl, n2⟩
          · simp [n2]
            refine B_ret ?_
            simp [hk]
          · have n3 : ¬ (es.length : Int) = 2 := by omega
            simp [n3]
            refine B_ret ?_
            simp [hk]
      · rintro r ⟨⟨o, rfl⟩, hp⟩
        obtain ⟨ka, rfl, hka⟩ := all_map (p := okKind3) (g := kindA) (fun x hx => kindOk3_ok hx) hp
        have hka1 : ka.all okKind = true := List.all_eq_true.mpr fun k hk => okKind_of3 (List.all_eq_true.mp hka k hk)
        have g : GoodA ka := .of (by simpa using And.intro a1 a2) hka1
        have hfin : kindsD (.tuple (ka.map kindA)) = kindsA ka := kindsD_ksA g
        have h3 : ∀ r ∈ rowsAll ka, r.2.length ≤ 3 := fun r hr => by
          obtain ⟨k, hk, hr⟩ := List.mem_flatMap.mp hr
          have := List.all_eq_true.mp hka k hk
          simp only [okKind3, Bool.and_eq_true, List.all_eq_true] at this
          have := this.2 r hr
          simp only [okRow, Bool.and_eq_true, decide_eq_true_eq] at this
          exact this.2
        have h3' : ((rowsAll ka).all fun r => decide (r.2.length ≤ 3)) = true := by simpa using h3
        have b1 := flat_le (f := fun k : KindA => k.1 :: k.2.map (·.1)) (n := 5) (l := ka) fun k hk => by
          have := (g.rows k hk).2
          simp only [List.length_cons, List.length_map]
          omega
        have b2 := flat_le (f := fun k : KindA => k.2) (n := 4) (l := ka) fun k hk => (g.rows k hk).2
        have b3 := flat_le (f := fun r : RowA => r.2) (n := 3) (l := rowsAll ka) h3
        have b2 : (rowsAll ka).length ≤ 4 * ka.length := b2
        have l5 := g.len.2
        have lk : ka.length ≤ sizeLine := by simp [sizeLine]; omega
        have l7 : ka.length + 1 ≤ sizeLine := by simp only [sizeLine]; omega
        have pm : (ka.flatMap fun k => k.1 :: k.2.map (·.1)).Perm (namesA ka ++ (rowsAll ka).map (·.1)) := by
          have := perm_names (fun k : KindA => k.1) (fun k => k.2.map (·.1)) ka
          rwa [← List.map_flatMap] at this
        rw [hfin, kNs_kinds, kPs_kinds]
        unfold kindsA
        rw [h3', Bool.true_and]
        generalize hnm : (ka.flatMap fun k => k.1 :: k.2.map (·.1)) = nms at *
        generalize hpt : (rowsAll ka).flatMap (·.2) = pts at *
        have e6 : ((firsts nms).length : Int) = (nms.length : Int) ↔ (namesA ka ++ (rowsAll ka).map (·.1)).Nodup := by
          rw [← pm.nodup_iff, ← firsts_len]
          omega
        have lz : nms.length ≤ 4000 := by omega
        refine B_ite ?_
        by_cases hn : (namesA ka ++ (rowsAll ka).map (·.1)).Nodup
        · have e6 := e6.mpr hn
          have e1 : (ka.map fun k => PyData.str k.1) = sD (namesA ka) := by simp [sD, namesA]
          have e4 : (sD (namesA ka) ++ [PyData.str "mark"]) = sD (namesA ka ++ [("mark" : Str)]) := by simp [sD]
          have e5 : (namesA ka).length = ka.length := by simp [namesA]
          simp [lz, e6]
          refine B_set ?_
          simp [kindA, lk]
          rw [e1, e4]
          refine ⟨l7, B_ite ?_⟩
          simp
          rw [fmM_congr (g := fun p => if partIn (namesA ka ++ [("mark" : Str)]) p = true then some none else some (some p)) fun p hp => by
            cases p with
            | str s => by_cases h : s ∈ namesA ka ++ [("mark" : Str)] <;> simp [partIn, notin_sD, h, -List.mem_append]
            | _ => simp [partIn, isS]]
          have hf := fmM_ifn (γ := D) (fun p => partIn (namesA ka ++ [("mark" : Str)]) p = true) (fun p => p) pts
          rw [hf]
          have lf : (List.filter (fun x => !decide (partIn (namesA ka ++ [("mark" : Str)]) x = true)) pts).length ≤ sizeLine := Nat.le_trans (List.length_filter_le _ _) (by simp only [sizeLine]; omega)
          simp [lf, ne_nilU, -List.filter_eq_nil_iff]
          have hp1 : ((rowsAll ka).all fun r => r.2.all (partIn (namesA ka ++ [("mark" : Str)]))) = decide ((List.filter (fun x => !partIn (namesA ka ++ [("mark" : Str)]) x) pts) = []) := by
            rw [Bool.eq_iff_iff, decide_eq_true_eq, List.filter_eq_nil_iff, ← hpt]
            simp only [List.all_eq_true, List.mem_flatMap, Bool.not_eq_true', Bool.not_eq_false, forall_exists_index, and_imp]
            exact ⟨fun h p r hr hp => h r hr p hp, fun h r hr p hp => h p r hr hp⟩
          by_cases hz : (List.filter (fun x => !partIn (namesA ka ++ [("mark" : Str)]) x) pts) = []
          · rw [hp1, hz, decide_eq_true hn]
            simp [hz]
            refine B_ret ?_
            have hS : ∀ r ∈ rowsAll ka, ∀ p ∈ r.2, isS p = true := fun r hr p hp => by
              rw [hz] at hp1
              have := List.all_eq_true.mp hp1 r hr
              exact partIn_S (List.all_eq_true.mp this p hp)
            have eK : PyData.tuple (ka.map kindA) = ksD (toKS ka) := toKS_D hS
            have p4 := law_sizes_ok h13 (wf := wf) (n := n + 1) (ks := toKS ka) (by rw [toKS_len]; exact l5) (toKS_lens g h3)
            have h9 := iter_more (ks := toKS ka)
            rw [toKS_len] at p4 h9
            simp [f13, Mf.fd__law_sizes]
            rw [eK]
            simp [p4, numsD, e5]
            rw [← h9]
            omega
          · rw [hp1, decide_eq_false hz]
            simp [hz]
            refine ⟨by simpa using lf, B_ret ?_⟩
            simp
        · have e6 : ¬ ((firsts nms).length : Int) = (nms.length : Int) := fun z => hn (e6.mp z)
          simp [lz, e6]
          refine B_ret ?_
          simp [hn]
    · have hk := kindsD_len hl
      by_cases a1 : 1 ≤ ds.length
      · have a2 : ¬ ds.length ≤ 5 := fun z => hl ⟨a1, z⟩
        simp [i1, i5, a1, a2]
        refine B_ret ?_
        simp [hk]
      · simp [i1, a1]
        refine B_ret ?_
        simp [hk]
end
end Mh

/-! bent things: sizes -/
namespace Mh
open PySem L2 Mp Mg

/-- what repr and the tests ask of a thing -/
structure Gx (d : D) (w k : Nat) : Prop where
  rp : reprOk d = true
  ok : d.showable = true
  ch : chD d
  wt : wt d ≤ w
  dp : d.depth ≤ k
theorem Gx.mono {d : D} {w w' k k' : Nat} (h : Gx d w k) (hw : w ≤ w') (hk : k ≤ k') : Gx d w' k' := ⟨h.rp, h.ok, h.ch, Nat.le_trans h.wt hw, Nat.le_trans h.dp hk⟩
theorem Gx.repr {d : D} {w k : Nat} (h : Gx d w k) (hw : w ≤ sizeLine) (hk : k ≤ 300) : Mp.prim .repr [d] = some (.str d.shown) := by
  show (if reprOk d = true ∧ d.showable = true ∧ d.shown.length ≤ sizeLine ∧ d.depth ≤ DL then some (PyData.str d.shown) else none) = _
  have := shown_le d h.ch
  have := h.wt
  have := h.dp
  rw [if_pos ⟨h.rp, h.ok, by omega, by unfold DL; omega⟩]
theorem Sh.gx {d : D} {w k : Nat} (h : Sh d w k) : Gx d w k := ⟨by simp [reprOk, h.nd], h.ok, h.ch, h.wt, h.dp⟩
mutual
/-- of texts and tuples alone -/
def tsOnly : D → Bool
  | .str _ => true
  | .tuple xs => tsOnlys xs
  | _ => false
def tsOnlys : List D → Bool
  | [] => true
  | x :: xs => tsOnly x && tsOnlys xs
end
mutual
theorem ts_all : ∀ d : D, tsOnly d = true → dtOk d = true ∧ d.hasDict = false ∧ d.showable = true
  | .str _, _ => by simp [dtOk, PyData.hasDict, PyData.showable]
  | .tuple xs, h => by
    have := ts_alls xs (by simpa [tsOnly] using h)
    simpa [dtOk, PyData.hasDict, PyData.showable] using this
  | .none, h => by simp [tsOnly] at h
  | .bool _, h => by simp [tsOnly] at h
  | .int _, h => by simp [tsOnly] at h
  | .list _, h => by simp [tsOnly] at h
  | .dict _, h => by simp [tsOnly] at h
theorem ts_alls : ∀ ds : List D, tsOnlys ds = true → dtOks ds = true ∧ PyData.hasDictAll ds = false ∧ PyData.showableAll ds = true
  | [], _ => by simp [dtOks, PyData.hasDictAll, PyData.showableAll]
  | d :: ds, h => by
    simp only [tsOnlys, Bool.and_eq_true] at h
    obtain ⟨a, b, c⟩ := ts_all d h.1
    obtain ⟨a', b', c'⟩ := ts_alls ds h.2
    simp [dtOks, PyData.hasDictAll, PyData.showableAll, a, b, c, a', b', c']
end
theorem tsOnlys_iff : ∀ {ds : List D}, tsOnlys ds = true ↔ ∀ x ∈ ds, tsOnly x = true
  | [] => by simp [tsOnlys]
  | d :: ds => by simp [tsOnlys, tsOnlys_iff (ds := ds)]
theorem showAll_iff : ∀ {ds : List D}, PyData.showableAll ds = true ↔ ∀ x ∈ ds, x.showable = true
  | [] => by simp [PyData.showableAll]
  | d :: ds => by simp [PyData.showableAll, showAll_iff (ds := ds)]
theorem dtOks_iff : ∀ {ds : List D}, dtOks ds = true ↔ ∀ x ∈ ds, dtOk x = true
  | [] => by simp [dtOks]
  | d :: ds => by simp [dtOks, dtOks_iff (ds := ds)]
theorem chDs_iff : ∀ {ds : List D}, chDs ds ↔ ∀ x ∈ ds, chD x
  | [] => by simp [chDs]
  | d :: ds => by simp [chDs, chDs_iff (ds := ds)]
theorem hasDict_iff : ∀ {ds : List D}, PyData.hasDictAll ds = false ↔ ∀ x ∈ ds, x.hasDict = false
  | [] => by simp [PyData.hasDictAll]
  | d :: ds => by simp [PyData.hasDictAll, hasDict_iff (ds := ds)]
theorem depth_iff {k : Nat} : ∀ {ds : List D}, PyData.depthAll ds ≤ k ↔ ∀ x ∈ ds, x.depth ≤ k
  | [] => by simp [PyData.depthAll]
  | d :: ds => by
    have := depth_iff (k := k) (ds := ds)
    simp only [PyData.depthAll, List.mem_cons, forall_eq_or_imp, ← this]
    omega
theorem wts_app : ∀ a b : List D, wts (a ++ b) = wts a + wts b
  | [], b => by simp [wts]
  | x :: a, b => by simp only [List.cons_append, wts, wts_app a b]; omega
theorem wts_sub : ∀ {a b : List D}, a.Sublist b → wts a ≤ wts b
  | _, _, .slnil => Nat.le_refl _
  | _, _, .cons x h => by
    have := wts_sub h
    simp only [wts]
    omega
  | _, _, .cons₂ x h => by
    have := wts_sub h
    simp only [wts]
    omega
theorem wts_len : ∀ ds : List D, ds.length ≤ wts ds
  | [] => by simp [wts]
  | x :: ds => by
    have := wts_len ds
    simp only [List.length_cons, wts]
    omega
structure Ts (d : D) (k : Nat) : Prop where
  ts : tsOnly d = true
  ch : chD d
  dp : d.depth ≤ k
theorem Ts.mono {d : D} {k k' : Nat} (h : Ts d k) (hk : k ≤ k') : Ts d k' := ⟨h.ts, h.ch, Nat.le_trans h.dp hk⟩
theorem Ts.of_tuple {ds : List D} {k : Nat} (h : Ts (.tuple ds) (k + 1)) : ∀ x ∈ ds, Ts x k := fun x hx => by
  have h1 := h.ts
  have h2 := h.ch
  have h3 := h.dp
  simp only [tsOnly] at h1
  simp only [chD] at h2
  simp only [PyData.depth] at h3
  exact ⟨tsOnlys_iff.mp h1 x hx, chDs_iff.mp h2 x hx, depth_iff.mp (by omega : PyData.depthAll ds ≤ k) x hx⟩
theorem Ts.tuple {ds : List D} {k : Nat} (h : ∀ x ∈ ds, Ts x k) : Ts (.tuple ds) (k + 1) :=
  ⟨by simp only [tsOnly]; exact tsOnlys_iff.mpr fun x hx => (h x hx).ts, by simp only [chD]; exact chDs_iff.mpr fun x hx => (h x hx).ch, by simp only [PyData.depth]; have := depth_iff.mpr fun x hx => (h x hx).dp; omega⟩
theorem Ts.str {x : Str} (h : chS x) : Ts (.str x) 0 := ⟨by simp [tsOnly], by simpa [chD] using h, by simp [PyData.depth]⟩
theorem Ts.gx {d : D} {k w : Nat} (h : Ts d k) (hw : Mh.wt d ≤ w) : Gx d w k := by
  obtain ⟨a, b, c⟩ := ts_all d h.ts
  exact ⟨by simp [reprOk, b], c, h.ch, hw, h.dp⟩
theorem gx_tuple0 {es : List D} {w k : Nat} (h : ∀ x ∈ es, Ts x k) (hw : wts es ≤ w) : Gx (.tuple es) (3 + w) (k + 1) := (Ts.tuple h).gx (by simp only [Mh.wt]; omega)
theorem gx_list0 {es : List D} {w k : Nat} (h : ∀ x ∈ es, Ts x k) (hw : wts es ≤ w) : Gx (.list es) (3 + w) (k + 1) := by
  have h0 := Ts.tuple h
  obtain ⟨a, b, c⟩ := ts_all _ h0.ts
  refine ⟨?_, ?_, ?_, by simp only [Mh.wt]; omega, ?_⟩
  · have : PyData.hasDict (.list es) = false := by simpa [PyData.hasDict] using b
    simp [reprOk, this]
  · simpa [PyData.showable] using c
  · simpa [chD] using h0.ch
  · simpa [PyData.depth] using h0.dp
theorem gx_tuple1 {a b : List D} {e : D} {w we k : Nat} (ha : ∀ x ∈ a, Ts x k) (hb : ∀ x ∈ b, Ts x k) (he : Gx e we k) (hw : wts a + wts b ≤ w) : Gx (.tuple (a ++ e :: b)) (5 + w + we) (k + 1) := by
  have hm : ∀ x ∈ a ++ e :: b, x = e ∨ Ts x k := fun x hx => by
    rcases List.mem_append.mp hx with h | h
    · exact .inr (ha x h)
    · rcases List.mem_cons.mp h with h | h
      · exact .inl h
      · exact .inr (hb x h)
  refine ⟨?_, ?_, ?_, ?_, ?_⟩
  · have h := he.rp
    simp only [reprOk, Bool.or_eq_true, Bool.not_eq_true'] at h ⊢
    rcases h with h | h
    · left
      simp only [PyData.hasDict]
      exact hasDict_iff.mpr fun x hx => (hm x hx).elim (fun z => z ▸ h) fun z => (ts_all x z.ts).2.1
    · right
      simp only [dtOk]
      exact dtOks_iff.mpr fun x hx => (hm x hx).elim (fun z => z ▸ h) fun z => (ts_all x z.ts).1
  · simp only [PyData.showable]
    exact showAll_iff.mpr fun x hx => (hm x hx).elim (fun z => z ▸ he.ok) fun z => (ts_all x z.ts).2.2
  · simp only [chD]
    exact chDs_iff.mpr fun x hx => (hm x hx).elim (fun z => z ▸ he.ch) fun z => z.ch
  · have := he.wt
    simp only [Mh.wt, wts_app, wts]
    omega
  · have := depth_iff.mpr fun x hx => (hm x hx).elim (fun z => z ▸ he.dp) fun z => z.dp
    simp only [PyData.depth]
    omega
theorem cut_sub {α : Type} (xs : List α) (lo hi : Option Int) : (Mp.cut xs lo hi).Sublist xs := by
  unfold Mp.cut
  exact (List.take_sublist _ _).trans (List.drop_sublist _ _)
theorem slice_tuple (ds : List D) (lo hi : Option Int) : Mp.slice (.tuple ds) lo hi = some (.tuple (Mp.cut ds lo hi)) := rfl
theorem slice_str {x : Str} (h : x.length ≤ sizeLine) (lo hi : Option Int) : Mp.slice (.str x) lo hi = some (.str ⟨(Mp.cut x.cps.toList lo hi).toArray⟩) := by
  show (if x.length ≤ sizeLine then _ else none) = _
  rw [if_pos h]
theorem cutS_len (x : Str) (lo hi : Option Int) : (⟨(Mp.cut x.cps.toList lo hi).toArray⟩ : Str).length ≤ x.length := by
  have := (cut_sub x.cps.toList lo hi).length_le
  simpa [Str.length] using this
theorem cutS_ch {x : Str} (h : chS x) (lo hi : Option Int) : chS ⟨(Mp.cut x.cps.toList lo hi).toArray⟩ := fun c hc => by
  refine h c ((cut_sub x.cps.toList lo hi).subset ?_)
  simpa using hc
theorem app_ch {x y : Str} (hx : chS x) (hy : chS y) : chS (x ++ y) := fun c hc => by
  have : c ∈ x.cps.toList ++ y.cps.toList := by
    have e : (x ++ y).cps = x.cps ++ y.cps := rfl
    rw [e] at hc
    simpa using hc
  rcases List.mem_append.mp this with h | h
  · exact hx c h
  · exact hy c h
theorem atI_mem {ds : List D} {i : Int} (h0 : 0 ≤ i) (h1 : i < (ds.length : Int)) : ∃ d, d ∈ ds ∧ L2.atI ds i = some d := by
  have hl : i.toNat < ds.length := by omega
  refine ⟨ds[i.toNat], List.getElem_mem _, ?_⟩
  unfold L2.atI L2.ixN
  rw [if_pos h0, if_pos (by omega)]
  simp [hl]
/-- the odd things -/
def oddL : List D := [.none, .bool true, .bool false, .int 0, .int 1, .int (-1), .int (10 ^ 39), .str "", .str "mark", .str "a", .str "zzzzzzzz", .str "same", .str "Ab", .tuple [], .list [], .dict [], .tuple [.str "a"], .tuple [.str "a", .tuple []], .tuple [.tuple []], .list [.str "a"], .str "ninelongs", .str "a b"]
theorem odd_gx : ∀ d ∈ oddL, Gx d 300 3 := by
  have h : oddL.all (fun d => reprOk d && d.showable && decide (wt d ≤ 300) && decide (d.depth ≤ 3)) = true := by decide +kernel
  have hc : ∀ d ∈ oddL, chD d := by
    intro d hd
    simp only [oddL, List.mem_cons, List.not_mem_nil, or_false] at hd
    rcases hd with rfl | rfl | rfl | rfl | rfl | rfl | rfl | rfl | rfl | rfl | rfl | rfl | rfl | rfl | rfl | rfl | rfl | rfl | rfl | rfl | rfl | rfl <;> simp only [chD, chDs, chDk, and_true, true_and] <;> (unfold chS; decide +kernel)
  intro d hd
  have := List.all_eq_true.mp h d hd
  simp only [Bool.and_eq_true, decide_eq_true_eq] at this
  exact ⟨this.1.1.1, this.1.1.2, hc d hd, this.1.2, this.2⟩
end Mh

/-! expressions that change something, one rule each -/
namespace Mh
open PySem L2 Mp Mg

section
variable {c : Ec} {r r1 r2 : Mp.Env}
theorem pes_len : ∀ {qs : List PV} {ds : List D}, pes qs r = some ds → ds.length = qs.length
  | [], ds, h => by cases h; rfl
  | q :: qs, ds, h => by
    obtain ⟨a, e1, e2⟩ := bind_some h
    obtain ⟨b, e3, rfl⟩ := map_some' e2
    rw [List.length_cons, List.length_cons, pes_len e3]
theorem ev_callio {f : Nat} {es : List E} {ds ds' : List D} {d pot pot' : D} {i : Nat} (hfm : c.fm f = .io :: List.replicate es.length .fz) (hm : c.mode i ≠ .fz) (hg : Mp.get r i = some pot) (hp : pes (pvs c es) r = some ds) (hc : c.C f (pot :: ds) = some (d, pot' :: ds')) (hl : ds'.length = ds.length) :
    (ev c (.call f (.var i :: es))).e r = some (d, Mp.put r i pot') := by
  have a := (snds c es).asV hp
  have l1 : (evs c es).length = es.length := evs_len c es
  have l2 : ds.length = es.length := by rw [pes_len hp, (snds c es).len, l1]
  rw [l1] at a
  rw [ev, evs]
  show (Mp.asV c (c.fm f) (ev c (.var i) :: evs c es) r).bind _ = _
  have hv : (ev c (.var i)).v = some i := by rw [ev]; rfl
  have hA : Mp.asV c (.io :: List.replicate es.length .fz) (ev c (.var i) :: evs c es) r = some (Ar.ref i :: ds.map Ar.val, r) := by
    unfold Mp.asV
    simp only [hv, hm, hg, Option.isSome_some, Bool.true_eq_false, or_self, if_false, a, Option.map_some]
  rw [hfm, hA]
  show Mp.callWith c f _ r = _
  unfold Mp.callWith
  have e1 : refsOf (Ar.ref i :: ds.map Ar.val) = [i] := by rw [refsOf, refs_val]
  have e2 : arAll r (Ar.ref i :: ds.map Ar.val) = some (pot :: ds) := by
    rw [arAll, arAll_val]
    simp only [Ar.res, hg, Option.bind_some]
  rw [e1, e2, if_pos (by simp)]
  simp only [Option.bind_some, hc]
  rw [if_pos (by simp [hl])]
  rw [outs, outs_val]
  simp [Mp.wipe, Mp.put]
theorem ev_idx {a b : E} {x d : D} {i : Int} (hv : (pv c a).v = none) (h : (pv c a).e r = some x) (hb : (ev c b).e r = some (.int i, r1)) (hx : Mp.idx x (.int i) = some d) : (ev c (.idx a b)).e r = some (d, r1) := by
  rw [ev]
  show idxE c _ _ r = _
  unfold idxE View.o
  rw [(snd c a).v, hv]
  simp only [(snd c a).e _ _ h, Option.map_some, Option.bind_some, hb, Op.res, hx]
theorem ev_bin {o : Operator} {a b : E} {x y z : D} (hv : (pv c a).v = none) (hw : (pv c b).v = none) (h : (ev c a).e r = some (x, r1)) (hb : (ev c b).e r1 = some (y, r2)) (hx : Mp.bin o x y = some z) : (ev c (.bin o a b)).e r = some (z, r2) := by
  rw [ev]
  show binE c _ _ _ r = _
  unfold binE View.o
  rw [(snd c a).v, hv, (snd c b).v, hw]
  simp only [h, Option.map_some, Option.bind_some, hb, Op.res, hx]
theorem ev_tup1 {e : E} {d : D} (h : (ev c e).e r = some (d, r1)) : (ev c (.tup [e])).e r = some (.tuple [d], r1) := by
  rw [ev, evs, evs]
  show ((esV [ev c e] r).bind _ : Option (D × Mp.Env)) = _
  simp only [esV, h, Option.bind_some, Option.map_some]
  simp
theorem ev_of {e : E} {d : D} (h : (pv c e).e r = some d) : (ev c e).e r = some (d, r) := (snd c e).e _ _ h
theorem ev_gt {a b : E} {x y : Int} (hv : (pv c a).v = none) (hw : (pv c b).v = none) (h : (ev c a).e r = some (.int x, r1)) (hb : (ev c b).e r1 = some (.int y, r2)) : (ev c (.cmp .Gt a b)).t r = some (decide (y < x), r2) := by
  rw [ev]
  show asT (binE c _ _ _) r = _
  unfold asT binE View.o
  rw [(snd c a).v, hv, (snd c b).v, hw]
  simp only [h, Option.map_some, Option.bind_some, hb, Op.res]
  rfl
end
end Mh

/-! odd things, bent things -/
namespace Mh
open PySem L2 Mp Mg

def signL : List D := [.str "a", .str "z", .str " ", .str "A", .str "1", .str "q"]
theorem sign_ok : ∀ d ∈ signL, ∃ s, d = .str s ∧ s.length ≤ 1 ∧ chS s := by
  intro d hd
  simp only [signL, List.mem_cons, List.not_mem_nil, or_false] at hd
  rcases hd with rfl | rfl | rfl | rfl | rfl | rfl <;> exact ⟨_, rfl, by decide +kernel, by unfold chS; decide +kernel⟩
section
variable {P : List FD} {wf : Nat}
theorem odd_ok (h7 : P[7]? = some Mf.fd__law_take) (h14 : P[14]? = some Mf.fd__law_odd) {n m : Nat} {pot : D} (hp : Pot m pot) (hm : m ≤ 1000000) : ∃ o pot', run P wf (n + 2) 14 [pot] = some (o, [pot']) ∧ o ∈ oddL ∧ Pot (m + 1) pot' := by
  obtain ⟨v, p1, t, v0, v1, hp1⟩ := take_spec h7 (wf := wf) (n := n) hp hm (k := 22) (by omega) (by omega)
  obtain ⟨o, ho, hi⟩ := atI_mem (ds := oddL) v0 (by simpa [oddL] using v1)
  have fm7 := fm_of h7
  have key := run_io (P := P) (wf := wf) (n := n + 1) (args := [pot]) (Φ := fun d os => d = o ∧ os = [p1]) h14 rfl (by
    simp only [Mf.fd__law_odd, List.map, List.length, List.replicate]
    refine B_reti ⟨(o, _), ev_idx (x := .list oddL) (i := v) rfl (by kernel_rfl) (ev_callio (pot' := p1) (ds' := [.int 22]) fm7 (by simp [Ec.mode]) rfl rfl t rfl) hi, ?_⟩
    simp [Mp.get, Mp.put])
  obtain ⟨d, os, e, rfl, rfl⟩ := key
  exact ⟨_, _, e, ho, hp1⟩
mutual
theorem plain_ts : ∀ d : D, tsOnly d = true → d.plain = true
  | .str _, _ => by simp
  | .tuple xs, h => by
    rw [plain_tuple]
    exact plain_tss xs (by simpa [tsOnly] using h)
  | .none, h => by simp [tsOnly] at h
  | .bool _, h => by simp [tsOnly] at h
  | .int _, h => by simp [tsOnly] at h
  | .list _, h => by simp [tsOnly] at h
  | .dict _, h => by simp [tsOnly] at h
theorem plain_tss : ∀ ds : List D, tsOnlys ds = true → PyData.plainAll ds = true
  | [], _ => by simp
  | d :: ds, h => by
    simp only [tsOnlys, Bool.and_eq_true] at h
    rw [plain_cons, plain_ts d h.1, plain_tss ds h.2]
    rfl
end
theorem plain_of_ts {ds : List D} (h : tsOnly (.tuple ds) = true) : PyData.plainAll ds = true := by simpa using plain_ts _ h
theorem ev_andF {c : Ec} {a b : E} {r : Mp.Env} (h : (pv c a).t r = some false) : (ev c (.and a b)).t r = some (false, r) := by
  rw [ev]
  show ((ev c a).t r).bind _ = _
  rw [(snd c a).t _ _ h]
  rfl
theorem ev_andT {c : Ec} {a b : E} {r : Mp.Env} {q : Bool × Mp.Env} (h : (pv c a).t r = some true) (hb : (ev c b).t r = some q) : (ev c (.and a b)).t r = some q := by
  rw [ev]
  show ((ev c a).t r).bind _ = _
  rw [(snd c a).t _ _ h]
  exact hb
theorem wts_rev : ∀ ds : List D, wts ds.reverse = wts ds
  | [] => rfl
  | x :: ds => by
    rw [List.reverse_cons, wts_app, wts_rev ds]
    simp only [wts]
    omega
theorem B_iteF {c : Ec} {t : E} {a a' ss : List S} {r r1 : Mp.Env} {Q : Post} (h : (ev c t).t r = some (false, r1)) (hb : B c (a' ++ ss) r1 Q) : B c (.ite t a a' :: ss) r Q := B_itei ⟨_, h, by simpa using hb⟩
theorem B_iteT {c : Ec} {t : E} {a a' ss : List S} {r r1 : Mp.Env} {Q : Post} (h : (ev c t).t r = some (true, r1)) (hb : B c (a ++ ss) r1 Q) : B c (.ite t a a' :: ss) r Q := B_itei ⟨_, h, by simpa using hb⟩
theorem add_tup {x y : List D} (h : x.length + y.length ≤ sizeLine) : Mp.bin .Add (.tuple x) (.tuple y) = some (.tuple (x ++ y)) := by
  rw [add_tuple, if_pos h]
theorem cut_take {α : Type} {xs : List α} {i : Int} (h : 0 ≤ i) : Mp.cut xs none (some i) = xs.take i.toNat := by
  obtain ⟨k, rfl⟩ : ∃ k : Nat, i = k := ⟨i.toNat, by omega⟩
  unfold Mp.cut
  rw [HT.sIx_nat, HT.sIx_none, List.drop_zero, Nat.sub_zero, Int.toNat_natCast]
  by_cases hk : k ≤ xs.length
  · rw [Nat.min_eq_left hk]
  · rw [Nat.min_eq_right (by omega), List.take_length, List.take_of_length_le (by omega)]
theorem cut_drop {α : Type} {xs : List α} {i : Int} (h : 0 ≤ i) : Mp.cut xs (some i) none = xs.drop i.toNat := by
  obtain ⟨k, rfl⟩ : ∃ k : Nat, i = k := ⟨i.toNat, by omega⟩
  unfold Mp.cut
  rw [HT.sIx_nat, HT.sIx_none, Int.toNat_natCast]
  by_cases hk : k ≤ xs.length
  · rw [Nat.min_eq_left hk, List.take_of_length_le (by rw [List.length_drop]; omega)]
  · rw [Nat.min_eq_right (by omega), List.drop_length, List.drop_of_length_le (by omega), List.take_nil]
theorem bent_body (h7 : P[7]? = some Mf.fd__law_take) (h14 : P[14]? = some Mf.fd__law_odd) (h15 : P[15]? = some Mf.fd__law_bent) {N : Nat} {deep : Int} (d0 : 0 ≤ deep) {m : Nat} {pot thing : D} {k w X : Nat} (hp : Pot m pot) (hm : m + X + 10 ≤ 1000000) (ht : Ts thing k) (hw : wt thing ≤ w) (hww : w ≤ 100000) {Q : Post}
    (hrec : 0 < deep → ∀ {m : Nat} {pot x : D} {k w : Nat}, Pot m pot → m + X ≤ 1000000 → Ts x k → wt x ≤ w → w ≤ 100000 → ∃ res pot', run P wf (N + 2) 15 [pot, x, .int (deep - 1)] = some (res, [pot', x, .int (deep - 1)]) ∧ Gx res (2 * w + 1000) (k + 4) ∧ Pot (m + X) pot')
    (hQ : ∀ d pot' tl, Gx d (2 * w + 1000) (k + 4) → Pot (m + X + 10) pot' → Q (.rt d) (some pot' :: some thing :: some (.int deep) :: tl)) :
    B (ecOf P wf (N + 2) Mf.fd__law_bent.md) Mf.fd__law_bent.body [some pot, some thing, some (.int deep), none, none, none, none, none, none] Q := by
  have fm7 := fm_of h7
  have fm14 := fm_of h14
  have fm15 := fm_of h15
  obtain ⟨way, p1, t1, w0, w1, hp1⟩ := take_spec h7 (wf := wf) (n := N + 1) hp (by omega) (k := 8) (by omega) (by omega)
  obtain ⟨odd, p2, t2, ho, hp2⟩ := odd_ok h7 h14 (wf := wf) (n := N) hp1 (by omega)
  have go := odd_gx odd ho
  simp only [Mf.fd__law_bent]
  refine B_seti ⟨(.int way, _), ev_callio (pot' := p1) (ds' := [.int 8]) fm7 (by simp [Ec.mode]) rfl rfl t1 rfl, ?_⟩
  simp
  refine B_seti ⟨(odd, _), ev_callio (pot' := p2) (ds' := []) fm14 (by simp [Ec.mode]) rfl rfl t2 rfl, ?_⟩
  simp
  refine B_ite ?_
  cases thing with
  | str x =>
    have hxl : 10 * x.length + 2 ≤ w := by simpa [wt] using hw
    have hxs : x.length ≤ sizeLine := by simp only [sizeLine]; omega
    have hl := lenS hxs
    have hch : chS x := by simpa [chD] using ht.ch
    by_cases w6 : way < 6
    · obtain ⟨at_, p3, t3, a0, a1, hp3⟩ := take_spec h7 (wf := wf) (n := N + 1) hp2 (by omega) (k := (x.length : Int) + 1) (by omega) (by omega)
      obtain ⟨sg, hs, hsi⟩ := atI_mem (ds := signL) w0 (by simpa [signL] using w6)
      obtain ⟨s, rfl, s1, s2⟩ := sign_ok sg hs
      obtain ⟨v, p4, t4, v0, v1, hp4⟩ := take_spec h7 (wf := wf) (n := N + 1) hp3 (by omega) (k := 2) (by omega) (by omega)
      simp [w6]
      refine B_seti ⟨(.int at_, _), ev_callio (pot' := p3) (ds' := [.int ((x.length : Int) + 1)]) fm7 (by simp [Ec.mode]) rfl (by simp [hl]) t3 rfl, ?_⟩
      simp
      refine B_set ⟨.str s, hsi, ?_⟩
      simp
      have cl := fun lo hi => cutS_len x lo hi
      have cc := fun lo hi => cutS_ch hch lo hi
      have c1 := cl none (some at_)
      have c2 := cl (some at_) none
      have c3 := cl (some (at_ + 1)) none
      have d1 := cc none (some at_)
      have d2 := cc (some at_) none
      have d3 := cc (some (at_ + 1)) none
      have e1 := slice_str hxs none (some at_)
      have e2 := slice_str hxs (some at_) none
      have e3 := slice_str hxs (some (at_ + 1)) none
      generalize (⟨(Mp.cut x.cps.toList none (some at_)).toArray⟩ : Str) = A at c1 d1 e1
      generalize (⟨(Mp.cut x.cps.toList (some at_) none).toArray⟩ : Str) = A2 at c2 d2 e2
      generalize (⟨(Mp.cut x.cps.toList (some (at_ + 1)) none).toArray⟩ : Str) = A3 at c3 d3 e3
      have g0 : A.length + s.length ≤ sizeLine := by simp only [sizeLine]; omega
      have g1 : (A ++ s).length + A2.length ≤ sizeLine := by rw [app_len]; simp only [sizeLine]; omega
      have g2 : A.length + A3.length ≤ sizeLine := by simp only [sizeLine]; omega
      have b0 : Mp.bin .Add (.str A) (.str s) = some (.str (A ++ s)) := by show (if _ then _ else _) = _; rw [if_pos g0]
      have b1 : Mp.bin .Add (.str (A ++ s)) (.str A2) = some (.str (A ++ s ++ A2)) := by show (if _ then _ else _) = _; rw [if_pos g1]
      have b2 : Mp.bin .Add (.str A) (.str A3) = some (.str (A ++ A3)) := by show (if _ then _ else _) = _; rw [if_pos g2]
      obtain ⟨res, hr, hi⟩ := atI_mem (ds := [.str (A ++ s ++ A2), .str (A ++ A3)]) v0 (by simpa using v1)
      have gr : Gx res (2 * w + 1000) (k + 4) := by
        have hs : ∃ y : Str, res = .str y ∧ y.length ≤ 2 * x.length + 1 ∧ chS y := by
          simp only [List.mem_cons, List.not_mem_nil, or_false] at hr
          rcases hr with rfl | rfl
          · exact ⟨_, rfl, by rw [app_len, app_len]; omega, app_ch (app_ch d1 s2) d2⟩
          · exact ⟨_, rfl, by rw [app_len]; omega, app_ch d1 d3⟩
        obtain ⟨y, rfl, y1, y2⟩ := hs
        exact ((Ts.str y2).mono (by omega)).gx (by simp only [Mh.wt]; omega)
      refine B_reti ⟨(res, _), ev_idx (x := .list [.str (A ++ s ++ A2), .str (A ++ A3)]) (i := v) rfl ?_ (ev_callio (pot' := p4) (ds' := [.int 2]) fm7 (by simp [Ec.mode]) rfl rfl t4 rfl) hi, hQ _ _ _ gr (hp4.mono (by omega))⟩
      simp [e1, e2, e3, b0, b1, b2]
    · simp [w6]
      refine B_ite ?_
      simp [isT]
      refine B_ite ?_
      simp [isI]
      refine B_ret ⟨odd, rfl, hQ _ _ _ (go.mono (by omega) (by omega)) (hp2.mono (by omega))⟩
  | tuple ds =>
    obtain ⟨k, rfl⟩ : ∃ k', k = k' + 1 := by
      have := ht.dp
      simp only [PyData.depth] at this
      exact ⟨k - 1, by omega⟩
    have hds := ht.of_tuple
    have hws : 3 + wts ds ≤ w := by simpa [wt] using hw
    have hlen := wts_len ds
    have hmx : ∃ mx : Int, 0 < mx ∧ mx ≤ 1000000 ∧ (ds ≠ [] → mx = ds.length) ∧ Mp.prim .max [.int 1, .int (ds.length : Int)] = some (.int mx) := by
      refine ⟨if (ds.length : Int) > 1 then (ds.length : Int) else 1, by split <;> omega, by split <;> omega, fun h => ?_, rfl⟩
      have := List.length_pos_iff.mpr h
      split <;> omega
    obtain ⟨mx, m0, m1, mxl, hmx⟩ := hmx
    obtain ⟨at_, p3, t3, a0, a1, hp3⟩ := take_spec h7 (wf := wf) (n := N + 1) hp2 (by omega) (k := mx) m0 m1
    obtain ⟨to, p4, t4, o0, o1, hp4⟩ := take_spec h7 (wf := wf) (n := N + 1) hp3 (by omega) (k := mx) m0 m1
    obtain ⟨v, p5, t5, v0, v1, hp5⟩ := take_spec h7 (wf := wf) (n := N + 1) hp4 (by omega) (k := 4) (by omega) (by omega)
    simp
    refine B_ite ?_
    simp
    refine B_seti ⟨(.int at_, _), ev_callio (pot' := p3) (ds' := [.int mx]) fm7 (by simp [Ec.mode]) rfl (by simp [hmx]) t3 rfl, ?_⟩
    simp
    refine B_seti ⟨(.int to, _), ev_callio (pot' := p4) (ds' := [.int mx]) fm7 (by simp [Ec.mode]) rfl (by simp [hmx]) t4 rfl, ?_⟩
    simp
    have csub := fun lo hi => cut_sub ds lo hi
    have cw := fun lo hi => wts_sub (cut_sub ds lo hi)
    have cl := fun lo hi => (cut_sub ds lo hi).length_le
    have cm : ∀ lo hi, ∀ x ∈ Mp.cut ds lo hi, Ts x k := fun lo hi x hx => hds x ((cut_sub ds lo hi).subset hx)
    -- the end, where the place is bent itself
    have tail : ∀ pot', Pot (m + 5) pot' → B (ecOf P wf (N + 2) [Md.io, Md.fz, Md.fz, Md.fz, Md.fz, Md.fz, Md.fz, Md.fz, Md.fz]) [S.set (Tg.nm 8) (.lst [(.bin .Add (.slc (.var 1) .abs (.var 5)) (.slc (.var 1) (.bin .Add (.var 5) (.con (.int 1))) .abs)), (.bin .Add (.slc (.var 1) .abs (.bin .Add (.var 5) (.con (.int 1)))) (.slc (.var 1) (.var 5) .abs))]),
    .set (.nm 8) (.bin .Add (.var 8) (.lst [(.bin .Add (.bin .Add (.slc (.var 1) .abs (.var 5)) (.tup [(.var 4)])) (.slc (.var 1) (.var 5) .abs)), (.rev (.var 1)), (.prim .list [(.var 1)])])),
    .ret (.idx (.bin .Add (.var 8) (.lst [(.bin .Add (.bin .Add (.slc (.var 1) .abs (.var 5)) (.slc (.var 1) (.var 7) (.bin .Add (.var 7) (.con (.int 1))))) (.slc (.var 1) (.bin .Add (.var 5) (.con (.int 1))) .abs)), (.bin .Add (.var 1) (.tup [(.var 4)])), (.var 4)])) (.var 3))] [some pot', some (.tuple ds), some (.int deep), some (.int way), some odd, some (.int at_), none, some (.int to), none] Q := by
      intro pot' hpot
      have g12 : (Mp.cut ds none (some at_)).length + (Mp.cut ds (some (at_ + 1)) none).length ≤ sizeLine := by have := cl none (some at_); have := cl (some (at_ + 1)) none; simp only [sizeLine]; omega
      have g34 : (Mp.cut ds none (some (at_ + 1))).length + (Mp.cut ds (some at_) none).length ≤ sizeLine := by have := cl none (some (at_ + 1)); have := cl (some at_) none; simp only [sizeLine]; omega
      have g1o : (Mp.cut ds none (some at_)).length + 1 ≤ sizeLine := by have := cl none (some at_); simp only [sizeLine]; omega
      have g1o4 : (Mp.cut ds none (some at_)).length + 1 + (Mp.cut ds (some at_) none).length ≤ sizeLine := by have := cl none (some at_); have := cl (some at_) none; simp only [sizeLine]; omega
      have g15 : (Mp.cut ds none (some at_)).length + (Mp.cut ds (some to) (some (to + 1))).length ≤ sizeLine := by have := cl none (some at_); have := cl (some to) (some (to + 1)); simp only [sizeLine]; omega
      have g152 : (Mp.cut ds none (some at_)).length + (Mp.cut ds (some to) (some (to + 1))).length + (Mp.cut ds (some (at_ + 1)) none).length ≤ sizeLine := by have := cl none (some at_); have := cl (some to) (some (to + 1)); have := cl (some (at_ + 1)) none; simp only [sizeLine]; omega
      have gd1 : ds.length + 1 ≤ sizeLine := by simp only [sizeLine]; omega
      refine B_set ⟨.list [.tuple (Mp.cut ds none (some at_) ++ Mp.cut ds (some (at_ + 1)) none), .tuple (Mp.cut ds none (some (at_ + 1)) ++ Mp.cut ds (some at_) none)], by simp [slice_tuple, g12, g34], ?_⟩
      simp
      refine B_set ⟨.list [.tuple (Mp.cut ds none (some at_) ++ Mp.cut ds (some (at_ + 1)) none), .tuple (Mp.cut ds none (some (at_ + 1)) ++ Mp.cut ds (some at_) none), .tuple (Mp.cut ds none (some at_) ++ odd :: Mp.cut ds (some at_) none), .tuple ds.reverse, .list ds], by simp [slice_tuple, g1o, g1o4], ?_⟩
      simp
      obtain ⟨res, hr, hi⟩ := atI_mem (ds := [.tuple (Mp.cut ds none (some at_) ++ Mp.cut ds (some (at_ + 1)) none), .tuple (Mp.cut ds none (some (at_ + 1)) ++ Mp.cut ds (some at_) none), .tuple (Mp.cut ds none (some at_) ++ odd :: Mp.cut ds (some at_) none), .tuple ds.reverse, .list ds, .tuple (Mp.cut ds none (some at_) ++ (Mp.cut ds (some to) (some (to + 1)) ++ Mp.cut ds (some (at_ + 1)) none)), .tuple (ds ++ [odd]), odd]) w0 (by simpa using w1)
      have gr : Gx res (2 * w + 1000) (k + 1 + 4) := by
        have w1 := cw none (some at_)
        have w2 := cw (some (at_ + 1)) none
        have w3 := cw none (some (at_ + 1))
        have w4 := cw (some at_) none
        have w5 := cw (some to) (some (to + 1))
        have m1 := cm none (some at_)
        have m2 := cm (some (at_ + 1)) none
        have m3 := cm none (some (at_ + 1))
        have m4 := cm (some at_) none
        have m5 := cm (some to) (some (to + 1))
        have w12 : wts (Mp.cut ds none (some at_)) + wts (Mp.cut ds (some (at_ + 1)) none) ≤ wts ds := by
          rw [cut_take a0, cut_drop (by omega), show (at_ + 1).toNat = at_.toNat + 1 by omega, ← wts_app]
          refine wts_sub ?_
          conv => rhs; rw [← List.take_append_drop at_.toNat ds]
          refine List.Sublist.append_left ?_ _
          exact List.drop_sublist_drop_left _ (by omega)
        have two : ∀ {A B : List D}, (∀ x ∈ A, Ts x k) → (∀ x ∈ B, Ts x k) → ∀ x ∈ A ++ B, Ts x k := fun hA hB x hx => (List.mem_append.mp hx).elim (hA x) (hB x)
        simp only [List.mem_cons, List.not_mem_nil, or_false] at hr
        rcases hr with rfl | rfl | rfl | rfl | rfl | rfl | rfl | rfl
        · exact (gx_tuple0 (two m1 m2) (w := 2 * wts ds) (by rw [wts_app]; omega)).mono (by omega) (by omega)
        · exact (gx_tuple0 (two m3 m4) (w := 2 * wts ds) (by rw [wts_app]; omega)).mono (by omega) (by omega)
        · exact (gx_tuple1 (k := k + 4) (fun y hy => (m1 y hy).mono (by omega)) (fun y hy => (m4 y hy).mono (by omega)) (go.mono (w' := 300) (by omega) (by omega)) (w := 2 * wts ds) (by omega)).mono (by omega) (by omega)
        · exact (gx_tuple0 (fun x hx => hds x (by simpa using hx)) (w := wts ds) (by rw [wts_rev]; omega)).mono (by omega) (by omega)
        · exact (gx_list0 hds (w := wts ds) (by omega)).mono (by omega) (by omega)
        · exact (gx_tuple0 (two m1 (two m5 m2)) (w := 2 * wts ds) (by rw [wts_app, wts_app]; omega)).mono (by omega) (by omega)
        · exact (gx_tuple1 (b := []) (k := k + 4) (fun y hy => (hds y hy).mono (by omega)) (by simp) (go.mono (w' := 300) (by omega) (by omega)) (w := wts ds) (by simp [wts])).mono (by omega) (by omega)
        · exact go.mono (by omega) (by omega)
      refine B_ret ⟨res, ?_, hQ _ _ _ gr (hpot.mono (by omega))⟩
      simp [slice_tuple, g15, g152, gd1]
      exact hi
    by_cases hd : 0 < deep
    · by_cases hne : ds = []
      · exact B_iteF (ev_andT (by simp [hd]) (ev_andF (by simp [hne]))) (tail p4 (hp4.mono (by omega)))
      · have hpl : PyData.plainAll ds = true := plain_of_ts ht.ts
        have htest := ev_gt (c := ecOf P wf (N + 2) [Md.io, Md.fz, Md.fz, Md.fz, Md.fz, Md.fz, Md.fz, Md.fz, Md.fz]) (r := [some p4, some (.tuple ds), some (.int deep), some (.int way), some odd, some (.int at_), none, some (.int to), none]) (a := .call 7 [(.var 0), (.con (.int 4))]) (b := .con (.int 0)) rfl rfl (ev_callio (pot' := p5) (ds' := [.int 4]) fm7 (by simp [Ec.mode]) rfl rfl t5 rfl) (ev_of rfl)
        by_cases hv : 0 < v
        · rw [decide_eq_true hv] at htest
          refine B_iteT (ev_andT (by simp [hd]) (ev_andT (by simp [hne, hpl]) htest)) ?_
          have hmx := mxl hne
          obtain ⟨x, hx, hxi⟩ := atI_mem (ds := ds) a0 (by omega)
          obtain ⟨res, p6, t6, g6, hp6⟩ := hrec hd hp5 (by omega) (hds x hx) (Nat.le_refl _) (by have := wt_mem hx; omega)
          have b1 : (Mp.cut ds none (some at_)).length + 1 ≤ sizeLine := by have := cl none (some at_); simp only [sizeLine]; omega
          have b2 : (Mp.cut ds none (some at_) ++ [res]).length + (Mp.cut ds (some (at_ + 1)) none).length ≤ sizeLine := by have := cl none (some at_); have := cl (some (at_ + 1)) none; rw [List.length_append]; simp only [sizeLine, List.length_cons, List.length_nil]; omega
          let c := ecOf P wf (N + 2) [Md.io, Md.fz, Md.fz, Md.fz, Md.fz, Md.fz, Md.fz, Md.fz, Md.fz]
          let r1 : Mp.Env := [some p5, some (.tuple ds), some (.int deep), some (.int way), some odd, some (.int at_), none, some (.int to), none]
          let r2 : Mp.Env := [some p6, some (.tuple ds), some (.int deep), some (.int way), some odd, some (.int at_), none, some (.int to), none]
          have s1 : (ev c (.slc (.var 1) .abs (.var 5))).e r1 = some (.tuple (Mp.cut ds none (some at_)), r1) := ev_of (by simp [c, r1, slice_tuple])
          have s2 : (ev c (.call 15 [(.var 0), (.idx (.var 1) (.var 5)), (.bin .Sub (.var 2) (.con (.int 1)))])).e r1 = some (res, r2) := ev_callio (pot' := p6) (ds' := [x, .int (deep - 1)]) fm15 (by simp [Ec.mode, c]) rfl (by simp [c, r1, hxi]) t6 rfl
          have s3 : (ev c (.slc (.var 1) (.bin .Add (.var 5) (.con (.int 1))) .abs)).e r2 = some (.tuple (Mp.cut ds (some (at_ + 1)) none), r2) := ev_of (by simp [c, r2, slice_tuple])
          refine B_reti ⟨(.tuple (Mp.cut ds none (some at_) ++ [res] ++ Mp.cut ds (some (at_ + 1)) none), r2), ev_bin rfl rfl (ev_bin rfl rfl s1 (ev_tup1 s2) (add_tup b1)) s3 (add_tup b2), hQ _ _ _ ?_ (hp6.mono (by omega))⟩
          have sum : wts (Mp.cut ds none (some at_)) + (wt x + 2) + wts (Mp.cut ds (some (at_ + 1)) none) = wts ds := by
            rw [cut_take a0, cut_drop (by omega), show (at_ + 1).toNat = at_.toNat + 1 by omega]
            have hg : ds[at_.toNat]? = some x := by
              unfold L2.atI L2.ixN at hxi
              rw [if_pos a0] at hxi
              split at hxi
              · exact hxi
              · cases hxi
            obtain ⟨hl, hg⟩ := List.getElem?_eq_some_iff.mp hg
            have e : ds = ds.take at_.toNat ++ x :: ds.drop (at_.toNat + 1) := by
              rw [← hg, ← List.drop_eq_getElem_cons hl, List.take_append_drop]
            conv => rhs; rw [e, wts_app, wts]
            omega
          have gt := gx_tuple1 (k := k + 4) (fun y hy => (cm none (some at_) y hy).mono (by omega)) (fun y hy => (cm (some (at_ + 1)) none y hy).mono (by omega)) g6 (Nat.le_refl _)
          rw [List.append_assoc]
          exact gt.mono (by omega) (by omega)
        · rw [decide_eq_false hv] at htest
          exact B_iteF (ev_andT (by simp [hd]) (ev_andT (by simp [hne, hpl]) htest)) (tail p5 (hp5.mono (by omega)))
    · exact B_iteF (ev_andF (by simp [hd])) (tail p4 (hp4.mono (by omega)))
  | none => have := ht.ts; simp [tsOnly] at this
  | bool _ => have := ht.ts; simp [tsOnly] at this
  | int _ => have := ht.ts; simp [tsOnly] at this
  | list _ => have := ht.ts; simp [tsOnly] at this
  | dict _ => have := ht.ts; simp [tsOnly] at this
end
end Mh

/-! bent things, texts -/
namespace Mh
open PySem L2 Mp Mg

section
variable {P : List FD} {wf : Nat}
theorem bent_ok (h7 : P[7]? = some Mf.fd__law_take) (h14 : P[14]? = some Mf.fd__law_odd) (h15 : P[15]? = some Mf.fd__law_bent) : ∀ (deep : Nat) {n m : Nat} {pot thing : D} {k w : Nat}, Pot m pot → m + 10 * (deep + 1) ≤ 1000000 → Ts thing k → wt thing ≤ w → w ≤ 100000 →
    ∃ res pot', run P wf (n + deep + 3) 15 [pot, thing, .int (deep : Nat)] = some (res, [pot', thing, .int (deep : Nat)]) ∧ Gx res (2 * w + 1000) (k + 4) ∧ Pot (m + 10 * (deep + 1)) pot' := by
  intro deep
  induction deep with
  | zero =>
    intro n m pot thing k w hp hm ht hw hww
    have key := run_io (P := P) (wf := wf) (n := n + 2) (args := [pot, thing, .int ((0 : Nat) : Int)]) (Φ := fun d os => ∃ pot', os = [pot', thing, .int ((0 : Nat) : Int)] ∧ Gx d (2 * w + 1000) (k + 4) ∧ Pot (m + 10 * (0 + 1)) pot') h15 rfl
      (bent_body (N := n) (X := 0) h7 h14 h15 (by omega) hp (by omega) ht hw hww (fun h => absurd h (by decide)) fun d pot' tl g p => ⟨d, rfl, rfl, pot', rfl, g, p⟩)
    obtain ⟨d, os, e, pot', rfl, h1, h2⟩ := key
    exact ⟨_, _, e, h1, h2⟩
  | succ deep ih =>
    intro n m pot thing k w hp hm ht hw hww
    have key := run_io (P := P) (wf := wf) (n := n + deep + 3) (args := [pot, thing, .int ((deep + 1 : Nat) : Int)]) (Φ := fun d os => ∃ pot', os = [pot', thing, .int ((deep + 1 : Nat) : Int)] ∧ Gx d (2 * w + 1000) (k + 4) ∧ Pot (m + 10 * (deep + 1 + 1)) pot') h15 rfl
      (bent_body (N := n + deep + 1) (X := 10 * (deep + 1)) h7 h14 h15 (by omega) hp (by omega) ht hw hww (fun _ {m pot x k w} a b c d e => by
        obtain ⟨res, pot', h1, h2, h3⟩ := ih (n := n) a b c d e
        have e1 : ((deep + 1 : Nat) : Int) - 1 = (deep : Int) := by omega
        rw [e1]
        exact ⟨res, pot', h1, h2, h3⟩) fun d pot' tl g p => ⟨d, rfl, rfl, pot', rfl, g, p⟩)
    obtain ⟨d, os, e, pot', rfl, h1, h2⟩ := key
    exact ⟨_, _, e, h1, h2⟩
theorem ev_binV {c : Ec} {r r2 : Mp.Env} {o : Operator} {i : Nat} {b : E} {x y z : D} (hm : c.mode i = .fz) (hg : Mp.get r i = some x) (hw : (pv c b).v = none := by rfl) (hb : (ev c b).e r = some (y, r2)) (hx : Mp.bin o x y = some z) : (ev c (.bin o (.var i) b)).e r = some (z, r2) := by
  rw [ev]
  show binE c _ _ _ r = _
  have hv : (ev c (.var i)).v = some i := by rw [ev]; rfl
  unfold binE View.o
  rw [hv, (snd c b).v, hw]
  simp only [hg, hm, if_true, hb, Option.map_some, Option.bind_some, Op.res, hx]
theorem ev_idxV {c : Ec} {r r2 : Mp.Env} {i : Nat} {b : E} {x z : D} {k : Int} (hm : c.mode i = .fz) (hg : Mp.get r i = some x) (hb : (ev c b).e r = some (.int k, r2)) (hx : Mp.idx x (.int k) = some z) : (ev c (.idx (.var i) b)).e r = some (z, r2) := by
  rw [ev]
  show idxE c _ _ r = _
  have hv : (ev c (.var i)).v = some i := by rw [ev]; rfl
  unfold idxE View.o
  rw [hv]
  simp only [hg, hm, if_true, hb, Option.map_some, Option.bind_some, Op.res, hx]
theorem atI_last (xs : List D) (x : D) : L2.atI (xs ++ [x]) (-1) = some x := by
  unfold L2.atI L2.ixN
  rw [if_neg (by decide), if_pos (by simp only [List.length_append, List.length_cons, List.length_nil]; omega)]
  simp only [Option.bind_some, List.length_append, List.length_cons, List.length_nil]
  have e : (-1 + ((xs.length + (0 + 1) : Nat) : Int)).toNat = xs.length := by omega
  rw [e]
  simp
/-- the signs of the texts -/
def signsT : Str := "abcdefghijklmnopqrstuvwxyzABZ019 _-.,~()\n"
theorem signsT_len : signsT.length = 41 := by decide +kernel
theorem texts_ok (h7 : P[7]? = some Mf.fd__law_take) (h8 : P[8]? = some Mf.fd__law_words) (h18 : P[18]? = some Mf.fd__law_texts) {n m : Nat} {pot : D} {ks : KS} (hp : Pot m pot) (hm : m + 100 ≤ 1000000) (ok : KOk ks) :
    ∃ ts pot', run P wf (n + 2) 18 [pot, ksD ks] = some (.list ts, [pot', ksD ks]) ∧ (∀ t ∈ ts, szS t) ∧ Pot (m + 100) pot' := by
  have fm7 := fm_of h7
  have fm8 := fm_of h8
  obtain ⟨v, p1, t1, v0, v1, hp1⟩ := take_spec h7 (wf := wf) (n := n) hp (by omega) (k := 10) (by omega) (by omega)
  obtain ⟨N, rfl⟩ : ∃ N : Nat, v = N := ⟨v.toNat, by omega⟩
  have key := run_io (P := P) (wf := wf) (n := n + 1) (args := [pot, ksD ks]) (Φ := fun d os => ∃ ts pot', d = .list ts ∧ os = [pot', ksD ks] ∧ (∀ t ∈ ts, szS t) ∧ Pot (m + 100) pot') h18 rfl (by
    simp only [Mf.fd__law_texts, List.map, List.length, List.replicate]
    refine B_set ?_
    simp
    refine B_set ?_
    simp
    obtain ⟨t, e1, e2, e3⟩ := rng_srci (c := ecOf P wf (n + 1) [Md.io, Md.fz, Md.fz, Md.fz, Md.fz, Md.fz]) (e := .call 7 [(.var 0), (.con (.int 10))]) (r := [some pot, some (ksD ks), some (.str signsT), some (.str ""), none, none]) (ev_callio (pot' := p1) (ds' := [.int 10]) fm7 (by simp [Ec.mode]) rfl rfl t1 rfl) (by omega)
    refine B_forG (List.range N) (fun k => .int ((k : Nat) : Int)) (fun pre r => ∃ pot' x, r = [some pot', some (ksD ks), some (.str signsT), some (.str x), none, none] ∧ x.length ≤ pre.length ∧ Pot (m + 1 + pre.length) pot') e1 e2 ?_ ?_ ?_ ?_ ?_
    · unfold Its.out; rw [e3]
    · intro l r _; unfold Its.ok; rw [e3]
    · exact ⟨p1, "", by simp [Mp.wipe, Mp.put], by decide +kernel, hp1⟩
    · rintro pre k post r hk ⟨pot', x, rfl, hx, hp'⟩
      have hpl : pre.length ≤ 10 := by
        have := congrArg List.length hk
        simp at this
        omega
      obtain ⟨u, p2, t2, u0, u1, hp2⟩ := take_spec h7 (wf := wf) (n := n) hp' (by omega) (k := 41) (by omega) (by omega)
      have hsl : Mp.prim .len [.str signsT] = some (.int 41) := by rw [lenS (by rw [signsT_len]; simp [sizeLine]), signsT_len]; rfl
      obtain ⟨s, hs, hsi⟩ : ∃ s : Str, s.length = 1 ∧ Mp.idx (.str signsT) (.int u) = some (.str s) := by
        have hL : signsT.cps.toList.length = 41 := by decide +kernel
        have hl : u.toNat < signsT.cps.toList.length := by rw [hL]; omega
        refine ⟨⟨#[signsT.cps.toList[u.toNat]]⟩, rfl, ?_⟩
        have q1 : signsT.length ≤ sizeLine := by rw [signsT_len]; simp [sizeLine]
        have q2 : u < (signsT.cps.toList.length : Int) := by rw [hL]; omega
        have q3 : L2.atI signsT.cps.toList u = some signsT.cps.toList[u.toNat] := by
          unfold L2.atI L2.ixN
          rw [if_pos u0, if_pos q2]
          exact List.getElem?_eq_getElem hl
        show (if signsT.length ≤ sizeLine then (L2.atI signsT.cps.toList u).map fun c => PyData.str ⟨#[c]⟩ else none) = _
        rw [if_pos q1, q3]
        rfl
      simp
      refine B_seti ⟨(.str (x ++ s), _), ev_binV (i := 3) (by simp [Ec.mode]) rfl rfl (ev_idxV (i := 2) (by simp [Ec.mode]) rfl (ev_callio (pot' := p2) (ds' := [.int 41]) fm7 (by simp [Ec.mode]) rfl (by simp [hsl]) t2 rfl) hsi) (by
        show (if _ then _ else _) = _
        rw [if_pos (by simp only [sizeLine]; omega)]), ?_⟩
      simp
      refine B_nil ?_
      simp
      exact ⟨p2, x ++ s, ⟨rfl, rfl⟩, by rw [app_len]; omega, hp2.mono (by omega)⟩
    · rintro r ⟨pot', x, rfl, hx, hp'⟩
      rw [List.length_range] at hx hp'
      obtain ⟨u, p2, t2, u0, u1, hp2⟩ := take_spec h7 (wf := wf) (n := n) hp' (by omega) (k := 8) (by omega) (by omega)
      obtain ⟨wd, hwd, hwi⟩ := atI_mem (ds := sD noWords) u0 (by simpa [noWords] using u1)
      obtain ⟨w, rfl, w8⟩ : ∃ w : Str, wd = .str w ∧ w.length ≤ 8 := by
        obtain ⟨w, hw, rfl⟩ := List.mem_map.mp hwd
        refine ⟨w, rfl, ?_⟩
        have : noWords.all (fun w => decide (w.length ≤ 8)) = true := by decide +kernel
        exact of_decide_eq_true (List.all_eq_true.mp this w hw)
      have p8 := law_words_ok h8 (wf := wf) (n := n)
      refine B_seti ⟨(.str w, _), ev_idx (x := .list (sD noWords)) (i := u) rfl (by simp [fm8, Mf.fd__law_words, p8]) (ev_callio (pot' := p2) (ds' := [.int 8]) fm7 (by simp [Ec.mode]) rfl rfl t2 rfl) hwi, ?_⟩
      simp
      have nm : ∀ w ∈ kindNames ks ++ makers ks, szS (.str w) := fun w hw => by
        obtain ⟨l, rfl, _, l8, _⟩ := ok.nm w hw
        show (Mg.tx l).length ≤ sizeLine
        rw [tx_len]
        simp only [sizeLine]
        omega
      obtain ⟨a, A, hA⟩ : ∃ a A, ks = a :: A := by
        have := ok.len.1
        cases ks with
        | nil => simp at this
        | cons a A => exact ⟨a, A, rfl⟩
      obtain ⟨B, b, hB⟩ : ∃ B b, ks = B ++ [b] := by
        have := ok.len.1
        exact ⟨ks.dropLast, ks.getLast (by intro z; subst z; simp at this), (List.dropLast_concat_getLast _).symm⟩
      have hbk : b ∈ ks := by rw [hB]; simp
      obtain ⟨C, c, hC⟩ : ∃ C c, b.2 = C ++ [c] := by
        have := (ok.rows b hbk).1
        exact ⟨b.2.dropLast, b.2.getLast (by intro z; rw [z] at this; simp at this), (List.dropLast_concat_getLast _).symm⟩
      have i1 : Mp.idx (ksD ks) (.int 0) = some (kindD a) := by rw [hA]; simp [ksD]
      have i2 : Mp.idx (kindD a) (.int 0) = some (.str a.1) := by simp [kindD]
      have i3 : Mp.idx (ksD ks) (.int (-1)) = some (kindD b) := by rw [hB]; simp [ksD, atI_last]
      have i4 : Mp.idx (kindD b) (.int 1) = some (rowsD b.2) := by simp [kindD]
      have i5 : Mp.idx (rowsD b.2) (.int (-1)) = some (rowD c) := by rw [hC]; simp [rowsD, atI_last]
      have i6 : Mp.idx (rowD c) (.int 0) = some (.str c.1) := by simp [rowD]
      have b1 : Mp.bin .Add (.str w) (.str "s") = some (.str (w ++ "s")) := by
        show (if _ then _ else _) = _
        rw [if_pos (by have : (("s" : String) : Str).length = 1 := rfl; simp only [sizeLine]; omega)]
      refine B_ret ⟨.list [.str a.1, .str c.1, .str w, .str (w ++ "s"), .str x, .str "", .str "a", .str "abcdefgh", .str "abcdefghi", .str "Mark", .str "a ", .none, .int 5, .bool true, .tuple [.str "a"], .list [.str "a"]], ?_, ?_⟩
      · simp [-idx_list, -idx_tuple, i1, i2, i3, i4, i5, i6, b1]
      · refine ⟨_, rfl, ?_, ?_⟩
        · intro i hi
          have : i = 0 ∨ i = 1 := by omega
          rcases this with rfl | rfl
          · exact .inr rfl
          · exact .inl rfl
        refine ⟨_, rfl, p2, rfl, ?_, hp2.mono (by omega)⟩
        intro t ht
        simp only [List.mem_cons, List.not_mem_nil, or_false] at ht
        rcases ht with rfl | rfl | rfl | rfl | rfl | rfl | rfl | rfl | rfl | rfl | rfl | rfl | rfl | rfl | rfl | rfl
        · exact nm _ (List.mem_append_left _ (by rw [hA]; simp [kindNames]))
        · refine nm _ (List.mem_append_right _ (List.mem_flatMap.mpr ⟨b, hbk, ?_⟩))
          rw [hC]; simp
        · show _ ≤ _; simp only [sizeLine]; omega
        · show _ ≤ _; rw [app_len]; have : (("s" : String) : Str).length = 1 := rfl; simp only [sizeLine]; omega
        · show _ ≤ _; simp only [sizeLine]; omega
        all_goals first | trivial | (show _ ≤ _; decide +kernel))
  obtain ⟨d, os, e, ts, pot', rfl, rfl, h1, h2⟩ := key
  exact ⟨_, _, e, h1, h2⟩
end
end Mh

/-! written things of k01; a comprehension that calls with a list handed in -/
namespace Mh
open PySem L2 Mp Mg

mutual
def chB : D → Bool
  | .none => true
  | .bool _ => true
  | .int _ => true
  | .str x => x.cps.toList.all fun c => decide (c < 16 ^ 8)
  | .list xs => chBs xs
  | .tuple xs => chBs xs
  | .dict kvs => chBk kvs
def chBs : List D → Bool
  | [] => true
  | x :: xs => chB x && chBs xs
def chBk : List (D × D) → Bool
  | [] => true
  | (k, v) :: r => chB k && (chB v && chBk r)
end
mutual
theorem chB_ok : ∀ d : D, chB d = true → chD d
  | .none, _ => by simp [chD]
  | .bool _, _ => by simp [chD]
  | .int _, _ => by simp [chD]
  | .str x, h => by
    simp only [chD, chS]
    simpa only [chB, List.all_eq_true, decide_eq_true_eq] using h
  | .list xs, h => by simp only [chD]; exact chBs_ok xs (by simpa only [chB] using h)
  | .tuple xs, h => by simp only [chD]; exact chBs_ok xs (by simpa only [chB] using h)
  | .dict kvs, h => by simp only [chD]; exact chBk_ok kvs (by simpa only [chB] using h)
theorem chBs_ok : ∀ ds : List D, chBs ds = true → chDs ds
  | [], _ => by simp [chDs]
  | d :: ds, h => by
    simp only [chBs, Bool.and_eq_true] at h
    simp only [chDs]
    exact ⟨chB_ok d h.1, chBs_ok ds h.2⟩
theorem chBk_ok : ∀ ds : List (D × D), chBk ds = true → chDk ds
  | [], _ => by simp [chDk]
  | (k, v) :: ds, h => by
    simp only [chBk, Bool.and_eq_true] at h
    simp only [chDk]
    exact ⟨chB_ok k h.1, chB_ok v h.2.1, chBk_ok ds h.2.2⟩
end
def gxB (d : D) (w k : Nat) : Bool := reprOk d && d.showable && chB d && decide (wt d ≤ w) && decide (d.depth ≤ k)
theorem gxB_ok {d : D} {w k : Nat} (h : gxB d w k = true) : Gx d w k := by
  simp only [gxB, Bool.and_eq_true, decide_eq_true_eq] at h
  exact ⟨h.1.1.1.1, h.1.1.1.2, chB_ok d h.1.1.2, h.1.2, h.2⟩
def wrD : List D := match fnC (run (List.replicate 17 Mf.fd__law_words ++ [Mf.fd__law_written]) 0 1) 17 [] with
  | some (.list l) => l
  | _ => []
theorem written1_ok {P : List FD} (h : P[17]? = some Mf.fd__law_written) {wf n : Nat} : fnC (run P wf (n + 1)) 17 [] = some (.list wrD) := by
  unfold fnC
  rw [run_eq h]
  kernel_rfl
theorem wrD_gx : ∀ d ∈ wrD, Gx d 30000 10 := by
  have h : wrD.all (fun d => gxB d 30000 10) = true := by decide +kernel
  exact fun d hd => gxB_ok (List.all_eq_true.mp h d hd)
theorem wrD_len : wrD.length ≤ 100 := by decide +kernel
theorem ks_ts {ks : KS} (ok : KOk ks) : Ts (ksD ks) 5 := by
  have h := ks_sh ok
  refine ⟨?_, h.ch, h.dp⟩
  unfold ksD
  simp only [tsOnly]
  refine tsOnlys_iff.mpr fun x hx => ?_
  obtain ⟨k, hk, rfl⟩ := List.mem_map.mp hx
  simp only [kindD, tsOnly, tsOnlys, rowsD, Bool.true_and, Bool.and_true]
  refine tsOnlys_iff.mpr fun x hx => ?_
  obtain ⟨r, hr, rfl⟩ := List.mem_map.mp hx
  simp only [rowD, tsOnly, tsOnlys, Bool.true_and, Bool.and_true]
  refine tsOnlys_iff.mpr fun x hx => ?_
  obtain ⟨s, hs, rfl⟩ := List.mem_map.mp hx
  simp [tsOnly]
section
variable {c : Ec} {r r1 r2 : Mp.Env}
theorem plainV_i {e : Mp.Env → Option (D × Mp.Env)} {ds : List D} (h : e r = some (.list ds, r1)) : (plainV e).i r = some (⟨ds, none⟩, r1) := by
  show ((((e r).map fun p => (Op.val p.1, p.2)) : Option (Op × Mp.Env)).bind fun p => (itsOf p.2 p.1).map fun t => (t, p.2)) = _
  rw [h]
  rfl
/-- what a made list is walked -/
theorem ev_binI {o : Operator} {a b : E} {ds : List D} (h : (ev c (.bin o a b)).e r = some (.list ds, r1)) : (ev c (.bin o a b)).i r = some (⟨ds, none⟩, r1) := by
  rw [ev] at h ⊢
  exact plainV_i h
theorem ev_callI {f : Nat} {as : List E} {ds : List D} (h : (ev c (.call f as)).e r = some (.list ds, r1)) : (ev c (.call f as)).i r = some (⟨ds, none⟩, r1) := by
  rw [ev] at h ⊢
  exact plainV_i h
end
end Mh

/-! law_k01: names and kinds known -/
namespace Mq
open PySem L2 Mp Mg Mh

structure PL (P : List FD) : Prop extends PK P where
  h0 : P[0]? = some fd_law
  h6 : P[6]? = some Mf.fd__law_pot
  h7 : P[7]? = some Mf.fd__law_take
  h8 : P[8]? = some Mf.fd__law_words
  h9 : P[9]? = some Mf.fd__law_is_name
  h10 : P[10]? = some Mf.fd__law_word
  h11 : P[11]? = some Mf.fd__law_row
  h12 : P[12]? = some Mf.fd__law_kinds
  h13 : P[13]? = some Mf.fd__law_sizes
  h14 : P[14]? = some Mf.fd__law_odd
  h15 : P[15]? = some Mf.fd__law_bent
  h16 : P[16]? = some Mf.fd__law_are_kinds
  h17 : P[17]? = some Mf.fd__law_written
  h18 : P[18]? = some Mf.fd__law_texts
abbrev mdL : List Md := [Md.fz, Md.fz, Md.ow, Md.fz, Md.fz, Md.fz, Md.fz, Md.fz]
section
variable {P : List FD} (pl : PL P) {wf n : Nat}
include pl
/-- the bent things, one after another -/
theorem bents_ok {S K : D} {m : Nat} {pot : D} {ks : KS} (ok : KOk ks) (hp : Pot m pot) (hm : m + 1000 ≤ 1000000) :
    ∃ xs pot', (ev (ecOf P wf (n + 8) mdL) (.comp [5] (.nm 5) (.rng [(.con (.int 10))]) [] (.call 15 [(.var 2), (.var 3), (.con (.int 5))]))).e [some S, some K, some pot, some (ksD ks), none, none, none, none] = some (.list xs, [some S, some K, some pot', some (ksD ks), none, none, none, none]) ∧
      (∀ x ∈ xs, Gx x 50000 20) ∧ xs.length = 10 ∧ Pot (m + 1000) pot' := by
  have fm15 := fm_of pl.h15
  obtain ⟨t, e1, e2, e3⟩ := rng_srci (c := ecOf P wf (n + 8) mdL) (e := .con (.int 10)) (r := [some S, some K, some pot, some (ksD ks), none, none, none, none]) (r1 := [some S, some K, some pot, some (ksD ks), none, none, none, none]) (N := 10) (ev_of rfl) (by omega)
  obtain ⟨out, r', e, ⟨h1, pot', rfl, h2⟩, h3⟩ := compL_inv (ok := t.ok) (w := fun e => Mp.wipe e [5]) (tg := Mp.assign (ecOf P wf (n + 8) mdL) (.nm 5)) (elt := (ev (ecOf P wf (n + 8) mdL) (.call 15 [(.var 2), (.var 3), (.con (.int 5))])).e)
    (fun acc r => (∀ x ∈ acc, Gx x 50000 20) ∧ ∃ pot', r = [some S, some K, some pot', some (ksD ks), none, none, none, none] ∧ Pot (m + 60 * acc.length) pot') 10 (by simp [sizeLine]) (fun _ _ _ => by unfold Its.ok; rw [e3])
    t.ds [] [some S, some K, some pot, some (ksD ks), none, none, none, none] ⟨by simp, pot, rfl, hp⟩ (by rw [e2]; simp) (fun acc d r hd hlt ⟨hx, pot', hr, hp'⟩ => by
      subst hr
      rw [e2] at hd
      obtain ⟨j, hj, rfl⟩ := List.mem_map.mp hd
      have sh := ks_sh ok
      obtain ⟨res, p2, t2, g2, hp2⟩ := bent_ok pl.h7 pl.h14 pl.h15 (wf := wf) 5 (n := n) hp' (by omega) (ks_ts ok) sh.wt (by omega)
      refine ⟨[some S, some K, some pot', some (ksD ks), none, some (.int j), none, none], res, _, by simp [Mp.assign, Ec.mode, Mp.put, Mp.wipe], ev_callio (pot' := p2) (ds' := [ksD ks, .int 5]) fm15 (by simp [Ec.mode]) rfl rfl t2 rfl, ?_, p2, by simp [Mp.wipe, Mp.put], hp2.mono (by simp; omega)⟩
      intro x hx'
      rcases List.mem_append.mp hx' with h | h
      · exact hx x h
      · simp at h
        subst h
        exact g2.mono (by omega) (by omega))
  refine ⟨out, pot', ?_, h1, h3, h2.mono (by omega)⟩
  rw [ev]
  simp only [plainV, compE, e1, Option.bind_some]
  rw [evs]
  have e' : compL t.ok (fun e => Mp.wipe e [5]) (Mp.assign (ecOf P wf (n + 8) mdL) (.nm 5)) (tsV []) (ev (ecOf P wf (n + 8) mdL) (.call 15 [(.var 2), (.var 3), (.con (.int 5))])).e t.ds [] (Mp.wipe [some S, some K, some pot, some (ksD ks), none, none, none, none] [5]) = some (out, [some S, some K, some pot', some (ksD ks), none, none, none, none]) := e
  rw [e']
  simp [Mp.back, Mp.get]
theorem law_run (ns : List Int) : ∃ d os, run P wf (n + 9) 0 [intsD ns] = some (d, os) ∧ d = .bool true := by
  have fm1 := fm_of pl.h1
  have fm5 := fm_of pl.h5
  have fm6 := fm_of pl.h6
  have fm7 := fm_of pl.h7
  have fm9 := fm_of pl.h9
  have fm12 := fm_of pl.h12
  have fm16 := fm_of pl.h16
  have fm17 := fm_of pl.h17
  have fm18 := fm_of pl.h18
  have fr6 : frOf P 6 = true := by show (P[6]?.map FD.fr).getD false = true; rw [pl.h6]; rfl
  have wok := written1_ok pl.h17 (wf := wf) (n := n + 7)
  refine run_io (Φ := fun d _ => d = .bool true) pl.h0 rfl ?_
  simp only [fd_law, List.map, List.length, List.replicate]
  have hlen : Mp.prim .len [intsD ns] = some (.int ns.length) := by simp [intsD]
  generalize (ns.length : Int) = L at hlen
  have hmm : ∃ N : Nat, N ≤ 12 ∧ Mp.prim .min [.int 12, .int L] = some (.int (if L < 12 then L else 12)) ∧ Mp.prim .max [.int 3, .int (if L < 12 then L else 12)] = some (.int (N : Int)) := by
    refine ⟨(if (if L < 12 then L else 12) > 3 then (if L < 12 then L else 12) else 3).toNat, by split <;> split <;> omega, rfl, ?_⟩
    show some (PyData.int _) = _
    congr 2
    split <;> split <;> omega
  obtain ⟨N, hN, h1, h2⟩ := hmm
  refine B_for (List.range N) (fun k => .int (k : Int)) (fun pre r => r = [some (intsD ns), none, none, none, none, none, none, none]) (rng_src (by simp [hlen, h1, h2]) (by omega)) (by simp) (by simp) ?_ ?_
  · rintro pre k post r hks rfl
    have hk : k ≤ 1000 := by
      have : k ∈ List.range N := by rw [hks]; simp
      have := List.mem_range.mp this
      omega
    obtain ⟨p0, t0, hp0⟩ := pot_spec pl.h6 (wf := wf) (n := n + 7) (ns := ns) (k := k) hk
    obtain ⟨v, p1, t1, v0, v1, hp1⟩ := take_spec pl.h7 (wf := wf) (n := n + 7) hp0 (k := 26) (by omega) (by omega) (by omega)
    obtain ⟨ks, p2, q', t2, ok, _, _, hp2⟩ := kinds_spec pl.h7 pl.h10 pl.h11 pl.h12 (wf := wf) (n := n + 4) hp1 (by omega) v0 (by omega)
    have f0 := fn_of t0 rfl
    have sh := ks_sh ok
    have hk5 := kinds_true pl.toPK (wf := wf) (n := n + 5) ok
    simp
    refine B_own ?_
    simp [fm6, Mf.fd__law_pot, fr6, f0]
    refine B_seti ?_
    simp [ev, evs, varV, varE, plainV, asT, asI, View.o, binE, idxE, slcE, primE, osV, resAll, Op.res, notE, andE, orE, listE, esV, asV, Mp.callWith, refsOf, arAll, Ar.res, outs, Mp.get, Mp.put, Mp.wipe, Mp.assign, Mp.assign.go, Mp.seq?, Ec.mode, fm12, Mf.fd__law_kinds, fm7, Mf.fd__law_take, t1, t2]
    have is1 : ∀ b c : Bool, Mp.cmp .IsNot (.bool b) (.bool c) = some (.bool (!(b == c))) := fun b c => by cases b <;> cases c <;> rfl
    refine B_ite ?_
    simp [fm5, Mf.fd_is_kinds, hk5, is1]
    obtain ⟨xs, p3, e3, g3, l3, hp3⟩ := bents_ok pl (wf := wf) (n := n) (S := intsD ns) (K := .int k) ok hp2 (by omega)
    obtain ⟨ts, p4, t4, g4, hp4⟩ := texts_ok pl.h7 pl.h8 pl.h18 (wf := wf) (n := n + 6) hp3 (by omega) ok
    have hall : ∀ x ∈ xs ++ wrD ++ [.list (ks.map kindD), ksD ks], Gx x 50000 20 := by
      intro x hx
      simp only [List.mem_append, List.mem_cons, List.not_mem_nil, or_false] at hx
      rcases hx with (hx | hx) | rfl | rfl
      · exact g3 x hx
      · exact (wrD_gx x hx).mono (by omega) (by omega)
      · exact (gx_list0 (ks_ts ok).of_tuple (w := 30000) (by have := sh.wt; simp only [ksD, Mh.wt] at this; omega)).mono (by omega) (by omega)
      · exact sh.gx.mono (by omega) (by omega)
    have hwl := wrD_len
    have es : (ev (ecOf P wf (n + 8) mdL) (.bin .Add (.bin .Add (.comp [5] (.nm 5) (.rng [(.con (.int 10))]) [] (.call 15 [(.var 2), (.var 3), (.con (.int 5))])) (.call 17 [])) (.lst [(.prim .list [(.var 3)]), (.var 3)]))).i [some (intsD ns), some (.int k), some p2, some (ksD ks), none, none, none, none] = some (⟨xs ++ wrD ++ [.list (ks.map kindD), ksD ks], none⟩, [some (intsD ns), some (.int k), some p3, some (ksD ks), none, none, none, none]) :=
      ev_binI (ev_bin (x := .list (xs ++ wrD)) (y := .list [.list (ks.map kindD), ksD ks]) rfl rfl (ev_bin (x := .list xs) (y := .list wrD) rfl rfl e3 (ev_of (by simp [fm17, Mf.fd__law_written, wok])) (by rw [add_list, if_pos (by simp only [sizeLine]; omega)])) (ev_of (by simp [ksD])) (by rw [add_list, if_pos (by simp only [sizeLine, List.length_append, List.length_cons, List.length_nil]; omega)]))
    refine B_forG (xs ++ wrD ++ [.list (ks.map kindD), ksD ks]) (fun d => d) (fun pre r => r = [some (intsD ns), some (.int k), some p3, some (ksD ks), none, none, none, none]) es (by simp) rfl (fun _ _ _ => rfl) (by simp) ?_ ?_
    · rintro pr x po r hr rfl
      have gx : Gx x 50000 20 := hall x (by rw [hr]; simp)
      have rp := gx.repr (by simp [sizeLine]) (by omega)
      have w1 : Mh.wt x ≤ sizeLine := Nat.le_trans gx.wt (by simp [sizeLine])
      have k1 := is_kinds_ok pl.toPK (wf := wf) (n := n + 5) w1
      have k2 := law_are_kinds_ok pl.h8 pl.h9 pl.h13 pl.h16 (wf := wf) (n := n + 5) w1
      simp
      refine B_set ?_
      simp [rp]
      refine B_set ?_
      simp [fm5, Mf.fd_is_kinds, k1]
      refine B_ite ?_
      simp [fm16, Mf.fd__law_are_kinds, k2, rp]
      refine B_nil ?_
      simp
    · rintro r rfl
      have es2 : (ev (ecOf P wf (n + 8) mdL) (.call 18 [(.var 2), (.var 3)])).i [some (intsD ns), some (.int k), some p3, some (ksD ks), none, none, none, none] = some (⟨ts, none⟩, [some (intsD ns), some (.int k), some p4, some (ksD ks), none, none, none, none]) :=
        ev_callI (ev_callio (pot' := p4) (ds' := [ksD ks]) fm18 (by simp [Ec.mode]) rfl rfl t4 rfl)
      refine B_forG ts (fun d => d) (fun pre r => r = [some (intsD ns), some (.int k), some p4, some (ksD ks), none, none, none, none]) es2 (by simp) rfl (fun _ _ _ => rfl) (by simp) ?_ ?_
      · rintro pr x po r hr rfl
        have sx : szS x := g4 x (by rw [hr]; simp)
        have k1 := is_name_ok pl.h1 (wf := wf) (n := n + 7) sx
        have k2 := law_is_name_ok pl.h8 pl.h9 (wf := wf) (n := n + 6) sx
        simp
        refine B_set ?_
        simp [fm1, Mf.fd_is_name, k1]
        refine B_ite ?_
        simp [fm9, Mf.fd__law_is_name, k2]
        refine B_nil ?_
        simp
      · rintro r rfl
        refine B_nil ?_
        simp
  · rintro r rfl
    refine B_ret ?_
    simp
end
theorem pl0 : PL (dsAll.map DR.fd) := ⟨⟨rfl, rfl, rfl, rfl, rfl⟩, rfl, rfl, rfl, rfl, rfl, rfl, rfl, rfl, rfl, rfl, rfl, rfl, rfl, rfl⟩
theorem law_true (ns : List Int) (hn : ns.length ≤ 63) : ∃ out, lawRun ns = some (.bool true, out) := by
  obtain ⟨d, os, e, rfl⟩ := law_run pl0 (wf := 1000) (n := 11) ns
  exact ⟨os, e⟩
end Mq

/-! the end of law_k01_names_and_kinds_known, printed by mp.py -/
namespace Mq
open PySem PySem.Spec PyProof.Rows L2 Mp

theorem rs (x : Str) (t : Nat) : RelV (.str x) (.str x t) := ⟨t, rfl⟩
theorem ri (x : Int) (t : Nat) : RelV (.int x) (.int x t) := ⟨t, rfl⟩
theorem all_mk {P : Program} {w : World} {K : PySem.W.Frag} {h : Heap} {mg : Str → Option Value} {fa : Addr} (X : K.In h) (G : h.Ns mainGlobals mg) (hfa : mg "law" = some (.ref fa))
    {f0 : Addr} {od0 an0 : Option Addr} {sl0 : Array (Option Value)} {oc0 kV0 dc0 pm0 cd0 ct0 : Value}
    {f1 : Addr} {od1 an1 : Option Addr} {sl1 : Array (Option Value)} {oc1 kV1 dc1 pm1 cd1 ct1 : Value}
    {f2 : Addr} {od2 an2 : Option Addr} {sl2 : Array (Option Value)} {oc2 kV2 dc2 pm2 cd2 ct2 : Value}
    {f3 : Addr} {od3 an3 : Option Addr} {sl3 : Array (Option Value)} {oc3 kV3 dc3 pm3 cd3 ct3 : Value}
    {f4 : Addr} {od4 an4 : Option Addr} {sl4 : Array (Option Value)} {oc4 kV4 dc4 pm4 cd4 ct4 : Value}
    {f5 : Addr} {od5 an5 : Option Addr} {sl5 : Array (Option Value)} {oc5 kV5 dc5 pm5 cd5 ct5 : Value}
    {f6 : Addr} {od6 an6 : Option Addr} {sl6 : Array (Option Value)} {oc6 kV6 dc6 pm6 cd6 ct6 : Value}
    {f7 : Addr} {od7 an7 : Option Addr} {sl7 : Array (Option Value)} {oc7 kV7 dc7 pm7 cd7 ct7 : Value}
    {f8 : Addr} {od8 an8 : Option Addr} {sl8 : Array (Option Value)} {oc8 kV8 dc8 pm8 cd8 ct8 : Value}
    {f9 : Addr} {od9 an9 : Option Addr} {sl9 : Array (Option Value)} {oc9 kV9 dc9 pm9 cd9 ct9 : Value}
    {f10 : Addr} {od10 an10 : Option Addr} {sl10 : Array (Option Value)} {oc10 kV10 dc10 pm10 cd10 ct10 : Value}
    {f11 : Addr} {od11 an11 : Option Addr} {sl11 : Array (Option Value)} {oc11 kV11 dc11 pm11 cd11 ct11 : Value}
    {f12 : Addr} {od12 an12 : Option Addr} {sl12 : Array (Option Value)} {oc12 kV12 dc12 pm12 cd12 ct12 : Value}
    {f13 : Addr} {od13 an13 : Option Addr} {sl13 : Array (Option Value)} {oc13 kV13 dc13 pm13 cd13 ct13 : Value}
    {f14 : Addr} {od14 an14 : Option Addr} {sl14 : Array (Option Value)} {oc14 kV14 dc14 pm14 cd14 ct14 : Value}
    {f15 : Addr} {od15 an15 : Option Addr} {sl15 : Array (Option Value)} {oc15 kV15 dc15 pm15 cd15 ct15 : Value}
    {f16 : Addr} {od16 an16 : Option Addr} {sl16 : Array (Option Value)} {oc16 kV16 dc16 pm16 cd16 ct16 : Value}
    {f17 : Addr} {od17 an17 : Option Addr} {sl17 : Array (Option Value)} {oc17 kV17 dc17 pm17 cd17 ct17 : Value}
    {f18 : Addr} {od18 an18 : Option Addr} {sl18 : Array (Option Value)} {oc18 kV18 dc18 pm18 cd18 ct18 : Value}
    {ca1 : Addr} {cn1 : Nat} {cl1 : Array (Option Value)}
    {t0 t1 t2 t3 t4 t5 t6 t7 t8 t9 t10 t11 t12 t13 : Nat}
    (a0 : PySem.W.nsIn K mainGlobals "law" = some (some (.ref f0))) (l0 : K.lookup f0 = some ⟨oc0, od0, .func (PySem.W.fnOf "law" "law" (C8.fnArgs dr_0.st) (C8.fnBody dr_0.st) (C8.fnScope dr_0.st) .none kV0 dc0 pm0 an0 cd0 ct0), sl0⟩) (c0 : PySem.W.codeIn K cd0 "law" = true) (k0 : PySem.W.keepIn K (.ref f0) = true)
    (a1 : PySem.W.nsIn K mainGlobals "is_name" = some (some (.ref f1))) (l1 : K.lookup f1 = some ⟨oc1, od1, .func (PySem.W.fnOf "is_name" "is_name" (C8.fnArgs dr_1.st) (C8.fnBody dr_1.st) (C8.fnScope dr_1.st) .none kV1 dc1 pm1 an1 cd1 ct1), sl1⟩) (c1 : PySem.W.codeIn K cd1 "is_name" = true) (k1 : PySem.W.keepIn K (.ref f1) = true)
    (a2 : PySem.W.nsIn K mainGlobals "are_pairs" = some (some (.ref f2))) (l2 : K.lookup f2 = some ⟨oc2, od2, .func (PySem.W.fnOf "are_pairs" "are_pairs" (C8.fnArgs dr_2.st) (C8.fnBody dr_2.st) (C8.fnScope dr_2.st) .none kV2 dc2 pm2 an2 cd2 ct2), sl2⟩) (c2 : PySem.W.codeIn K cd2 "are_pairs" = true) (k2 : PySem.W.keepIn K (.ref f2) = true)
    (a3 : PySem.W.nsIn K mainGlobals "least_sizes" = some (some (.ref f3))) (l3 : K.lookup f3 = some ⟨oc3, od3, .func (PySem.W.fnOf "least_sizes" "least_sizes" (C8.fnArgs dr_3.st) (C8.fnBody dr_3.st) (C8.fnScope dr_3.st) .none kV3 dc3 pm3 an3 cd3 ct3), sl3⟩) (c3 : PySem.W.codeIn K cd3 "least_sizes" = true) (k3 : PySem.W.keepIn K (.ref f3) = true)
    (a4 : PySem.W.nsIn K mainGlobals "are_parts" = some (some (.ref f4))) (l4 : K.lookup f4 = some ⟨oc4, od4, .func (PySem.W.fnOf "are_parts" "are_parts" (C8.fnArgs dr_4.st) (C8.fnBody dr_4.st) (C8.fnScope dr_4.st) .none kV4 dc4 pm4 an4 cd4 ct4), sl4⟩) (c4 : PySem.W.codeIn K cd4 "are_parts" = true) (k4 : PySem.W.keepIn K (.ref f4) = true)
    (a5 : PySem.W.nsIn K mainGlobals "is_kinds" = some (some (.ref f5))) (l5 : K.lookup f5 = some ⟨oc5, od5, .func (PySem.W.fnOf "is_kinds" "is_kinds" (C8.fnArgs dr_5.st) (C8.fnBody dr_5.st) (C8.fnScope dr_5.st) .none kV5 dc5 pm5 an5 cd5 ct5), sl5⟩) (c5 : PySem.W.codeIn K cd5 "is_kinds" = true) (k5 : PySem.W.keepIn K (.ref f5) = true)
    (a6 : PySem.W.nsIn K mainGlobals "_law_pot" = some (some (.ref f6))) (l6 : K.lookup f6 = some ⟨oc6, od6, .func (PySem.W.fnOf "_law_pot" "_law_pot" (C8.fnArgs dr_6.st) (C8.fnBody dr_6.st) (C8.fnScope dr_6.st) .none kV6 dc6 pm6 an6 cd6 ct6), sl6⟩) (c6 : PySem.W.codeIn K cd6 "_law_pot" = true) (k6 : PySem.W.keepIn K (.ref f6) = true)
    (a7 : PySem.W.nsIn K mainGlobals "_law_take" = some (some (.ref f7))) (l7 : K.lookup f7 = some ⟨oc7, od7, .func (PySem.W.fnOf "_law_take" "_law_take" (C8.fnArgs dr_7.st) (C8.fnBody dr_7.st) (C8.fnScope dr_7.st) .none kV7 dc7 pm7 an7 cd7 ct7), sl7⟩) (c7 : PySem.W.codeIn K cd7 "_law_take" = true) (k7 : PySem.W.keepIn K (.ref f7) = true)
    (a8 : PySem.W.nsIn K mainGlobals "_law_words" = some (some (.ref f8))) (l8 : K.lookup f8 = some ⟨oc8, od8, .func (PySem.W.fnOf "_law_words" "_law_words" (C8.fnArgs dr_8.st) (C8.fnBody dr_8.st) (C8.fnScope dr_8.st) .none kV8 dc8 pm8 an8 cd8 ct8), sl8⟩) (c8 : PySem.W.codeIn K cd8 "_law_words" = true) (k8 : PySem.W.keepIn K (.ref f8) = true)
    (a9 : PySem.W.nsIn K mainGlobals "_law_is_name" = some (some (.ref f9))) (l9 : K.lookup f9 = some ⟨oc9, od9, .func (PySem.W.fnOf "_law_is_name" "_law_is_name" (C8.fnArgs dr_9.st) (C8.fnBody dr_9.st) (C8.fnScope dr_9.st) .none kV9 dc9 pm9 an9 cd9 ct9), sl9⟩) (c9 : PySem.W.codeIn K cd9 "_law_is_name" = true) (k9 : PySem.W.keepIn K (.ref f9) = true)
    (a10 : PySem.W.nsIn K mainGlobals "_law_word" = some (some (.ref f10))) (l10 : K.lookup f10 = some ⟨oc10, od10, .func (PySem.W.fnOf "_law_word" "_law_word" (C8.fnArgs dr_10.st) (C8.fnBody dr_10.st) (C8.fnScope dr_10.st) .none kV10 dc10 pm10 an10 cd10 ct10), sl10⟩) (c10 : PySem.W.codeIn K cd10 "_law_word" = true) (k10 : PySem.W.keepIn K (.ref f10) = true)
    (a11 : PySem.W.nsIn K mainGlobals "_law_row" = some (some (.ref f11))) (l11 : K.lookup f11 = some ⟨oc11, od11, .func (PySem.W.fnOf "_law_row" "_law_row" (C8.fnArgs dr_11.st) (C8.fnBody dr_11.st) (C8.fnScope dr_11.st) .none kV11 dc11 pm11 an11 cd11 ct11), sl11⟩) (c11 : PySem.W.codeIn K cd11 "_law_row" = true) (k11 : PySem.W.keepIn K (.ref f11) = true)
    (a12 : PySem.W.nsIn K mainGlobals "_law_kinds" = some (some (.ref f12))) (l12 : K.lookup f12 = some ⟨oc12, od12, .func (PySem.W.fnOf "_law_kinds" "_law_kinds" (C8.fnArgs dr_12.st) (C8.fnBody dr_12.st) (C8.fnScope dr_12.st) .none kV12 dc12 pm12 an12 cd12 ct12), sl12⟩) (c12 : PySem.W.codeIn K cd12 "_law_kinds" = true) (k12 : PySem.W.keepIn K (.ref f12) = true)
    (a13 : PySem.W.nsIn K mainGlobals "_law_sizes" = some (some (.ref f13))) (l13 : K.lookup f13 = some ⟨oc13, od13, .func (PySem.W.fnOf "_law_sizes" "_law_sizes" (C8.fnArgs dr_13.st) (C8.fnBody dr_13.st) (C8.fnScope dr_13.st) .none kV13 dc13 pm13 an13 cd13 ct13), sl13⟩) (c13 : PySem.W.codeIn K cd13 "_law_sizes" = true) (k13 : PySem.W.keepIn K (.ref f13) = true)
    (a14 : PySem.W.nsIn K mainGlobals "_law_odd" = some (some (.ref f14))) (l14 : K.lookup f14 = some ⟨oc14, od14, .func (PySem.W.fnOf "_law_odd" "_law_odd" (C8.fnArgs dr_14.st) (C8.fnBody dr_14.st) (C8.fnScope dr_14.st) .none kV14 dc14 pm14 an14 cd14 ct14), sl14⟩) (c14 : PySem.W.codeIn K cd14 "_law_odd" = true) (k14 : PySem.W.keepIn K (.ref f14) = true)
    (a15 : PySem.W.nsIn K mainGlobals "_law_bent" = some (some (.ref f15))) (l15 : K.lookup f15 = some ⟨oc15, od15, .func (PySem.W.fnOf "_law_bent" "_law_bent" (C8.fnArgs dr_15.st) (C8.fnBody dr_15.st) (C8.fnScope dr_15.st) .none kV15 dc15 pm15 an15 cd15 ct15), sl15⟩) (c15 : PySem.W.codeIn K cd15 "_law_bent" = true) (k15 : PySem.W.keepIn K (.ref f15) = true)
    (a16 : PySem.W.nsIn K mainGlobals "_law_are_kinds" = some (some (.ref f16))) (l16 : K.lookup f16 = some ⟨oc16, od16, .func (PySem.W.fnOf "_law_are_kinds" "_law_are_kinds" (C8.fnArgs dr_16.st) (C8.fnBody dr_16.st) (C8.fnScope dr_16.st) .none kV16 dc16 pm16 an16 cd16 ct16), sl16⟩) (c16 : PySem.W.codeIn K cd16 "_law_are_kinds" = true) (k16 : PySem.W.keepIn K (.ref f16) = true)
    (a17 : PySem.W.nsIn K mainGlobals "_law_written" = some (some (.ref f17))) (l17 : K.lookup f17 = some ⟨oc17, od17, .func (PySem.W.fnOf "_law_written" "_law_written" (C8.fnArgs dr_17.st) (C8.fnBody dr_17.st) (C8.fnScope dr_17.st) .none kV17 dc17 pm17 an17 cd17 ct17), sl17⟩) (c17 : PySem.W.codeIn K cd17 "_law_written" = true) (k17 : PySem.W.keepIn K (.ref f17) = true)
    (a18 : PySem.W.nsIn K mainGlobals "_law_texts" = some (some (.ref f18))) (l18 : K.lookup f18 = some ⟨oc18, od18, .func (PySem.W.fnOf "_law_texts" "_law_texts" (C8.fnArgs dr_18.st) (C8.fnBody dr_18.st) (C8.fnScope dr_18.st) .none kV18 dc18 pm18 an18 cd18 ct18), sl18⟩) (c18 : PySem.W.codeIn K cd18 "_law_texts" = true) (k18 : PySem.W.keepIn K (.ref f18) = true)
    (z0 : PySem.W.nsIn K mainGlobals "len" = some none)
    (z1 : PySem.W.nsIn K mainGlobals "list" = some none)
    (z2 : PySem.W.nsIn K mainGlobals "tuple" = some none)
    (z3 : PySem.W.nsIn K mainGlobals "dict" = some none)
    (z4 : PySem.W.nsIn K mainGlobals "sum" = some none)
    (z5 : PySem.W.nsIn K mainGlobals "min" = some none)
    (z6 : PySem.W.nsIn K mainGlobals "max" = some none)
    (z7 : PySem.W.nsIn K mainGlobals "all" = some none)
    (z8 : PySem.W.nsIn K mainGlobals "any" = some none)
    (z9 : PySem.W.nsIn K mainGlobals "abs" = some none)
    (z10 : PySem.W.nsIn K mainGlobals "int" = some none)
    (z11 : PySem.W.nsIn K mainGlobals "repr" = some none)
    (z12 : PySem.W.nsIn K mainGlobals "str" = some none)
    (z13 : PySem.W.nsIn K mainGlobals "bool" = some none)
    (z14 : PySem.W.nsIn K mainGlobals "isinstance" = some none)
    (z15 : PySem.W.nsIn K mainGlobals "set" = some none)
    (z16 : PySem.W.nsIn K mainGlobals "range" = some none)
    (z17 : PySem.W.nsIn K mainGlobals "enumerate" = some none)
    (z18 : PySem.W.nsIn K mainGlobals "zip" = some none)
    (gg0 : PySem.W.nsIn K mainGlobals "MARK" = some (some (.str "mark" t0)))
    (gg1 : PySem.W.nsIn K mainGlobals "WORDS" = some (some (.ref ca1))) (hh1 : K.lookup ca1 = some ⟨.type "tuple", none, .seq #[(.str "mark" t1), (.str "part" t2), (.str "same" t3), (.str "test" t4), (.str "sum" t5), (.str "not" t6), (.str "both" t7), (.str "either" t8)] cn1, cl1⟩)
    (gg2 : PySem.W.nsIn K mainGlobals "LETTERS" = some (some (.str "abcdefghijklmnopqrstuvwxyz" t9)))
    (gg3 : PySem.W.nsIn K mainGlobals "MOST_LETTERS" = some (some (.int 8 t10)))
    (gg4 : PySem.W.nsIn K mainGlobals "MOST_KINDS" = some (some (.int 5 t11)))
    (gg5 : PySem.W.nsIn K mainGlobals "MOST_MAKERS" = some (some (.int 4 t12)))
    (gg6 : PySem.W.nsIn K mainGlobals "MOST_PARTS" = some (some (.int 3 t13))) :
    ∃ fd : FuncData, (∀ (s : Shared) (v : Value), BindsTo s fd ⟨[v], []⟩ [("script", v)]) ∧ ∀ base : Heap, FnG P w K mg base 40 fa fd ["script"] [.fz] false (run (dsAll.map DR.fd) 1000 20 0) := by
  have e := hfa.symm.trans (PySem.W.mg_of X G a0)
  cases e
  have d0 := at_mk (d := dr_0) X G a0 l0 c0 k0 fun _ _ _ _ _ _ us hl => match us, hl with | [_], _ => rfl
  have d1 := at_mk (d := dr_1) X G a1 l1 c1 k1 fun _ _ _ _ _ _ us hl => match us, hl with | [_], _ => rfl
  have d2 := at_mk (d := dr_2) X G a2 l2 c2 k2 fun _ _ _ _ _ _ us hl => match us, hl with | [_, _], _ => rfl
  have d3 := at_mk (d := dr_3) X G a3 l3 c3 k3 fun _ _ _ _ _ _ us hl => match us, hl with | [_], _ => rfl
  have d4 := at_mk (d := dr_4) X G a4 l4 c4 k4 fun _ _ _ _ _ _ us hl => match us, hl with | [_, _], _ => rfl
  have d5 := at_mk (d := dr_5) X G a5 l5 c5 k5 fun _ _ _ _ _ _ us hl => match us, hl with | [_], _ => rfl
  have d6 := at_mk (d := dr_6) X G a6 l6 c6 k6 fun _ _ _ _ _ _ us hl => match us, hl with | [_, _], _ => rfl
  have d7 := at_mk (d := dr_7) X G a7 l7 c7 k7 fun _ _ _ _ _ _ us hl => match us, hl with | [_, _], _ => rfl
  have d8 := at_mk (d := dr_8) X G a8 l8 c8 k8 fun _ _ _ _ _ _ us hl => match us, hl with | [], _ => rfl
  have d9 := at_mk (d := dr_9) X G a9 l9 c9 k9 fun _ _ _ _ _ _ us hl => match us, hl with | [_], _ => rfl
  have d10 := at_mk (d := dr_10) X G a10 l10 c10 k10 fun _ _ _ _ _ _ us hl => match us, hl with | [_, _], _ => rfl
  have d11 := at_mk (d := dr_11) X G a11 l11 c11 k11 fun _ _ _ _ _ _ us hl => match us, hl with | [_, _, _, _], _ => rfl
  have d12 := at_mk (d := dr_12) X G a12 l12 c12 k12 fun _ _ _ _ _ _ us hl => match us, hl with | [_, _], _ => rfl
  have d13 := at_mk (d := dr_13) X G a13 l13 c13 k13 fun _ _ _ _ _ _ us hl => match us, hl with | [_], _ => rfl
  have d14 := at_mk (d := dr_14) X G a14 l14 c14 k14 fun _ _ _ _ _ _ us hl => match us, hl with | [_], _ => rfl
  have d15 := at_mk (d := dr_15) X G a15 l15 c15 k15 fun _ _ _ _ _ _ us hl => match us, hl with | [_, _, _], _ => rfl
  have d16 := at_mk (d := dr_16) X G a16 l16 c16 k16 fun _ _ _ _ _ _ us hl => match us, hl with | [_], _ => rfl
  have d17 := at_mk (d := dr_17) X G a17 l17 c17 k17 fun _ _ _ _ _ _ us hl => match us, hl with | [], _ => rfl
  have d18 := at_mk (d := dr_18) X G a18 l18 c18 k18 fun _ _ _ _ _ _ us hl => match us, hl with | [_, _], _ => rfl
  refine ⟨_, fun s v => .of_eq rfl, fun base => prog_ok (df := dfAll) (cs := csAll) (frs := frAll) (fun _ => rfl) ?_ ?_ ?_ ?_ ?_ 20 0 "law" (by simp [dfAll]) dr_0 rfl _ _ d0⟩
  · intro p hp d hd
    simp only [dfAll, List.mem_cons, List.not_mem_nil, or_false] at hp
    rcases hp with rfl | rfl | rfl | rfl | rfl | rfl | rfl | rfl | rfl | rfl | rfl | rfl | rfl | rfl | rfl | rfl | rfl | rfl | rfl
    · cases hd; exact ok_0
    · cases hd; exact ok_1
    · cases hd; exact ok_2
    · cases hd; exact ok_3
    · cases hd; exact ok_4
    · cases hd; exact ok_5
    · cases hd; exact ok_6
    · cases hd; exact ok_7
    · cases hd; exact ok_8
    · cases hd; exact ok_9
    · cases hd; exact ok_10
    · cases hd; exact ok_11
    · cases hd; exact ok_12
    · cases hd; exact ok_13
    · cases hd; exact ok_14
    · cases hd; exact ok_15
    · cases hd; exact ok_16
    · cases hd; exact ok_17
    · cases hd; exact ok_18
  · intro p hp
    simp only [dfAll, List.mem_cons, List.not_mem_nil, or_false] at hp
    rcases hp with rfl | rfl | rfl | rfl | rfl | rfl | rfl | rfl | rfl | rfl | rfl | rfl | rfl | rfl | rfl | rfl | rfl | rfl | rfl
    · exact ⟨dr_0, rfl, rfl⟩
    · exact ⟨dr_1, rfl, rfl⟩
    · exact ⟨dr_2, rfl, rfl⟩
    · exact ⟨dr_3, rfl, rfl⟩
    · exact ⟨dr_4, rfl, rfl⟩
    · exact ⟨dr_5, rfl, rfl⟩
    · exact ⟨dr_6, rfl, rfl⟩
    · exact ⟨dr_7, rfl, rfl⟩
    · exact ⟨dr_8, rfl, rfl⟩
    · exact ⟨dr_9, rfl, rfl⟩
    · exact ⟨dr_10, rfl, rfl⟩
    · exact ⟨dr_11, rfl, rfl⟩
    · exact ⟨dr_12, rfl, rfl⟩
    · exact ⟨dr_13, rfl, rfl⟩
    · exact ⟨dr_14, rfl, rfl⟩
    · exact ⟨dr_15, rfl, rfl⟩
    · exact ⟨dr_16, rfl, rfl⟩
    · exact ⟨dr_17, rfl, rfl⟩
    · exact ⟨dr_18, rfl, rfl⟩
  · intro b hb
    simp only [blNames, List.mem_cons, List.not_mem_nil, or_false] at hb
    rcases hb with rfl | rfl | rfl | rfl | rfl | rfl | rfl | rfl | rfl | rfl | rfl | rfl | rfl | rfl | rfl | rfl | rfl | rfl | rfl
    · exact PySem.W.mg_none_of X G z0
    · exact PySem.W.mg_none_of X G z1
    · exact PySem.W.mg_none_of X G z2
    · exact PySem.W.mg_none_of X G z3
    · exact PySem.W.mg_none_of X G z4
    · exact PySem.W.mg_none_of X G z5
    · exact PySem.W.mg_none_of X G z6
    · exact PySem.W.mg_none_of X G z7
    · exact PySem.W.mg_none_of X G z8
    · exact PySem.W.mg_none_of X G z9
    · exact PySem.W.mg_none_of X G z10
    · exact PySem.W.mg_none_of X G z11
    · exact PySem.W.mg_none_of X G z12
    · exact PySem.W.mg_none_of X G z13
    · exact PySem.W.mg_none_of X G z14
    · exact PySem.W.mg_none_of X G z15
    · exact PySem.W.mg_none_of X G z16
    · exact PySem.W.mg_none_of X G z17
    · exact PySem.W.mg_none_of X G z18
  · intro p hp
    simp only [csAll, List.mem_cons, List.not_mem_nil, or_false] at hp
    rcases hp with rfl | rfl | rfl | rfl | rfl | rfl | rfl
    · exact ⟨_, .str _, PySem.W.mg_of X G gg0, ⟨_, rfl⟩, fun H O => .str _⟩
    · exact ⟨_, .ref ca1, PySem.W.mg_of X G gg1, rfl, fun H O => .tup (.inr ⟨_, _, _, hh1, rfl, rfl, rfl, by show (8 : Nat) ≤ sizeLine; decide, (.cons (rs _ _) (.cons (rs _ _) (.cons (rs _ _) (.cons (rs _ _) (.cons (rs _ _) (.cons (rs _ _) (.cons (rs _ _) (.cons (rs _ _) .nil))))))))⟩) (.cons (.str _) (.cons (.str _) (.cons (.str _) (.cons (.str _) (.cons (.str _) (.cons (.str _) (.cons (.str _) (.cons (.str _) .nil))))))))⟩
    · exact ⟨_, .str _, PySem.W.mg_of X G gg2, ⟨_, rfl⟩, fun H O => .str _⟩
    · exact ⟨_, .int _, PySem.W.mg_of X G gg3, ⟨_, rfl⟩, fun H O => .int _⟩
    · exact ⟨_, .int _, PySem.W.mg_of X G gg4, ⟨_, rfl⟩, fun H O => .int _⟩
    · exact ⟨_, .int _, PySem.W.mg_of X G gg5, ⟨_, rfl⟩, fun H O => .int _⟩
    · exact ⟨_, .int _, PySem.W.mg_of X G gg6, ⟨_, rfl⟩, fun H O => .int _⟩
  · intro p hp d hd
    simp only [dfAll, List.mem_cons, List.not_mem_nil, or_false] at hp
    rcases hp with rfl | rfl | rfl | rfl | rfl | rfl | rfl | rfl | rfl | rfl | rfl | rfl | rfl | rfl | rfl | rfl | rfl | rfl | rfl
    · cases hd; exact ⟨_, _, d0⟩
    · cases hd; exact ⟨_, _, d1⟩
    · cases hd; exact ⟨_, _, d2⟩
    · cases hd; exact ⟨_, _, d3⟩
    · cases hd; exact ⟨_, _, d4⟩
    · cases hd; exact ⟨_, _, d5⟩
    · cases hd; exact ⟨_, _, d6⟩
    · cases hd; exact ⟨_, _, d7⟩
    · cases hd; exact ⟨_, _, d8⟩
    · cases hd; exact ⟨_, _, d9⟩
    · cases hd; exact ⟨_, _, d10⟩
    · cases hd; exact ⟨_, _, d11⟩
    · cases hd; exact ⟨_, _, d12⟩
    · cases hd; exact ⟨_, _, d13⟩
    · cases hd; exact ⟨_, _, d14⟩
    · cases hd; exact ⟨_, _, d15⟩
    · cases hd; exact ⟨_, _, d16⟩
    · cases hd; exact ⟨_, _, d17⟩
    · cases hd; exact ⟨_, _, d18⟩
end Mq
open PySem PySem.W PyProof.Rows
set_option maxHeartbeats 0 in
theorem PySem.Challenge.cw_madesure_k01_names_and_kinds_known_holds : PySem.Challenge.rw_madesure_k01_names_and_kinds_known.Holds := by
  w_on; o_law; k_head; (case hw => w_witness2)
  k_fill
  refine Mp.walkG (l := PySem.Challenge.rw_madesure_k01_names_and_kinds_known) (n := 63) (k := 40) (x := "script") (fn := Mp.run (Mq.dsAll.map Mp.DR.fd) 1000 20 0) rfl (by decide) rfl ⟨rfl, by decide, by decide⟩ (fun w h Y => PySem.W.kIn_of Y) ?F Mq.law_true
  case F =>
    intro w mg fa h KX G hmg
    refine' Mq.all_mk KX G hmg ?a0 ?l0 ?c0 ?k0 ?a1 ?l1 ?c1 ?k1 ?a2 ?l2 ?c2 ?k2 ?a3 ?l3 ?c3 ?k3 ?a4 ?l4 ?c4 ?k4 ?a5 ?l5 ?c5 ?k5 ?a6 ?l6 ?c6 ?k6 ?a7 ?l7 ?c7 ?k7 ?a8 ?l8 ?c8 ?k8 ?a9 ?l9 ?c9 ?k9 ?a10 ?l10 ?c10 ?k10 ?a11 ?l11 ?c11 ?k11 ?a12 ?l12 ?c12 ?k12 ?a13 ?l13 ?c13 ?k13 ?a14 ?l14 ?c14 ?k14 ?a15 ?l15 ?c15 ?k15 ?a16 ?l16 ?c16 ?k16 ?a17 ?l17 ?c17 ?k17 ?a18 ?l18 ?c18 ?k18 ?z0 ?z1 ?z2 ?z3 ?z4 ?z5 ?z6 ?z7 ?z8 ?z9 ?z10 ?z11 ?z12 ?z13 ?z14 ?z15 ?z16 ?z17 ?z18 ?gg0 ?gg1 ?hh1 ?gg2 ?gg3 ?gg4 ?gg5 ?gg6
    (case a0 => k_is); (case l0 => k_is); (case c0 => k_is); (case k0 => k_is); (case a1 => k_is); (case l1 => k_is); (case c1 => k_is); (case k1 => k_is); (case a2 => k_is); (case l2 => k_is); (case c2 => k_is); (case k2 => k_is); (case a3 => k_is); (case l3 => k_is); (case c3 => k_is); (case k3 => k_is); (case a4 => k_is); (case l4 => k_is); (case c4 => k_is); (case k4 => k_is); (case a5 => k_is); (case l5 => k_is); (case c5 => k_is); (case k5 => k_is); (case a6 => k_is); (case l6 => k_is); (case c6 => k_is); (case k6 => k_is); (case a7 => k_is); (case l7 => k_is); (case c7 => k_is); (case k7 => k_is); (case a8 => k_is); (case l8 => k_is); (case c8 => k_is); (case k8 => k_is); (case a9 => k_is); (case l9 => k_is); (case c9 => k_is); (case k9 => k_is); (case a10 => k_is); (case l10 => k_is); (case c10 => k_is); (case k10 => k_is); (case a11 => k_is); (case l11 => k_is); (case c11 => k_is); (case k11 => k_is); (case a12 => k_is); (case l12 => k_is); (case c12 => k_is); (case k12 => k_is); (case a13 => k_is); (case l13 => k_is); (case c13 => k_is); (case k13 => k_is); (case a14 => k_is); (case l14 => k_is); (case c14 => k_is); (case k14 => k_is); (case a15 => k_is); (case l15 => k_is); (case c15 => k_is); (case k15 => k_is); (case a16 => k_is); (case l16 => k_is); (case c16 => k_is); (case k16 => k_is); (case a17 => k_is); (case l17 => k_is); (case c17 => k_is); (case k17 => k_is); (case a18 => k_is); (case l18 => k_is); (case c18 => k_is); (case k18 => k_is); (case z0 => k_is); (case z1 => k_is); (case z2 => k_is); (case z3 => k_is); (case z4 => k_is); (case z5 => k_is); (case z6 => k_is); (case z7 => k_is); (case z8 => k_is); (case z9 => k_is); (case z10 => k_is); (case z11 => k_is); (case z12 => k_is); (case z13 => k_is); (case z14 => k_is); (case z15 => k_is); (case z16 => k_is); (case z17 => k_is); (case z18 => k_is); (case gg0 => k_is); (case gg1 => k_is); (case hh1 => k_is); (case gg2 => k_is); (case gg3 => k_is); (case gg4 => k_is); (case gg5 => k_is); (case gg6 => k_is)
