import PyProof.Rows.All
import Wide.All
import OpenK.AllK
import Wide.FinOn
import PySem.Str
import PySem.Syntax
import PySem.Eval
import HandS.ForMost
import HandS.Exc
import HandS.TryOnly
import HandS.ExcOwn
import HandS.IsInst
import HandS.TupAny
import HandS.SortInts
import HandS.Lambda
import HandS.Flow
import HandS.TupMul
import HandS.ExcIs
import HandS.Codes
import HandS.Strs
import HandS.SetFor
import PyProof.ReprRoads
import PyProof.ReprLen
import HandS.ExcValue
import HandS.Small
import HandS.Style
import HandS.HeadWalk
import HandS.HeadHook4
import HandS.Head0
import HandS.Head1
import HandS.Head2
import HandS.HeadEnd
import PySem.Challenge.RW_inkforall_k72_whole_sizes_that_have_line
set_option linter.all false
set_option Elab.async false
section
/-! A small evaluator of a part of Python over trees, whose lists may be changed where one name alone holds them. My own work. -/
namespace Iv
open PySem (Str)

abbrev Key := Sum Int Str

/-- values as trees; box: an object that is shared and may change, by its number -/
inductive D where
  | non | bl (b : Bool) | int (i : Int) | str (s : Str) | ty (n : String)
  | tup (xs : List D) | lst (xs : List D)
  | dK (kvs : List (Key × D)) | dT (kvs : List (List Key × D))
  | box (n : Nat) | cls (c : Nat)
  | exc (c : Nat) | rep (d : D) | scr (xs : List D)
  deriving Inhabited

/-! ### the text, cut down -/
inductive Op where
  | add | sub | mul | div | mod | pow | shl | shr | and | or
  deriving DecidableEq
inductive Cp where
  | eq | ne | lt | le | gt | ge | is | isNot | in_ | notIn
  deriving DecidableEq
inductive BF where
  | len | abs | min | max | int | sum | sumL | sorted | sortedSet | tuple | list | any | all | isinst | repr
  deriving DecidableEq
inductive BM where
  | append | pop | popAt | get
  deriving DecidableEq

/-- what a for or a comprehension walks over: 0 a list or tuple, 1 range(a), 2 range(a, b) -/
inductive IK where
  | seq | rng1 | rng2
  deriving DecidableEq

mutual
inductive Ex where
  | con (d : D)
  | var (mv : Bool) (i : Nat)
  | bin (op : Op) (a b : Ex)
  | neg (a : Ex)
  | not (a : Ex)
  | cmp (op : Cp) (a b : Ex)
  | chain (p q : Cp) (a b c : Ex)
  | and (a b : Ex)
  | or (a b : Ex)
  | ife (c a b : Ex)
  | bcall (f : BF) (as : Exs)
  | call (f : Nat) (as : Exs)
  | callK (f : Nat) (ord : List Nat) (as : Exs)
  | make (c : Nat) (as : Exs)
  | meth (m : Str) (o : Ex) (as : Exs)
  | bm (m : BM) (o : Ex) (as : Exs)
  | fld (o : Ex) (f : Str)
  | sub (o i : Ex)
  | slc (o lo hi : Ex)
  | lst (as : Exs)
  | tup (as : Exs)
  | dn (t : Bool)
  | dct (ks : List Str) (as : Exs)
  | lc (own : List Nat) (k : IK) (it : Exs) (t : Nat) (c e : Ex)
  | lc2 (own : List Nat) (k : IK) (it : Exs) (t : Nat) (own1 : List Nat) (k1 : IK) (it1 : Exs) (t1 : Nat) (c e : Ex)
  | lam (q : Str) (names : List Str) (cs : List Nat) (e : Ex)
  | app (i : Nat) (as : Exs)
  | skip
  | tru (a : Ex)
  | yes
inductive Exs where
  | nil
  | cons (e : Ex) (es : Exs)
end

/-- a lambda: its qualified name, the names that it captures, their places with the maker, its text -/
structure Lm where
  q : Str
  names : List Str
  cs : List Nat
  body : Ex

/-- a box's content -/
inductive Bx where
  | gone
  | val (d : D)
  | ins (c : Nat) (fs : List (Str × D))
  | lam (i : Lm)
  | clo (i : Lm) (ds : List D)
  deriving Inhabited

structure S where
  σ : List (Option (Bool × D))
  μ : List Bx

inductive Res (α : Type) where
  | ok (a : α) (s : S)
  | ex (c : Nat) (s : S)
  | no

namespace Res
def bind {α β : Type} : Res α → (α → S → Res β) → Res β
  | .ok a s, f => f a s
  | .ex c s, _ => .ex c s
  | .no, _ => .no
end Res
def Res.of {α : Type} (o : Option α) (s : S) : Res α := match o with
  | some a => .ok a s
  | none => .no

inductive CRes where
  | ok (own : Bool) (d : D) (μ : List Bx)
  | ex (c : Nat) (μ : List Bx)
  | no

mutual
inductive Sm where
  | asg (i : Nat) (e : Ex)
  | asgT (is : List Nat) (e : Ex)
  | par (is : List Nat) (es : Exs)
  | setI (o i v : Ex)
  | setF (o : Ex) (f : Str) (v : Ex)
  | aug (i : Nat) (op : Op) (e : Ex)
  | exp (e : Ex)
  | ret (e : Ex)
  | brk
  | cont
  | ite (c : Ex) (a b : Sms)
  | whl (c : Ex) (b : Sms)
  | for_ (t : Nat) (k : IK) (it : Exs) (b : Sms)
  | raise (c : Nat)
  | try_ (b : Sms) (c : Nat) (i j : Nat)
inductive Sms where
  | nil
  | cons (s : Sm) (r : Sms)
end

def Ex.isSkip : Ex → Bool
  | .skip => true
  | _ => false

structure Fn where
  np : Nat
  nl : Nat
  body : Sms
structure Cl where
  init : Nat
  meths : List (Str × Nat)
  subs : List Nat
  flds : List Str
  inst : Bool
structure G where
  fns : List Fn
  cls : List Cl
  fuel : Nat

def hasFld (g : G) (c : Nat) (f : Str) : Bool := match g.cls[c]? with
  | some k => k.flds.contains f
  | none => false
def methOf (g : G) (c : Nat) (m : Str) (fs : List (Str × D)) : Option Nat := match g.cls[c]? with
  | some k => if (fs.lookup m).isNone then k.meths.lookup m else none
  | none => none
/-! ### values -/
/-- may the object be changed? -/
def Bx.mut : Bx → Bool
  | .val _ => true
  | .ins _ _ => true
  | _ => false
/-- handles: a slot that alone holds its object, a box, a value that stands still -/
inductive Hd where
  | slot (i : Nat)
  | box (n : Nat)
  | val (d : D)

/-- the handle's value where only its being None counts -/
def Hd.self : Hd → D
  | .val d => d
  | .box n => .box n
  | .slot _ => .lst []
def S.cont (s : S) : Hd → Option D
  | .slot i => match s.σ[i]? with
    | some (some (_, d)) => some d
    | _ => none
  | .box n => match s.μ[n]? with
    | some (.val d) => some d
    | _ => none
  | .val d => some d
/-- an argument: as it stands, and its content -/
def S.arg (s : S) : Hd → Option (D × D)
  | .slot i => (s.cont (.slot i)).map fun d => (d, d)
  | .box n => some (.box n, (s.cont (.box n)).getD (.box n))
  | .val d => some (d, d)
def S.args (s : S) : List Hd → Option (List (D × D))
  | [] => some []
  | h :: hs => match s.arg h, s.args hs with
    | some x, some xs => some (x :: xs)
    | _, _ => none
/-- the object is changed -/
def S.put (s : S) (h : Hd) (d : D) : Option S := match h with
  | .slot i => match s.σ[i]? with
    | some (some (true, _)) => some { s with σ := s.σ.set i (some (true, d)) }
    | _ => none
  | .box n => match s.μ[n]? with
    | some (.val _) => some { s with μ := s.μ.set n (.val d) }
    | _ => none
  | .val _ => none
def hVar (i : Nat) (s : S) : Res Hd := match s.σ[i]? with
  | some (some (true, _)) => .ok (.slot i) s
  | some (some (false, .box n)) => .ok (.box n) s
  | some (some (false, d)) => .ok (.val d) s
  | _ => .no
def hOf (x : Bool × D) : Hd := match x.2 with
  | .box n => .box n
  | d => .val d
def rVar (mv : Bool) (i : Nat) (s : S) : Res (Bool × D) := match s.σ[i]? with
  | some (some (false, d)) => .ok (false, d) s
  | some (some (true, d)) => if mv then .ok (true, d) { s with σ := s.σ.set i none } else .ok (false, d) { s with σ := s.σ.set i (some (false, d)) }
  | _ => .no
def asVar : Ex → Option Nat
  | .var _ i => some i
  | _ => none

def sizeL : Nat := 16777216
/-- data without boxes, at most so deep -/
def okD : Nat → D → Bool
  | _, .non | _, .bl _ | _, .int _ => true
  | _, .str s => s.cps.all (· < 1114112)
  | 0, _ => false
  | n + 1, .lst xs => xs.all (okD n)
  | n + 1, .tup xs => xs.all (okD n)
  | _ + 1, _ => false
/-- == of such data -/
def deq : Nat → D → D → Bool
  | _, .non, .non => true
  | _, .bl a, .bl b => a == b
  | _, .bl a, .int j => (if a then 1 else 0) == j
  | _, .int i, .bl b => i == (if b then 1 else 0)
  | _, .int i, .int j => i == j
  | _, .str x, .str y => x == y
  | n + 1, .lst xs, .lst ys => xs.length == ys.length && (xs.zip ys).all fun p => deq n p.1 p.2
  | n + 1, .tup xs, .tup ys => xs.length == ys.length && (xs.zip ys).all fun p => deq n p.1 p.2
  | _, _, _ => false
/-- a bound of the length of its text -/
def szR : Nat → D → Nat
  | _, .non => 4
  | _, .bl _ => 5
  | _, .int i => i.natAbs.log2 + 3
  | _, .str s => 10 * s.length + 2
  | 0, _ => 0
  | n + 1, .lst xs => (xs.map fun x => szR n x + 2).sum + 4
  | n + 1, .tup xs => (xs.map fun x => szR n x + 2).sum + 4
  | _ + 1, _ => 0
/-- all «ints» in it small enough for a text -/
def smallI : Nat → D → Bool
  | _, .int i => decide (i.natAbs.log2 < 1920)
  | n + 1, .lst xs => xs.all (smallI n)
  | n + 1, .tup xs => xs.all (smallI n)
  | _, _ => true

def D.same : D → D → Bool := fun x y => okD 60 x && okD 60 y && deq 60 x y
def eqD (x y : D) : Option Bool := if okD 60 x && okD 60 y then some (deq 60 x y) else none

def keyOf : D → Option Key
  | .int i => some (.inl i)
  | .str s => some (.inr s)
  | _ => none
def keysOf : List D → Option (List Key)
  | [] => some []
  | x :: xs => match keyOf x, keysOf xs with
    | some k, some ks => some (k :: ks)
    | _, _ => none
section
variable {κ : Type} [DecidableEq κ]
def valK (kvs : List (κ × D)) (k : κ) : Option D := (kvs.find? fun kv => decide (kv.1 = k)).map (·.2)
def putK (kvs : List (κ × D)) (k : κ) (v : D) : List (κ × D) :=
  if (kvs.any fun kv => decide (kv.1 = k)) = true then kvs.map (fun kv => if kv.1 = k then (kv.1, v) else kv) else kvs ++ [(k, v)]
end
/-- the place that an index means -/
def ixN (n : Nat) (i : Int) : Option Nat := if 0 ≤ i then (if i < n then some i.toNat else none) else if -(n : Int) ≤ i then some (i + n).toNat else none
def sIx (n d : Nat) : Option Int → Nat
  | none => d
  | some v => if v < 0 then (v + (n : Int)).toNat else min v.toNat n
def cut (xs : List D) (lo hi : Option Int) : List D := (xs.drop (sIx xs.length 0 lo)).take (sIx xs.length xs.length hi - sIx xs.length 0 lo)

def getI (c k : D) : Option D := match c, k with
  | .lst xs, .int i => (ixN xs.length i).bind fun j => xs[j]?
  | .tup xs, .int i => (ixN xs.length i).bind fun j => xs[j]?
  | .dK kvs, k => (keyOf k).bind fun k => valK kvs k
  | .dT kvs, .tup ks => (keysOf ks).bind fun k => valK kvs k
  | _, _ => none
def putI (c k v : D) : Option D := match c, k with
  | .lst xs, .int i => (ixN xs.length i).map fun j => .lst (xs.set j v)
  | .dK kvs, k => if kvs.length < sizeL then (keyOf k).map fun k => .dK (putK kvs k v) else none
  | .dT kvs, .tup ks => if kvs.length < sizeL then (keysOf ks).map fun k => .dT (putK kvs k v) else none
  | _, _ => none
def hasI (c k : D) : Option Bool := match c, k with
  | .dK kvs, k => (keyOf k).map fun k => (valK kvs k).isSome
  | .dT kvs, .tup ks => (keysOf ks).map fun k => (valK kvs k).isSome
  | .lst xs, x => if okD 0 x && xs.all (okD 0) then some (xs.any fun y => deq 0 y x) else none
  | .tup xs, x => if okD 0 x && xs.all (okD 0) then some (xs.any fun y => deq 0 y x) else none
  | _, _ => none

def big64 : Int := 18446744073709551616
def mulOk (i j : Int) : Bool := (decide (-big64 < i) && decide (i < big64)) || (decide (-big64 < j) && decide (j < big64))

/-- a op b on values that stand still; the answer's root is new, or not -/
def opB (op : Op) (x y : D) : Option (Bool × D) := match op, x, y with
  | .add, .int i, .int j => some (false, .int (i + j))
  | .sub, .int i, .int j => some (false, .int (i - j))
  | .mul, .int i, .int j => if mulOk i j then some (false, .int (i * j)) else none
  | .div, .int i, .int j => if j ≠ 0 ∧ j.natAbs < 1073741824 then some (false, .int (i.fdiv j)) else none
  | .mod, .int i, .int j => if j ≠ 0 then some (false, .int (i.fmod j)) else none
  | .pow, .int i, .int j => if 0 ≤ j ∧ j ≤ 1000000 ∧ i.natAbs < 18446744073709551616 then some (false, .int (i ^ j.toNat)) else none
  | .add, .lst xs, .lst ys => if xs.length + ys.length ≤ sizeL then some (true, .lst (xs ++ ys)) else none
  | .add, .tup xs, .tup ys => if xs.length + ys.length ≤ sizeL then some (false, .tup (xs ++ ys)) else none
  | .mul, .lst xs, .int k => if -9223372036854775808 ≤ k ∧ k < 9223372036854775808 ∧ xs.length * k.toNat ≤ sizeL then some (true, .lst (List.replicate k.toNat xs).flatten) else none
  | .mul, .tup xs, .int k => if xs ≠ [] ∧ 2 ≤ k ∧ k ≤ 1000 ∧ xs.length ≤ 1000 then some (false, .tup (List.replicate k.toNat xs).flatten) else none
  | _, _, _ => none
where
  dummy : Unit := ()

def D.isNon : D → Bool
  | .non => true
  | _ => false
def cmpI (op : Cp) (i j : Int) : Option Bool := match op with
  | .lt => some (decide (i < j))
  | .le => some (decide (i ≤ j))
  | .gt => some (decide (j < i))
  | .ge => some (decide (j ≤ i))
  | _ => none
/-- a comparison of two contents (an instance, a class stand as values) -/
def opC (op : Cp) (x y : D) : Option Bool := match op, x, y with
  | .eq, .rep a, .rep b => if okD 60 a && okD 60 b && deq 60 a b && repSame a b then some true else none
  | .ne, .rep a, .rep b => if okD 60 a && okD 60 b && deq 60 a b && repSame a b then some false else none
  | .eq, x, y => eqD x y
  | .ne, x, y => (eqD x y).map fun b => !b
  | .is, x, .non => some x.isNon
  | .isNot, x, .non => some (!x.isNon)
  | .in_, x, y => hasI y x
  | .notIn, x, y => (hasI y x).map fun b => !b
  | op, .int i, .int j => cmpI op i j
  | _, _, _ => none
where
  repSame (a b : D) : Bool := sameT 60 a b
  sameT : Nat → D → D → Bool
  | _, .non, .non => true
  | _, .bl a, .bl b => a == b
  | _, .int i, .int j => i == j
  | _, .str x, .str y => x == y
  | n + 1, .lst xs, .lst ys => xs.length == ys.length && (xs.zip ys).all fun p => sameT n p.1 p.2
  | n + 1, .tup xs, .tup ys => xs.length == ys.length && (xs.zip ys).all fun p => sameT n p.1 p.2
  | _, _, _ => false

def truth (d : D) : Option Bool := match d with
  | .non => some false
  | .bl b => some b
  | .int i => some (i != 0)
  | .lst xs => some (!xs.isEmpty)
  | .tup xs => some (!xs.isEmpty)
  | _ => none

def isInst (g : G) (c : Nat) : Bool := match g.cls[c]? with
  | some k => k.inst
  | none => false
def tyName (g : G) (μ : List Bx) : D → Option (String ⊕ Nat)
  | .non => some (.inl "NoneType")
  | .bl _ => some (.inl "bool")
  | .int _ => some (.inl "int")
  | .str _ => some (.inl "str")
  | .rep _ => some (.inl "str")
  | .lst _ => some (.inl "list")
  | .tup _ => some (.inl "tuple")
  | .dK _ => some (.inl "dict")
  | .box n => match μ[n]? with
    | some (.val (.lst _)) => some (.inl "list")
    | some (.val (.dK _)) => some (.inl "dict")
    | some (.ins c _) => if isInst g c then some (.inr c) else none
    | _ => none
  | .exc c => match g.cls[c]? with
    | some k => if k.inst then none else some (.inr c)
    | none => none
  | _ => none
def tyKnown : List String := ["NoneType", "bool", "int", "str", "list", "tuple", "dict"]
def tyAsked : List String := ["int", "bool", "list", "tuple", "str", "dict", "set"]
def isTy (g : G) (t : String ⊕ Nat) : D → Option Bool
  | .ty n => if tyAsked.contains n then match t with
    | .inl m => if tyKnown.contains m then some (m == n || (m == "bool" && n == "int")) else none
    | .inr c => if c < g.cls.length then some false else none
    else none
  | .cls c => if c < g.cls.length then match t with
    | .inl m => if tyKnown.contains m then some false else none
    | .inr d => (g.cls[d]?).map fun k => k.subs.contains c
    else none
  | _ => none
def isAny (g : G) (t : String ⊕ Nat) : List D → Option Bool
  | [] => some false
  | c :: cs => match isTy g t c with
    | some true => some true
    | some false => isAny g t cs
    | none => none

def «ints» : List D → Option (List Int)
  | [] => some []
  | .int i :: r => («ints» r).map (i :: ·)
  | _ :: _ => none
def bools : List D → Option (List Bool)
  | [] => some []
  | .bl b :: r => (bools r).map (b :: ·)
  | _ :: _ => none
/-- lists of a list, one behind the other, each length looked at -/
def lists : List D → Option (List D)
  | [] => some []
  | .lst xs :: r => (lists r).map (xs ++ ·)
  | _ :: _ => none
def insI (x : Int) : List Int → List Int
  | [] => [x]
  | y :: r => if x ≤ y then x :: y :: r else y :: insI x r
def sortI (l : List Int) : List Int := l.foldr insI []
def insU (x : Int) : List Int → List Int
  | [] => [x]
  | y :: r => if x < y then x :: y :: r else if x = y then y :: r else y :: insU x r
def sortU (l : List Int) : List Int := l.foldr insU []

def seqOf : D → Option (List D)
  | .lst xs => some xs
  | .tup xs => some xs
  | _ => none

/-- built-in functions; the arguments: contents, the first as it stands too -/
def bfun (g : G) (μ : List Bx) (f : BF) (hs : List (D × D)) : Option (Bool × D) := match f, hs with
  | .len, [(_, .lst xs)] => some (false, .int xs.length)
  | .len, [(_, .tup xs)] => some (false, .int xs.length)
  | .len, [(_, .scr xs)] => some (false, .int xs.length)
  | .len, [(_, .str s)] => if s.length ≤ sizeL then some (false, .int s.length) else none
  | .abs, [(_, .int i)] => some (false, .int (if i < 0 then -i else i))
  | .min, [(_, .int i), (_, .int j)] => some (false, .int (if j < i then j else i))
  | .max, [(_, .int i), (_, .int j)] => some (false, .int (if j > i then j else i))
  | .int, [(_, .int i)] => some (false, .int i)
  | .int, [(_, .bl b)] => some (false, .int (if b then 1 else 0))
  | .sum, [(_, .lst xs)] => («ints» xs).map fun l => (false, .int l.sum)
  | .sumL, [(_, .lst xs)] => (lists xs).bind fun l => if l.length ≤ sizeL ∧ xs.isEmpty = false then some (true, .lst l) else none
  | .sorted, [(_, .lst xs)] => («ints» xs).map fun l => (true, .lst ((sortI l).map .int))
  | .sortedSet, [(_, .lst xs)] => («ints» xs).bind fun l => if (sortU l).length < 64 ∧ l.length < 4000 then some (true, .lst ((sortU l).map .int)) else none
  | .tuple, [(_, .lst xs)] => some (false, .tup xs)
  | .tuple, [(_, .tup xs)] => some (false, .tup xs)
  | .list, [(_, .lst xs)] => some (true, .lst xs)
  | .list, [(_, .tup xs)] => some (true, .lst xs)
  | .any, [(_, .lst xs)] => (bools xs).map fun l => (false, .bl (l.any id))
  | .all, [(_, .lst xs)] => (bools xs).map fun l => (false, .bl (l.all id))
  | .isinst, [(x, _), (.tup cs, _)] => (tyName g μ x).bind fun t => if cs.all (fun c => (isTy g t c).isSome) then (isAny g t cs).map fun b => (false, .bl b) else none
  | .isinst, [(x, _), (c, _)] => (tyName g μ x).bind fun t => (isTy g t c).map fun b => (false, .bl b)
  | .repr, [(_, d)] => if (seqOf d).isSome && okD 60 d && smallI 60 d && decide (szR 60 d ≤ sizeL) then some (false, .rep d) else none
  | _, _ => none

/-- methods of lists and dicts: the content, the arguments; the answer, the new content -/
def bmeth (m : BM) (c : D) (as : List D) : Option (D × Option D) := match m, c, as with
  | .append, .lst xs, [v] => if xs.length < sizeL then some (.non, some (.lst (xs ++ [v]))) else none
  | .pop, .lst xs, [] => (xs[xs.length - 1]?).map fun v => (v, some (.lst xs.dropLast))
  | .popAt, .lst xs, [.int i] => if -9223372036854775808 ≤ i ∧ i < 9223372036854775808 then (ixN xs.length i).bind fun j => (xs[j]?).map fun v => (v, some (.lst (xs.eraseIdx j))) else none
  | .get, .dK kvs, [k, d] => (keyOf k).map fun k => ((valK kvs k).getD d, none)
  | _, _, _ => none

/-- the kind of thing that has the method -/
def bmOk (m : BM) (d : Option D) : Bool := match m, d with
  | .append, some (.lst _) => true
  | .pop, some (.lst _) => true
  | .popAt, some (.lst _) => true
  | .get, some (.dK _) => true
  | _, _ => false
def rngOk (i : Int) : Bool := decide (-4611686018427387904 ≤ i) && decide (i < 4611686018427387904)
/-- the items that are walked -/
def items (k : IK) (as : List D) : Option (List D) := match k, as with
  | .seq, [.lst xs] => some xs
  | .seq, [.tup xs] => some xs
  | .seq, [.scr xs] => some xs
  | .rng1, [.int n] => if rngOk n then some ((List.range n.toNat).map fun (i : Nat) => .int (0 + (i : Int))) else none
  | .rng2, [.int a, .int b] => if rngOk a && rngOk b then some ((List.range (b - a).toNat).map fun (i : Nat) => .int (a + (i : Int))) else none
  | _, _ => none

/-- what alone holds its object becomes a box -/
def boxed : List (Bool × D) → List Bx → List D × List Bx
  | [], μ => ([], μ)
  | (false, d) :: r, μ => let p := boxed r μ; (d :: p.1, p.2)
  | (true, d) :: r, μ => let p := boxed r (μ ++ [.val d]); (.box μ.length :: p.1, p.2)

def wipe (σ : List (Option (Bool × D))) : List Nat → List (Option (Bool × D))
  | [] => σ
  | v :: vs => (wipe σ vs).set v none
/-- behind a comprehension: its own names as they were -/
def back (σ τ : List (Option (Bool × D))) : List Nat → List (Option (Bool × D))
  | [] => τ
  | v :: vs => (back σ τ vs).set v (match σ[v]? with
    | some (some (false, d)) => some (false, d)
    | _ => none)

/-! ### running -/
abbrev Callee := Nat ⊕ Lm → List D → List Bx → CRes

/-- the values of a lambda's names, where they stand still -/
def snap (s : S) : List Nat → Option (List D)
  | [] => some []
  | i :: is => match s.σ[i]?, snap s is with
    | some (some (false, d)), some ds => some (d :: ds)
    | _, _ => none
/-- what another frame sees of a lambda that this one made -/
def seen (s : S) : Bx → Bx
  | .lam i => match snap s i.cs with
    | some ds => .clo i ds
    | none => .gone
  | b => b
def enter (s : S) : List Bx := s.μ.map (seen s)
/-- functions are nobody's when the frame is gone -/
def shutB : Bx → Bx
  | .lam _ => .gone
  | .clo _ _ => .gone
  | b => b
def shut (μ : List Bx) : List Bx := μ.map shutB
/-- back in the frame that made them -/
def leave : List Bx → List Bx → List Bx
  | b :: r, c :: t => (match b with
    | .lam i => .lam i
    | .clo i ds => .clo i ds
    | _ => shutB c) :: leave r t
  | _, t => shut t

def called (r : CRes) (s : S) : Res (Bool × D) := match r with
  | .ok o d μ => .ok (o, d) { s with μ := leave s.μ μ }
  | .ex c μ => .ex c { s with μ := leave s.μ μ }
  | .no => .no

/-- the comprehension's turns -/
def turns (t : Nat) (own : List Nat) (f : S → List D → Res (List D)) : List D → S → List D → Res (List D)
  | [], s, acc => .ok acc s
  | x :: xs, s, acc => (f { s with σ := (wipe s.σ own).set t (some (false, x)) } acc).bind fun acc s => turns t own f xs s acc

inductive Out where
  | nx (s : S)
  | rt (own : Bool) (d : D) (s : S)
  | bk (s : S)
  | ct (s : S)
  | ex (c : Nat) (s : S)
  | no

def Res.out {α : Type} (r : Res α) (f : α → S → Out) : Out := match r with
  | .ok a s => f a s
  | .ex c s => .ex c s
  | .no => .no
def Out.then (r : Out) (f : S → Out) : Out := match r with
  | .nx s => f s
  | o => o

section
variable (g : G) (cl : Callee)
/-- new instances -/
def newI (c : Nat) (as : List D) (s : S) : Res (Bool × D) := match g.cls[c]? with
  | some k => match cl (.inl k.init) (.box s.μ.length :: as) (enter s ++ [.ins c []]) with
    | .ok _ .non μ => .ok (false, .box s.μ.length) { s with μ := leave s.μ μ }
    | .ex c μ => .ex c { s with μ := leave s.μ μ }
    | _ => .no
  | none => .no

mutual
def evE : Ex → S → Res (Bool × D)
  | .con d, s => .ok (false, d) s
  | .var mv i, s => rVar mv i s
  | .bin op a b, s => (evE a s).bind fun x s => (evE b s).bind fun y s => Res.of (opB op x.2 y.2) s
  | .neg a, s => (evE a s).bind fun x s => match x.2 with | .int i => .ok (false, .int (-i)) s | _ => .no
  | .not a, s => (evT a s).bind fun b s => .ok (false, .bl (!b)) s
  | .cmp op a b, s => (match asVar a with | some i => hVar i s | none => (evE a s).bind fun x s => .ok (hOf x) s).bind fun x s =>
      (match asVar b with | some i => hVar i s | none => (evE b s).bind fun y s => .ok (hOf y) s).bind fun y s =>
        Res.of ((match op with
          | .is | .isNot => some x.self
          | _ => s.cont x).bind fun u => (s.cont y).bind fun v => (opC op u v).map fun b => (false, .bl b)) s
  | .chain p q a b c, s => (evE a s).bind fun x s => (evE b s).bind fun y s => (Res.of (opC p x.2 y.2) s).bind fun t s =>
      if t then (evE c s).bind fun z s => (Res.of (opC q y.2 z.2) s).bind fun t s => .ok (false, .bl t) s else .ok (false, .bl false) s
  | .and a b, s => (evE a s).bind fun x s => match x.2 with
    | .bl true => evE b s
    | .bl false => .ok (false, .bl false) s
    | _ => .no
  | .or a b, s => (evE a s).bind fun x s => match x.2 with
    | .bl true => .ok (false, .bl true) s
    | .bl false => evE b s
    | _ => .no
  | .ife c a b, s => (evT c s).bind fun t s => if t then evE a s else evE b s
  | .bcall f as, s => (evHs as s).bind fun hs s => Res.of ((s.args hs).bind fun as => bfun g s.μ f as) s
  | .call f as, s => (evEs as s).bind fun xs s => called (cl (.inl f) xs (enter s)) s
  | .callK f ord as, s => (evEs as s).bind fun xs s => (Res.of (ord.mapM fun i => xs[i]?) s).bind fun ds s => called (cl (.inl f) ds (enter s)) s
  | .make c as, s => (evEs as s).bind fun xs s => newI g cl c xs s
  | .meth m o as, s => (evE o s).bind fun x s => match x.2 with
    | .box n => match s.μ[n]? with
      | some (.ins c fs) => match methOf g c m fs with
        | some f => (evEs as s).bind fun xs s => called (cl (.inl f) (.box n :: xs) (enter s)) s
        | none => .no
      | _ => .no
    | _ => .no
  | .bm m o as, s => (match asVar o with | some i => hVar i s | none => (evE o s).bind fun x s => .ok (hOf x) s).bind fun h s => if bmOk m (s.cont h) = false then .no else (evEs as s).bind fun xs s =>
      (Res.of ((s.cont h).bind fun c => bmeth m c xs) s).bind fun r s => match r.2 with
        | none => .ok (false, r.1) s
        | some c' => (Res.of (s.put h c') s).bind fun s' _ => .ok (false, r.1) s'
  | .fld o f, s => (evE o s).bind fun x s => match x.2 with
    | .box n => match s.μ[n]? with
      | some (.ins c fs) => if hasFld g c f then Res.of ((fs.lookup f).map fun d => (false, d)) s else .no
      | _ => .no
    | _ => .no
  | .sub o i, s => (match asVar o with | some i => hVar i s | none => (evE o s).bind fun x s => .ok (hOf x) s).bind fun h s => (evE i s).bind fun k s =>
      Res.of ((s.cont h).bind fun c => (getI c k.2).map fun d => (false, d)) s
  | .slc o lo hi, s => (match asVar o with | some i => hVar i s | none => (evE o s).bind fun x s => .ok (hOf x) s).bind fun h s =>
      (if lo.isSkip then (Res.ok none s : Res (Option Int)) else (evE lo s).bind fun x s => match x.2 with | .int i => .ok (some i) s | _ => .no).bind fun l s =>
        (if hi.isSkip then (Res.ok none s : Res (Option Int)) else (evE hi s).bind fun x s => match x.2 with | .int i => .ok (some i) s | _ => .no).bind fun u s =>
          match s.cont h with
          | some (.lst xs) => .ok (true, .lst (cut xs l u)) s
          | some (.tup xs) => .ok (false, .tup (cut xs l u)) s
          | _ => .no
  | .lst as, s => (evEs as s).bind fun xs s => if xs.length ≤ sizeL then .ok (true, .lst xs) s else .no
  | .tup as, s => (evEs as s).bind fun xs s => if xs.length ≤ sizeL then .ok (false, .tup xs) s else .no
  | .dn t, s => .ok (true, if t then .dT [] else .dK []) s
  | .dct ks as, s => (evEs2 as s).bind fun xs s => let r := boxed xs s.μ
      if ks.length = xs.length ∧ ks.length ≤ 15 then .ok (false, .box r.2.length) { s with μ := r.2 ++ [.val (.dK (((ks.map fun k => (Sum.inr k : Key)).zip r.1).foldl (fun a p => putK a p.1 p.2) []))] } else .no
  | .lc own k it t c e, s => (evEs it s).bind fun xs s => (Res.of (items k xs) s).bind fun l s =>
      match turns t own (fun s acc => (evT c s).bind fun b s => if b then (evE e s).bind fun x s => if acc.length < sizeL then .ok (acc ++ [x.2]) s else .no else .ok acc s) l { s with μ := enter s } [] with
      | .ok acc s1 => .ok (true, .lst acc) { σ := back s.σ s1.σ own, μ := leave s.μ s1.μ }
      | _ => .no
  | .lc2 own k it t own1 k1 it1 t1 c e, s => (evEs it s).bind fun xs s => (Res.of (items k xs) s).bind fun l s =>
      match turns t own (fun s acc => (evEs it1 s).bind fun ys s => (Res.of (items k1 ys) s).bind fun m s =>
          turns t1 own1 (fun s acc => (evT c s).bind fun b s => if b then (evE e s).bind fun x s => if acc.length < sizeL then .ok (acc ++ [x.2]) s else .no else .ok acc s) m s acc) l { s with μ := shut s.μ } [] with
      | .ok acc s1 => .ok (true, .lst acc) { σ := back s.σ s1.σ own, μ := leave s.μ s1.μ }
      | _ => .no
  | .lam q nm cs e, s => .ok (false, .box s.μ.length) { σ := cs.foldl (fun σ j => match σ[j]? with | some (some (true, d)) => σ.set j (some (false, d)) | _ => σ) s.σ, μ := s.μ ++ [.lam ⟨q, nm, cs, e⟩] }
  | .app i as, s => (rVar false i s).bind fun f s => (evEs as s).bind fun xs s => match f.2 with
    | .box n => match (enter s)[n]? with
      | some (.clo l ds) => called (cl (.inr l) (ds ++ xs) (enter s)) s
      | _ => .no
    | _ => .no
  | .skip, _ => .no
  | .tru _, _ => .no
  | .yes, _ => .no
def evT : Ex → S → Res Bool
  | .not a, s => (evT a s).bind fun b s => .ok (!b) s
  | .and a b, s => (evT a s).bind fun t s => if t then evT b s else .ok false s
  | .or a b, s => (evT a s).bind fun t s => if t then .ok true s else evT b s
  | .yes, s => .ok true s
  | .tru a, s => (match asVar a with | some i => hVar i s | none => (evE a s).bind fun x s => .ok (hOf x) s).bind fun h s => Res.of ((s.cont h).bind truth) s
  | _, _ => .no
def evEs : Exs → S → Res (List D)
  | .nil, s => .ok [] s
  | .cons e es, s => (evE e s).bind fun x s => (evEs es s).bind fun xs s => .ok (x.2 :: xs) s
def evEs2 : Exs → S → Res (List (Bool × D))
  | .nil, s => .ok [] s
  | .cons e es, s => (evE e s).bind fun x s => (evEs2 es s).bind fun xs s => .ok (x :: xs) s
/-- arguments that are only read -/
def evHs : Exs → S → Res (List Hd)
  | .nil, s => .ok [] s
  | .cons e es, s => (match asVar e with | some i => hVar i s | none => (evE e s).bind fun x s => .ok (hOf x) s).bind fun h s => (evHs es s).bind fun hs s => .ok (h :: hs) s
end
end

/-- targets -/
def setSlots (s : S) : List Nat → List D → Option S
  | [], [] => some s
  | i :: is, d :: ds => setSlots { s with σ := s.σ.set i (some (false, d)) } is ds
  | _, _ => none
def setPar (s : S) : List Nat → List (Bool × D) → Option S
  | [], [] => some s
  | i :: is, d :: ds => setPar { s with σ := s.σ.set i (some d) } is ds
  | _, _ => none

def putF (f : Str) (v : D) : List (Str × D) → List (Str × D)
  | [] => [(f, v)]
  | (k, u) :: r => if k = f then (k, v) :: r else (k, u) :: putF f v r
def augOp (op : Op) (x y : D) : Option D := match op, x, y with
  | .add, .int i, .int j => some (.int (i + j))
  | .sub, .int i, .int j => some (.int (i - j))
  | _, _, _ => none

def loop (t : Nat) (f : S → Out) : List D → S → Out
  | [], s => .nx s
  | x :: xs, s => match f { s with σ := s.σ.set t (some (false, x)) } with
    | .nx s => loop t f xs s
    | .ct s => loop t f xs s
    | .bk s => .nx s
    | o => o
/-- a walk over a box's list, as it stands at each turn -/
def loopB (t : Nat) (n : Nat) (f : S → Out) : Nat → Nat → S → Out
  | 0, _, _ => .no
  | k + 1, i, s => match s.μ[n]? with
    | some (.val (.lst xs)) => match xs[i]? with
      | none => .nx s
      | some x => match f { s with σ := s.σ.set t (some (false, x)) } with
        | .nx s => loopB t n f k (i + 1) s
        | .ct s => loopB t n f k (i + 1) s
        | .bk s => .nx s
        | o => o
    | _ => .no
def whileL (c : S → Res Bool) (f : S → Out) : Nat → S → Out
  | 0, _ => .no
  | n + 1, s => (c s).out fun b s => if b then match f s with
      | .nx s => whileL c f n s
      | .ct s => whileL c f n s
      | .bk s => .nx s
      | o => o
    else .nx s

section
variable (g : G) (cl : Callee)
mutual
def evS : Sm → S → Out
  | .asg i e, s => (evE g cl e s).out fun x s => .nx { s with σ := s.σ.set i (some x) }
  | .asgT is e, s => (evE g cl e s).out fun x s => match x.2 with
    | .tup ds => (Res.of (setSlots s is ds) s).out fun s' _ => .nx s'
    | _ => .no
  | .par is es, s => (evEs2 g cl es s).out fun xs s => (Res.of (setPar s is xs) s).out fun s' _ => .nx s'
  | .setI o i v, s => (evE g cl v s).out fun v s => (match asVar o with | some i => hVar i s | none => (evE g cl o s).bind fun x s => .ok (hOf x) s).out fun h s => (evE g cl i s).out fun k s =>
      (Res.of ((s.cont h).bind fun c => (putI c k.2 v.2).bind fun c' => s.put h c') s).out fun s' _ => .nx s'
  | .setF o f v, s => (evE g cl v s).out fun v s => (evE g cl o s).out fun x s => match x.2 with
    | .box n => match s.μ[n]? with
      | some (.ins c fs) => if fs.length < 1000 ∧ hasFld g c f = true then .nx { s with μ := s.μ.set n (.ins c (putF f v.2 fs)) } else .no
      | _ => .no
    | _ => .no
  | .aug i op e, s => (rVar false i s).out fun _ s => (evE g cl e s).out fun y s => (rVar false i s).out fun x s => (Res.of (augOp op x.2 y.2) s).out fun z s => .nx { s with σ := s.σ.set i (some (false, z)) }
  | .exp e, s => (evE g cl e s).out fun _ s => .nx s
  | .ret e, s => (evE g cl e s).out fun x s => .rt x.1 x.2 s
  | .brk, s => .bk s
  | .cont, s => .ct s
  | .ite c a b, s => (evT g cl c s).out fun t s => if t then evSs a s else evSs b s
  | .whl c b, s => whileL (evT g cl c) (evSs b) g.fuel s
  | .for_ t k it b, s => (evEs g cl it s).out fun xs s => match k, xs with
    | .seq, [.box n] => loopB t n (evSs b) g.fuel 0 s
    | _, _ => (Res.of (items k xs) s).out fun l s => loop t (evSs b) l s
  | .raise c, s => .ex c s
  | .try_ b c i j, s => match evSs b s with
    | .ex d s => match g.cls[d]? with
      | some k => if k.subs.contains c then .nx { s with σ := (s.σ.set j (some (false, .exc d))).set i none } else .ex d s
      | none => .no
    | o => o
def evSs : Sms → S → Out
  | .nil, s => .nx s
  | .cons a r, s => (evS a s).then fun s => evSs r s
end
end

def endE (r : Res (Bool × D)) : CRes := match r with
  | .ok x s => .ok x.1 x.2 (shut s.μ)
  | .ex c s => .ex c (shut s.μ)
  | .no => .no
def endS (r : Out) : CRes := match r with
  | .nx s => .ok false .non (shut s.μ)
  | .rt o v s => .ok o v (shut s.μ)
  | .ex c s => .ex c (shut s.μ)
  | _ => .no
def runF (g : G) (cl : Callee) (d : Fn) (as : List D) (μ : List Bx) : CRes :=
  if as.length = d.np then endS (evSs g cl d.body { σ := (as.map fun a => some (false, a)) ++ List.replicate (d.nl - d.np) none, μ := μ }) else .no
def runL (g : G) (cl : Callee) (l : Lm) (as : List D) (μ : List Bx) : CRes :=
  if as.length = l.names.length then endE (evE g cl l.body { σ := as.map fun a => some (false, a), μ := μ }) else .no
def runI (g : G) : Nat → Callee
  | 0 => fun _ _ _ => .no
  | k + 1 => fun f as μ => match f with
    | .inl f => match g.fns[f]? with
      | some d => runF g (runI g k) d as μ
      | none => .no
    | .inr l => runL g (runI g k) l as μ
/-- what an attribute may be read off -/
def baseOk : PySem.Expr → Bool
  | .Call (.Name _ _) [] [] _ => false
  | _ => true

end Iv
end
section
/-! From the text's own terms to the cut-down text. My own work. -/
namespace Iv
open PySem (Str Expr Stmt Scope)

structure Gm where
  N : List Str
  sc : Scope
  qual : Str
  lam : Bool
  consts : List (Str × D)
  clss : List (Str × Nat)
  fns : List (Str × Nat × List Str)
  dks : List (Nat × Nat)
  insts : List Nat
  excs : List Nat
  kws : List (Nat × List Str × List Nat)

def idx (x : Str) : List Str → Option Nat
  | [] => none
  | y :: r => if x = y then some 0 else (idx x r).map (· + 1)
def isLoc (sc : Scope) (x : Str) : Bool := match sc.names.lookup x with
  | some .local | some .cell | some .free => true
  | _ => false
def isGlo (sc : Scope) (x : Str) : Bool := match sc.names.lookup x with
  | some .globalImplicit => true
  | _ => false
def tyNames : List (Str × String) := [("int", "int"), ("bool", "bool"), ("list", "list"), ("tuple", "tuple"), ("str", "str"), ("dict", "dict"), ("set", "set")]
def bfNames : List (Str × BF) := [("len", .len), ("abs", .abs), ("min", .min), ("max", .max), ("int", .int), ("sum", .sum), ("sorted", .sorted), ("tuple", .tuple), ("list", .list), ("any", .any), ("all", .all), ("isinstance", .isinst), ("repr", .repr)]
def opOf : PySem.Operator → Option Op
  | .Add => some .add | .Sub => some .sub | .Mult => some .mul | .FloorDiv => some .div | .Mod => some .mod | .Pow => some .pow
  | .LShift => some .shl | .RShift => some .shr | .BitAnd => some .and | .BitOr => some .or
  | _ => none
def cpOf : PySem.CmpOp → Cp
  | .Eq => .eq | .NotEq => .ne | .Lt => .lt | .LtE => .le | .Gt => .gt | .GtE => .ge | .Is => .is | .IsNot => .isNot | .In => .in_ | .NotIn => .notIn
def conOf : PySem.Const → Option D
  | .none => some .non
  | .bool b => some (.bl b)
  | .int i => some (.int i)
  | .str s => some (.str s)
  | _ => none
def kwNames : List PySem.Keyword → Option (List Str × List Expr)
  | [] => some ([], [])
  | k :: r => match k.arg, kwNames r with
    | some x, some (xs, es) => some (x :: xs, k.value :: es)
    | _, _ => none
def Gm.global (Γ : Gm) (x : Str) : Option D :=
  match Γ.consts.lookup x with
  | some d => some d
  | none => match Γ.clss.lookup x with
    | some c => some (.cls c)
    | none => (tyNames.lookup x).map .ty
def iterOf (Γ : Gm) : Expr → IK × List Expr
  | .Call (.Name x _) [a] [] _ => if x = ("range" : Str) ∧ isGlo Γ.sc x = true then (.rng1, [a]) else (.seq, [])
  | .Call (.Name x _) [a, b] [] _ => if x = ("range" : Str) ∧ isGlo Γ.sc x = true then (.rng2, [a, b]) else (.seq, [])
  | _ => (.seq, [])
def ownOf (Γ : Gm) : Expr → Option (Str × Nat)
  | .Name x _ => (idx x Γ.N).map fun i => (x, i)
  | _ => none
def bmOf (m : Str) (n : Nat) : Option BM :=
  if m = ("append" : Str) ∧ n = 1 then some .append
  else if m = ("pop" : Str) then (if n = 0 then some .pop else if n = 1 then some .popAt else none)
  else if m = ("get" : Str) ∧ n = 2 then some .get else none
/-- the names of the scope that runs in a comprehension's block -/
def inner (scope sc : Scope) : Scope :=
  { scope with names := scope.names.map fun (n, k) => if (k == .free && sc.kind == .function && sc.names.lookup n == some .cell) then (n, .cell) else (n, k) }

/-- a comprehension's own scope is as it should be -/
def blkC (N : List Str) (sc scope : Scope) (own : List (Str × Nat)) : Bool :=
  (match scope.kind with | .function => true | _ => false) && (scope.names.all fun y => decide (scope.names.lookup y.1 = some y.2)) && (own.all fun p => decide (N[p.2]? = some p.1)) &&
    (own.all fun p => match scope.names.lookup p.1 with | some .local => true | some .cell => true | _ => false) &&
    (scope.names.all fun y => match y.2 with
      | .free => (match sc.names.lookup y.1 with | some .cell => true | some .free => true | _ => false)
      | .local => decide (y.1 ∈ own.map (·.1)) || decide (y.1 ∉ N)
      | .cell => decide (y.1 ∈ own.map (·.1)) || decide (y.1 ∉ N)
      | _ => true)
def notSet : Expr → Bool
  | .Set _ _ _ => false
  | _ => true
def strKeys : List (Option Expr) → Option (List Str)
  | [] => some []
  | some (.Constant (.str s) _ _) :: r => (strKeys r).map (s :: ·)
  | _ :: _ => none

/-- the names that a lambda captures -/
def caught (scope : Scope) : List Str := scope.names.filterMap fun y => match y.2 with
  | .free => some y.1
  | _ => none
/-- a lambda's scope is as it should be: no name of its own -/
def lamC (sc scope : Scope) : Bool :=
  decide (scope.kind = .function) && !scope.isCoroutine && !scope.isGenerator && decide (caught scope).Nodup && scope.names.all fun y => match y.2 with
    | .free => (match sc.names.lookup y.1 with | some .cell => true | some .free => true | _ => false)
    | .local => false
    | .cell => false
    | _ => true
def blkΓ (Γ : Gm) (scope : Scope) : Gm := { Γ with sc := inner scope Γ.sc, lam := false }
def lamΓ (Γ : Gm) (scope : Scope) : Gm := { Γ with N := caught scope, sc := scope, lam := false }

mutual
def compE : Nat → Gm → Bool → Expr → Option Ex
  | 0, _, _, _ => none
  | n + 1, Γ, mv, e => match e with
    | .Constant c _ _ => (conOf c).map .con
    | .Name x _ => if isLoc Γ.sc x then (idx x Γ.N).map fun i => .var mv i else if isGlo Γ.sc x then (Γ.global x).map .con else none
    | .BinOp a op b _ => match opOf op, compE n Γ false a, compE n Γ false b with
      | some op, some a, some b => some (.bin op a b)
      | _, _, _ => none
    | .UnaryOp .USub a _ => (compE n Γ false a).map .neg
    | .UnaryOp .Not a _ => (compE n Γ false a).map fun a => .not (.tru a)
    | .BoolOp .And [a, b] _ => match compE n Γ false a, compE n Γ false b with
      | some a, some b => some (.and a b)
      | _, _ => none
    | .BoolOp .And (a :: b :: c :: r) pos => match compE n Γ false a, compE n Γ false (.BoolOp .And (b :: c :: r) pos) with
      | some a, some b => some (.and a b)
      | _, _ => none
    | .BoolOp .Or [a, b] _ => match compE n Γ false a, compE n Γ false b with
      | some a, some b => some (.or a b)
      | _, _ => none
    | .BoolOp .Or (a :: b :: c :: r) pos => match compE n Γ false a, compE n Γ false (.BoolOp .Or (b :: c :: r) pos) with
      | some a, some b => some (.or a b)
      | _, _ => none
    | .Compare a [op] [b] _ => match compE n Γ false a, compE n Γ false b with
      | some a, some b => some (.cmp (cpOf op) a b)
      | _, _ => none
    | .Compare a [p, q] [b, c] _ => match compE n Γ false a, compE n Γ false b, compE n Γ false c with
      | some a, some b, some c => some (.chain (cpOf p) (cpOf q) a b c)
      | _, _, _ => none
    | .IfExp c a b _ => match compT n Γ c, compE n Γ mv a, compE n Γ mv b with
      | some c, some a, some b => some (.ife c a b)
      | _, _, _ => none
    | .List es _ => (compEs n Γ mv es).map .lst
    | .Tuple es _ _ => (compEs n Γ mv es).map .tup
    | .Dict [] [] pos => some (.dn (!Γ.dks.contains (pos.line, pos.col)))
    | .Dict (k :: ks) vs _ => if (k :: ks).length = vs.length ∧ (k :: ks).length ≤ 15 then match strKeys (k :: ks), compEs n Γ mv vs with
      | some ks, some vs => some (.dct ks vs)
      | _, _ => none
      else none
    | .Subscript o (.Slice lo hi none _) _ => match compE n Γ false o, compO n Γ lo, compO n Γ hi with
      | some o, some lo, some hi => some (.slc o lo hi)
      | _, _, _ => none
    | .Subscript o i _ => match compE n Γ false o, compE n Γ false i with
      | some o, some i => some (.sub o i)
      | _, _ => none
    | .Attribute o f _ => if baseOk o then (compE n Γ false o).map fun o => .fld o f else none
    | .ListComp elt [⟨t, it, ifs, 0⟩] scope _ => match ownOf Γ t with
      | some (x, i) => if blkC Γ.N Γ.sc scope [(x, i)] && notSet it then match compI n Γ it, compIfs n (blkΓ Γ scope) ifs, compE n (blkΓ Γ scope) false elt with
        | some (k, it), some c, some e => some (.lc [i] k it i c e)
        | _, _, _ => none
        else none
      | none => none
    | .ListComp elt [⟨t, it, [], 0⟩, ⟨t1, it1, ifs1, 0⟩] scope _ => match ownOf Γ t, ownOf Γ t1 with
      | some (x, i), some (y, j) => if blkC Γ.N Γ.sc scope [(x, i), (y, j)] && notSet it && notSet it1 then match compI n Γ it, compI n (blkΓ Γ scope) it1, compIfs n (blkΓ Γ scope) ifs1, compE n (blkΓ Γ scope) false elt with
        | some (k, it), some (k1, it1), some c, some e => some (.lc2 [i, j] k it i [j] k1 it1 j c e)
        | _, _, _, _ => none
        else none
      | _, _ => none
    | .Lambda ⟨[], [], none, [], [], none, []⟩ body scope _ => if Γ.lam && lamC Γ.sc scope then
        match (caught scope).mapM fun y => idx y Γ.N, compE n (lamΓ Γ scope) false body with
        | some cs, some e => some (.lam (Γ.qual ++ "<lambda>") (caught scope) cs e)
        | _, _ => none
        else none
    | .Call (.Name x _) [] [] _ => if isLoc Γ.sc x then (idx x Γ.N).map fun i => .app i .nil else if isGlo Γ.sc x then (match Γ.clss.lookup x with
        | some _ => none
        | none => match Γ.fns.lookup x with
          | some (f, ps) => if ps.length = 0 then some (.call f .nil) else none
          | none => none) else none
    | .Call (.Name x _) args [] _ => if isLoc Γ.sc x then none else if isGlo Γ.sc x then
        match Γ.clss.lookup x with
        | some c => if Γ.insts.contains c then (compEs n Γ false args).map fun as => .make c as else none
        | none => match Γ.fns.lookup x with
          | some (f, ps) => if ps.length = args.length then (compEs n Γ false args).map fun as => .call f as else none
          | none => match args with
            | [.Call (.Name y _) [a] [] _] => if x = ("sorted" : Str) ∧ y = ("set" : Str) ∧ isGlo Γ.sc y = true then (compEs n Γ false [a]).map fun as => .bcall .sortedSet as
                else match bfNames.lookup x with
                  | some b => (compEs n Γ false args).map fun as => .bcall b as
                  | none => none
            | [a, .List [] _] => if x = ("sum" : Str) then (compE n Γ false a).map fun a => .bcall .sumL (.cons a .nil) else none
            | _ => match bfNames.lookup x with
              | some b => (compEs n Γ false args).map fun as => .bcall b as
              | none => none
        else none
    | .Call (.Name x _) [] (k :: ks) _ => if isGlo Γ.sc x then
        match Γ.fns.lookup x, kwNames (k :: ks) with
        | some (f, ps), some (xs, es) =>
          match compEs n Γ false es, ps.mapM (fun p => idx p xs) with
          | some as, some ord => if ps.length = xs.length ∧ (f, xs, ord) ∈ Γ.kws then some (.callK f ord as) else none
          | _, _ => none
        | _, _ => none
        else none
    | .Call (.Attribute o m apos) args [] cpos => if baseOk o && (apos.endLine == cpos.line) && decide (args.length < 20) then match bmOf m args.length with
      | some .get => match args with
        | [b, c] => match compE n Γ false o, compE n Γ false b, compE n Γ false c with
          | some o, some b, some c => some (.bm .get o (.cons b (.cons c .nil)))
          | _, _, _ => none
        | _ => none
      | some b => match compE n Γ false o, compEs n Γ (m == ("append" : Str)) args with
        | some o, some as => some (.bm b o as)
        | _, _ => none
      | none => none
      else none
    | _ => none
def compT : Nat → Gm → Expr → Option Ex
  | 0, _, _ => none
  | n + 1, Γ, e => match e with
    | .UnaryOp .Not a _ => (compT n Γ a).map .not
    | .BoolOp _ [a] _ => compT n Γ a
    | .BoolOp .And (a :: b :: r) pos => match compT n Γ a, compT n Γ (.BoolOp .And (b :: r) pos) with
      | some a, some b => some (.and a b)
      | _, _ => none
    | .BoolOp .Or (a :: b :: r) pos => match compT n Γ a, compT n Γ (.BoolOp .Or (b :: r) pos) with
      | some a, some b => some (.or a b)
      | _, _ => none
    | .IfExp _ _ _ _ => none
    | e => (compE n Γ false e).map .tru
def compEs : Nat → Gm → Bool → List Expr → Option Exs
  | 0, _, _, _ => none
  | _ + 1, _, _, [] => some .nil
  | n + 1, Γ, mv, e :: r => match compE n Γ mv e, compEs n Γ mv r with
    | some e, some r => some (.cons e r)
    | _, _ => none
def compO : Nat → Gm → Option Expr → Option Ex
  | _, _, none => some .skip
  | 0, _, _ => none
  | n + 1, Γ, some e => compE n Γ false e
def compI : Nat → Gm → Expr → Option (IK × Exs)
  | 0, _, _ => none
  | n + 1, Γ, e => match iterOf Γ e with
    | (.rng1, as) => (compEs n Γ false as).map fun as => (.rng1, as)
    | (.rng2, as) => (compEs n Γ false as).map fun as => (.rng2, as)
    | (.seq, _) => (compE n Γ false e).map fun a => (.seq, .cons a .nil)
def compIfs : Nat → Gm → List Expr → Option Ex
  | 0, _, _ => none
  | _ + 1, _, [] => some .yes
  | n + 1, Γ, [c] => compT n Γ c
  | _ + 1, _, _ => none
end

def nameIx (Γ : Gm) (x : Str) : Option Nat := match Γ.sc.names.lookup x with
  | some .local | some .cell => idx x Γ.N
  | _ => none
def namesIx (Γ : Gm) : List Expr → Option (List Nat)
  | [] => some []
  | .Name x _ :: r => match nameIx Γ x, namesIx Γ r with
    | some i, some is => some (i :: is)
    | _, _ => none
  | _ :: _ => none
def nameLoc (Γ : Gm) (x : Str) : Option Nat := match Γ.sc.names.lookup x with
  | some .local => idx x Γ.N
  | _ => none
def isLc : Expr → Bool
  | .ListComp _ _ _ _ => true
  | _ => false
def isTup : Expr → Bool
  | .Tuple _ _ _ => true
  | _ => false
/-- values that are stored one by one -/
def parV (vs : List Expr) : Bool := !(vs.all (PySem.foldedForSure 8)) && !(vs.all (PySem.constantsAlone 8))
mutual
def compS : Nat → Gm → Stmt → Option Sm
  | 0, _, _ => none
  | n + 1, Γ, st => match st with
    | .Return (some e) _ => (compE n Γ true e).map .ret
    | .Expr e _ => if isLc e then none else (compE n Γ false e).map .exp
    | .Assign [.Name x xp] (.ListComp elt gs scope pos) _ => if (xp.line == pos.line) && !(scope.names.any fun (n, k) => n == x && (k == .local || k == .cell)) then
        match nameLoc Γ x, compE (n + 1) Γ false (.ListComp elt gs scope pos) with
        | some i, some v => some (.asg i v)
        | _, _ => none
        else none
    | .Assign [.Name x _] v _ => match nameIx Γ x, compE n Γ false v with
      | some i, some v => some (.asg i v)
      | _, _ => none
    | .Assign [.Tuple [.Name x px, .Name y py] _ _] (.Tuple [a, b] _ _) _ => if decide (x ≠ y) && (py.line == px.line) && parV [a, b] then
        match nameLoc Γ x, nameLoc Γ y, compEs n Γ false [a, b] with
        | some i, some j, some vs => if i ≠ j then some (.par [i, j] vs) else none
        | none, _, _ | _, none, _ => match nameIx Γ x, nameIx Γ y, compEs n Γ false [a, b] with
          | some i, some j, some vs => some (.asgT [i, j] (.tup vs))
          | _, _, _ => none
        | _, _, _ => none
        else none
    | .Assign [.Tuple [.Name x px, .Name y py, .Name z pz] _ _] (.Tuple [a, b, c] _ _) _ => if decide (x ≠ y) && decide (x ≠ z) && decide (y ≠ z) && (py.line == px.line) && (pz.line == px.line) && parV [a, b, c] then
        match nameLoc Γ x, nameLoc Γ y, nameLoc Γ z, compEs n Γ false [a, b, c] with
        | some i, some j, some l, some vs => if i ≠ j ∧ i ≠ l ∧ j ≠ l then some (.par [i, j, l] vs) else none
        | _, _, _, _ => none
        else none
    | .Assign [.Tuple ts _ _] v _ => if isTup v || isLc v then none else match namesIx Γ ts, compE n Γ false v with
      | some is, some v => some (.asgT is v)
      | _, _ => none
    | .Assign [.Subscript o i _] v _ => if isLc v then none else match compE n Γ false o, compE n Γ false i, compE n Γ false v with
      | some o, some i, some v => some (.setI o i v)
      | _, _, _ => none
    | .Assign [.Attribute o f _] v _ => match compE n Γ false o, compE n Γ false v with
      | some o, some v => some (.setF o f v)
      | _, _ => none
    | .AugAssign (.Name x _) .Add v _ => match nameIx Γ x, compE n Γ false v with
      | some i, some v => some (.aug i .add v)
      | _, _ => none
    | .AugAssign (.Name x _) .Sub v _ => match nameIx Γ x, compE n Γ false v with
      | some i, some v => some (.aug i .sub v)
      | _, _ => none
    | .If c a b _ => match compT n Γ c, compSs n Γ a, compSs n Γ b with
      | some c, some a, some b => some (.ite c a b)
      | _, _, _ => none
    | .While c b [] _ => match compT n Γ c, compSs n Γ b with
      | some c, some b => some (.whl c b)
      | _, _ => none
    | .For (.Name x _) it b [] _ => if notSet it then match nameIx Γ x, compI n Γ it, compSs n Γ b with
      | some i, some (k, it), some b => some (.for_ i k it b)
      | _, _, _ => none
      else none
    | .Break _ => some .brk
    | .Continue _ => some .cont
    | .Raise (some (.Call (.Name x _) [.Constant (.str _) _ _] [] _)) none _ => if isGlo Γ.sc x then (match Γ.clss.lookup x with | some c => if Γ.excs.contains c then some (.raise c) else none | none => none) else none
    | .Try b [.ExceptHandler (some (.Name x _)) (some e) [.Assign [.Name y _] (.Name e' _) _] _] [] [] _ => if isGlo Γ.sc x && decide (e = e') && decide (e ≠ y) then
        match compSs n Γ b, Γ.clss.lookup x, nameLoc Γ e, nameLoc Γ y with
        | some b, some c, some i, some j => if Γ.excs.contains c && decide (i ≠ j) then some (.try_ b c i j) else none
        | _, _, _, _ => none
        else none
    | _ => none
def compSs : Nat → Gm → List Stmt → Option Sms
  | 0, _, _ => none
  | _ + 1, _, [] => some .nil
  | n + 1, Γ, s :: r => match compS n Γ s, compSs n Γ r with
    | some s, some r => some (.cons s r)
    | _, _ => none
end
end Iv
end
section
set_option Elab.async false
set_option linter.all false
/-! What a tree stands for in the heap; states of the evaluator and of the walk. My own work. -/
namespace Iv
open PySem L2
open PySem (Str)

mutual
def toPy : D → Option PyData
  | .non => some .none
  | .bl b => some (.bool b)
  | .int i => some (.int i)
  | .str s => some (.str s)
  | .lst xs => (toPyL xs).map .list
  | .tup xs => (toPyL xs).map .tuple
  | _ => none
def toPyL : List D → Option (List PyData)
  | [] => some []
  | x :: xs => match toPy x, toPyL xs with
    | some p, some ps => some (p :: ps)
    | _, _ => none
end

/-- dicts, locked ones too: a walk locks them -/
def dicty : HO → Bool
  | .dK _ => true
  | .dT _ => true
  | .frz _ u => dicty u
  | _ => false
/-- what a frame knows: its text's classes, the lambdas that it makes and those that it was handed, its tables of code objects -/
structure Cn where
  ca : Nat → Addr
  lam : Lm → Addr → Addr → List (Str × Addr) → HO
  own : Lm → List (Str × Addr) → Prop
  cel : Lm → List (Str × Addr) → List V → Prop
  tabs : List (Addr × Str)
  ld : ∀ i f c cl, dicty (lam i f c cl) = false
instance : CoeFun Cn (fun _ => Nat → Addr) := ⟨Cn.ca⟩
/-- an exception of the text's class C that was caught, at a -/
def ExcAt (C : Addr) (a : Addr) : HO := .ext fun h => ∃ (oe : Obj), h.get? a = some oe ∧ Zc (.ref C) none oe ∧ ∃ vs, oe.data = .fields vs

section
variable (Ca : Cn) (F : Addr → Prop) (ρ : List Addr) (H : Hp)
mutual
/-- v is the value of this tree; what it reaches stands still (F), or is a box -/
def Rep : D → V → Prop
  | .non, v => v = .non
  | .bl b, v => v = .bl b
  | .int i, v => v = .int i
  | .str s, v => v = .str s
  | .ty n, v => v = .ty n
  | .cls c, v => v = .ref (Ca c)
  | .box n, v => ∃ a, v = .ref a ∧ ρ[n]? = some a
  | .rep d, v => ∃ p, toPy d = some p ∧ v = .str p.shown
  | .exc c, v => ∃ a, v = .ref a ∧ F a ∧ H a = some (ExcAt (Ca c) a)
  | .tup xs, v => ∃ a vs, v = .ref a ∧ F a ∧ H a = some (.tup vs) ∧ RepL xs vs
  | .lst xs, v => ∃ a vs, v = .ref a ∧ F a ∧ H a = some (.lst vs) ∧ RepL xs vs
  | .scr xs, v => ∃ a vs o, v = .ref a ∧ F a ∧ H a = some (.frz o (.lst vs)) ∧ RepL xs vs
  | .dK kvs, v => ∃ a ws, v = .ref a ∧ F a ∧ Rd H a (.dK ws) ∧ RepK kvs ws
  | .dT kvs, v => ∃ a ws, v = .ref a ∧ F a ∧ Rd H a (.dT ws) ∧ RepT kvs ws
def RepL : List D → List V → Prop
  | [], vs => vs = []
  | x :: xs, vs => ∃ v r, vs = v :: r ∧ Rep x v ∧ RepL xs r
def RepK : List (Key × D) → List (Key × V) → Prop
  | [], ws => ws = []
  | (k, x) :: r, ws => ∃ v t, ws = (k, v) :: t ∧ Rep x v ∧ RepK r t
def RepT : List (List Key × D) → List (List Key × V) → Prop
  | [], ws => ws = []
  | (k, x) :: r, ws => ∃ v t, ws = (k, v) :: t ∧ Rep x v ∧ RepT r t
end
/-- fields of an instance -/
def RepF : List (Str × D) → List (Str × V) → Prop
  | [], ws => ws = []
  | (k, x) :: r, ws => ∃ v t, ws = (k, v) :: t ∧ Rep Ca F ρ H x v ∧ RepF r t
/-- the object at a holds this tree, and may be changed -/
def Cont (d : D) (a : Addr) : Prop := match d with
  | .lst xs => ∃ vs, H a = some (.lst vs) ∧ RepL Ca F ρ H xs vs
  | .dK kvs => ∃ ws, H a = some (.dK ws) ∧ RepK Ca F ρ H kvs ws
  | .dT kvs => ∃ ws, H a = some (.dT ws) ∧ RepT Ca F ρ H kvs ws
  | _ => False
def BxR (b : Bx) (a : Addr) : Prop := match b with
  | .gone => True
  | .val d => Cont Ca F ρ H d a
  | .ins c fs => ∃ dx ws, H a = some (.ins (Ca c) dx ws) ∧ RepF Ca F ρ H fs ws
  | .lam i => F a ∧ ∃ c cl, H a = some (Ca.lam i a c cl) ∧ F c ∧ H c = some (LamX.CodeO c (i.q)) ∧ Ca.own i cl
  | .clo i ds => F a ∧ ∃ c cl vs, H a = some (Ca.lam i a c cl) ∧ F c ∧ H c = some (LamX.CodeO c (i.q)) ∧ Ca.cel i cl vs ∧ RepL Ca F ρ H ds vs
end

/-- what stood still stands still, the boxes' places are kept -/
structure Gr (F : Addr → Prop) (ρ : List Addr) (H : Hp) (F' : Addr → Prop) (ρ' : List Addr) (H' : Hp) : Prop where
  f : ∀ a, F a → F' a
  l : ∀ a o, F a → H a = some o → dicty o = false → H' a = some o
  k : ∀ a ws, F a → Rd H a (.dK ws) → Rd H' a (.dK ws)
  t : ∀ a ws, F a → Rd H a (.dT ws) → Rd H' a (.dT ws)
  p : ∃ t, ρ' = ρ ++ t
theorem Gr.refl (F : Addr → Prop) (ρ : List Addr) (H : Hp) : Gr F ρ H F ρ H := ⟨fun _ h => h, fun _ _ _ h _ => h, fun _ _ _ h => h, fun _ _ _ h => h, [], by simp⟩
theorem Gr.trans {F F1 F2 : Addr → Prop} {ρ ρ1 ρ2 : List Addr} {H H1 H2 : Hp} (a : Gr F ρ H F1 ρ1 H1) (b : Gr F1 ρ1 H1 F2 ρ2 H2) : Gr F ρ H F2 ρ2 H2 := by
  refine ⟨fun x h => b.f x (a.f x h), fun x o h e z => b.l x o (a.f x h) (a.l x o h e z) z, fun x w h r => b.k x w (a.f x h) (a.k x w h r), fun x w h r => b.t x w (a.f x h) (a.t x w h r), ?_⟩
  obtain ⟨t, e⟩ := a.p
  obtain ⟨u, q⟩ := b.p
  exact ⟨t ++ u, by rw [q, e, List.append_assoc]⟩
theorem Gr.get {F F' : Addr → Prop} {ρ ρ' : List Addr} {H H' : Hp} (g : Gr F ρ H F' ρ' H') {n : Nat} {a : Addr} (e : ρ[n]? = some a) : ρ'[n]? = some a := by
  obtain ⟨t, q⟩ := g.p
  rw [q, List.getElem?_append_left (List.getElem?_eq_some_iff.mp e).1, e]
/-- the places of F hold the same in both heaps -/
theorem Gr.same {F F' : Addr → Prop} {ρ ρ' : List Addr} {H H' : Hp} (f : ∀ a, F a → F' a) (e : ∀ a, F a → H' a = H a) (p : ∃ t, ρ' = ρ ++ t) : Gr F ρ H F' ρ' H' := by
  refine ⟨f, fun a o h q _ => by rw [e a h]; exact q, fun a ws h r => ?_, fun a ws h r => ?_, p⟩
  · unfold Rd at r ⊢; rw [e a h]; exact r
  · unfold Rd at r ⊢; rw [e a h]; exact r
theorem Gr.wid {F F' : Addr → Prop} {ρ : List Addr} {H : Hp} (f : ∀ a, F a → F' a) : Gr F ρ H F' ρ H := Gr.same f (fun _ _ => rfl) ⟨[], by simp⟩
/-- a place that does not stand still is written, or a new one -/
theorem Gr.upd {F : Addr → Prop} {ρ : List Addr} {H : Hp} {a : Addr} {o : HO} (h : ¬ F a) : Gr F ρ H F ρ (upd H a o) :=
  Gr.same (fun _ h => h) (fun b hb => upd_ne fun e => h (e ▸ hb)) ⟨[], by simp⟩
theorem Gr.more {F : Addr → Prop} {ρ : List Addr} {H : Hp} (t : List Addr) : Gr F ρ H F (ρ ++ t) H := Gr.same (fun _ h => h) (fun _ _ => rfl) ⟨t, rfl⟩

section
variable {Ca : Cn} {F F' : Addr → Prop} {ρ ρ' : List Addr} {H H' : Hp}
mutual
theorem Rep.mono (g : Gr F ρ H F' ρ' H') : ∀ (d : D) (v : V), Rep Ca F ρ H d v → Rep Ca F' ρ' H' d v
  | .non, _, h => by simpa only [Rep] using h
  | .bl _, _, h => by simpa only [Rep] using h
  | .int _, _, h => by simpa only [Rep] using h
  | .str _, _, h => by simpa only [Rep] using h
  | .ty _, _, h => by simpa only [Rep] using h
  | .cls _, _, h => by simpa only [Rep] using h
  | .rep _, _, h => by simpa only [Rep] using h
  | .box n, v, h => by
    simp only [Rep] at h ⊢
    obtain ⟨a, e, q⟩ := h
    exact ⟨a, e, g.get q⟩
  | .exc c, v, h => by
    simp only [Rep] at h ⊢
    obtain ⟨a, e, f, q⟩ := h
    exact ⟨a, e, g.f a f, g.l a _ f q rfl⟩
  | .tup xs, v, h => by
    simp only [Rep] at h ⊢
    obtain ⟨a, vs, e, f, r, l⟩ := h
    exact ⟨a, vs, e, g.f a f, g.l a _ f r rfl, RepL.mono g xs vs l⟩
  | .lst xs, v, h => by
    simp only [Rep] at h ⊢
    obtain ⟨a, vs, e, f, r, l⟩ := h
    exact ⟨a, vs, e, g.f a f, g.l a _ f r rfl, RepL.mono g xs vs l⟩
  | .scr xs, v, h => by
    simp only [Rep] at h ⊢
    obtain ⟨a, vs, o, e, f, r, l⟩ := h
    exact ⟨a, vs, o, e, g.f a f, g.l a _ f r rfl, RepL.mono g xs vs l⟩
  | .dK xs, v, h => by
    simp only [Rep] at h ⊢
    obtain ⟨a, vs, e, f, r, l⟩ := h
    exact ⟨a, vs, e, g.f a f, g.k a _ f r, RepK.mono g xs vs l⟩
  | .dT xs, v, h => by
    simp only [Rep] at h ⊢
    obtain ⟨a, vs, e, f, r, l⟩ := h
    exact ⟨a, vs, e, g.f a f, g.t a _ f r, RepT.mono g xs vs l⟩
theorem RepL.mono (g : Gr F ρ H F' ρ' H') : ∀ (xs : List D) (vs : List V), RepL Ca F ρ H xs vs → RepL Ca F' ρ' H' xs vs
  | [], _, h => by simpa only [RepL] using h
  | x :: xs, vs, h => by
    simp only [RepL] at h ⊢
    obtain ⟨v, r, e, a, b⟩ := h
    exact ⟨v, r, e, Rep.mono g x v a, RepL.mono g xs r b⟩
theorem RepK.mono (g : Gr F ρ H F' ρ' H') : ∀ (xs : List (Key × D)) (vs : List (Key × V)), RepK Ca F ρ H xs vs → RepK Ca F' ρ' H' xs vs
  | [], _, h => by simpa only [RepK] using h
  | (k, x) :: xs, vs, h => by
    simp only [RepK] at h ⊢
    obtain ⟨v, r, e, a, b⟩ := h
    exact ⟨v, r, e, Rep.mono g x v a, RepK.mono g xs r b⟩
theorem RepT.mono (g : Gr F ρ H F' ρ' H') : ∀ (xs : List (List Key × D)) (vs : List (List Key × V)), RepT Ca F ρ H xs vs → RepT Ca F' ρ' H' xs vs
  | [], _, h => by simpa only [RepT] using h
  | (k, x) :: xs, vs, h => by
    simp only [RepT] at h ⊢
    obtain ⟨v, r, e, a, b⟩ := h
    exact ⟨v, r, e, Rep.mono g x v a, RepT.mono g xs r b⟩
end
theorem RepF.mono (g : Gr F ρ H F' ρ' H') : ∀ (xs : List (Str × D)) (vs : List (Str × V)), RepF Ca F ρ H xs vs → RepF Ca F' ρ' H' xs vs
  | [], _, h => by simpa only [RepF] using h
  | (k, x) :: xs, vs, h => by
    simp only [RepF] at h ⊢
    obtain ⟨v, r, e, a, b⟩ := h
    exact ⟨v, r, e, Rep.mono g x v a, RepF.mono g xs r b⟩
/-- the same content in a larger heap -/
theorem Cont.mono (g : Gr F ρ H F' ρ' H') {d : D} {a : Addr} (e : ∀ o, H a = some o → H' a = some o) (h : Cont Ca F ρ H d a) : Cont Ca F' ρ' H' d a := by
  unfold Cont at h ⊢
  split at h
  · obtain ⟨vs, q, l⟩ := h; exact ⟨vs, e _ q, RepL.mono g _ _ l⟩
  · obtain ⟨vs, q, l⟩ := h; exact ⟨vs, e _ q, RepK.mono g _ _ l⟩
  · obtain ⟨vs, q, l⟩ := h; exact ⟨vs, e _ q, RepT.mono g _ _ l⟩
  · exact h.elim
theorem BxR.mono (g : Gr F ρ H F' ρ' H') {b : Bx} {a : Addr} (e : ∀ o, H a = some o → H' a = some o) (h : BxR Ca F ρ H b a) : BxR Ca F' ρ' H' b a := by
  unfold BxR at h ⊢
  split at h
  · trivial
  · exact h.mono g e
  · obtain ⟨dx, ws, q, l⟩ := h; exact ⟨dx, ws, e _ q, RepF.mono g _ _ l⟩
  · obtain ⟨fa, c, cl, q, f, r, o⟩ := h; exact ⟨g.f a fa, c, cl, e _ q, g.f c f, g.l c _ f r rfl, o⟩
  · obtain ⟨fa, c, cl, vs, q, f, r, o, l⟩ := h; exact ⟨g.f a fa, c, cl, vs, e _ q, g.f c f, g.l c _ f r rfl, o, RepL.mono g _ _ l⟩
/-- what alone is held begins to stand still -/
theorem Cont.rep (g : ∀ a, F a → F' a) {d : D} {a : Addr} (fa : F' a) (h : Cont Ca F ρ H d a) : Rep Ca F' ρ H d (.ref a) := by
  have g' : Gr F ρ H F' ρ H := Gr.wid g
  unfold Cont at h
  split at h
  · obtain ⟨vs, q, l⟩ := h; simp only [Rep]; exact ⟨a, vs, rfl, fa, q, RepL.mono g' _ _ l⟩
  · obtain ⟨vs, q, l⟩ := h; simp only [Rep]; exact ⟨a, vs, rfl, fa, .inl q, RepK.mono g' _ _ l⟩
  · obtain ⟨vs, q, l⟩ := h; simp only [Rep]; exact ⟨a, vs, rfl, fa, .inl q, RepT.mono g' _ _ l⟩
  · exact h.elim
theorem Cont.some {d : D} {a : Addr} (h : Cont Ca F ρ H d a) : ∃ o, H a = some o := by
  unfold Cont at h
  split at h
  · obtain ⟨vs, q, l⟩ := h; exact ⟨_, q⟩
  · obtain ⟨vs, q, l⟩ := h; exact ⟨_, q⟩
  · obtain ⟨vs, q, l⟩ := h; exact ⟨_, q⟩
  · exact h.elim
end

/-- a value with its mark: held by one alone, or standing still -/
def Own (Ca : Cn) (Pr : Hp) (F : Addr → Prop) (ρ : List Addr) (H : Hp) (d : D) (v : V) : Prop :=
  ∃ a, v = .ref a ∧ Cont Ca F ρ H d a ∧ ¬ F a ∧ a ∉ ρ ∧ Pr a = none
def Val (Ca : Cn) (Pr : Hp) (F : Addr → Prop) (ρ : List Addr) (H : Hp) (x : Bool × D) (v : V) : Prop :=
  if x.1 = true then Own Ca Pr F ρ H x.2 v else Rep Ca F ρ H x.2 v

/-- an object that is neither a table nor known by a word of its own -/
def softO : HO → Bool
  | .tbl _ => false
  | .ext _ => false
  | _ => true
/-- the evaluator's state s and the walk's slots and heap tell the same; Pr: what is not to be touched -/
structure Sta (Ca : Cn) (Pr : Hp) (F : Addr → Prop) (ρ : List Addr) (s : S) (σ : L2.St) (H : Hp) : Prop where
  len : ρ.length = s.μ.length
  nd : ρ.Nodup
  fd : ∀ a, F a → ∃ o, H a = some o
  bx : ∀ (n : Nat) (b : Bx) (a : Addr), s.μ[n]? = some b → ρ[n]? = some a → BxR Ca F ρ H b a
  bF : ∀ (n : Nat) (b : Bx) (a : Addr), s.μ[n]? = some b → ρ[n]? = some a → b.mut = true → ¬ F a
  rd : ∀ a ∈ ρ, ∃ o, H a = some o
  sl : ∀ (i : Nat) (x : Bool × D), s.σ[i]? = some (some x) → ∃ v, σ[i]? = some (some v) ∧ Val Ca Pr F ρ H x v
  ow : ∀ (i j : Nat) (d e : D) (v : V), s.σ[i]? = some (some (true, d)) → s.σ[j]? = some (some (true, e)) → σ[i]? = some (some v) → σ[j]? = some (some v) → i = j
  pr : ∀ a o, Pr a = some o → H a = some o
  pF : ∀ a o, Pr a = some o → ¬ F a
  pρ : ∀ a ∈ ρ, Pr a = none
  ln : s.σ.length ≤ σ.length
  tb : LamX.Tabs Ca.tabs H
  nt : ∀ a ps, H a = some (.tbl ps) → ¬ F a ∧ a ∉ ρ ∧ Pr a = none
  so : ∀ a o, Pr a = some o → softO o = true
/-- a value on its way: held by nobody, or standing still -/
def Tmp (Ca : Cn) (Pr : Hp) (F : Addr → Prop) (ρ : List Addr) (s : S) (σ : L2.St) (H : Hp) (x : Bool × D) (v : V) : Prop :=
  Val Ca Pr F ρ H x v ∧ (x.1 = true → ∀ (i : Nat) (d : D), s.σ[i]? = some (some (true, d)) → σ[i]? ≠ some (some v))

theorem tabs_set {T : List (Addr × Str)} {H : Hp} {a : Addr} {o0 o : HO} (t : LamX.Tabs T H) (h : H a = some o0) (so : softO o0 = true) : LamX.Tabs T (upd H a o) := fun p hp => by
  obtain ⟨ps, h1, h2, h3⟩ := t p hp
  have n1 : p.1 ≠ a := fun z => by rw [z, h] at h1; cases h1; cases so
  refine ⟨ps, by rw [upd_ne n1]; exact h1, h2, fun pos cv hc => ?_⟩
  obtain ⟨c, e, hcO⟩ := h3 pos cv hc
  have n2 : c ≠ a := fun z => by rw [z, h] at hcO; cases hcO; cases so
  exact ⟨c, e, by rw [upd_ne n2]; exact hcO⟩
theorem cont_soft {Ca : Cn} {F : Addr → Prop} {ρ : List Addr} {H : Hp} {d : D} {a : Addr} (h : Cont Ca F ρ H d a) : ∃ o, H a = some o ∧ softO o = true := by
  unfold Cont at h
  split at h
  · obtain ⟨vs, q, _⟩ := h; exact ⟨_, q, rfl⟩
  · obtain ⟨vs, q, _⟩ := h; exact ⟨_, q, rfl⟩
  · obtain ⟨vs, q, _⟩ := h; exact ⟨_, q, rfl⟩
  · exact h.elim
theorem soft_nt {H : Hp} {a : Addr} {o : HO} (h : H a = some o) (so : softO o = true) : ∀ ps, H a ≠ some (.tbl ps) := fun ps z => by
  rw [h] at z; cases z; cases so
theorem cont_nt {Ca : Cn} {F : Addr → Prop} {ρ : List Addr} {H : Hp} {d : D} {a : Addr} (h : Cont Ca F ρ H d a) : ∀ ps, H a ≠ some (.tbl ps) := let ⟨_, e, so⟩ := cont_soft h; soft_nt e so
theorem nt_set {H Pr : Hp} {F : Addr → Prop} {ρ : List Addr} {a : Addr} {o : HO} (h : ∀ b ps, H b = some (.tbl ps) → ¬ F b ∧ b ∉ ρ ∧ Pr b = none) (n : ∀ ps, upd H a o a ≠ some (.tbl ps)) : ∀ b ps, upd H a o b = some (.tbl ps) → ¬ F b ∧ b ∉ ρ ∧ Pr b = none := fun b ps e => by
  by_cases z : b = a
  · subst z; exact absurd e (n ps)
  · rw [upd_ne z] at e; exact h b ps e
section
variable {Ca : Cn} {Pr : Hp} {F F' : Addr → Prop} {ρ ρ' : List Addr} {s s' : S} {σ : L2.St} {H H' : Hp} {d : D} {v : V}
theorem Sta.fresh_F (S : Sta Ca Pr F ρ s σ H) {p : Addr} (h : H p = none) : ¬ F p := fun f => by
  obtain ⟨o, e⟩ := S.fd p f
  rw [h] at e; cases e
theorem Sta.fresh_ρ (S : Sta Ca Pr F ρ s σ H) {p : Addr} (h : H p = none) : p ∉ ρ := fun f => by
  obtain ⟨o, e⟩ := S.rd p f
  rw [h] at e; cases e
theorem Sta.fresh_Pr (S : Sta Ca Pr F ρ s σ H) {p : Addr} (h : H p = none) : Pr p = none := by
  cases e : Pr p with
  | none => rfl
  | some o => rw [S.pr p o e] at h; cases h
/-- a slot that alone holds its object -/
theorem Sta.own (S : Sta Ca Pr F ρ s σ H) {i : Nat} (e : s.σ[i]? = some (some (true, d))) : ∃ a, σ[i]? = some (some (.ref a)) ∧ Cont Ca F ρ H d a ∧ ¬ F a ∧ a ∉ ρ ∧ Pr a = none := by
  obtain ⟨v, h, r⟩ := S.sl i _ e
  obtain ⟨a, rfl, c⟩ := (show Own Ca Pr F ρ H d v from r)
  exact ⟨a, h, c⟩
theorem Sta.std (S : Sta Ca Pr F ρ s σ H) {i : Nat} (e : s.σ[i]? = some (some (false, d))) : ∃ v, σ[i]? = some (some v) ∧ Rep Ca F ρ H d v := S.sl i _ e

/-- the heap grows: a new object at p, or another one changed that nobody here holds -/
theorem Sta.new (S : Sta Ca Pr F ρ s σ H) {p : Addr} {o : HO} (h : H p = none) : Sta Ca Pr F ρ s σ (upd H p o) := by
  have nF := S.fresh_F h
  have g : Gr F ρ H F ρ (upd H p o) := Gr.upd nF
  have keep : ∀ a u, H a = some u → upd H p o a = some u := fun a u e => by rw [upd_ne (ne_of_none e h)]; exact e
  refine ⟨S.len, S.nd, fun a f => ?_, fun n b a h1 h2 => (S.bx n b a h1 h2).mono g (keep a), S.bF, fun a m => ?_, fun i x e => ?_, S.ow, fun a u e => keep a u (S.pr a u e), S.pF, S.pρ, S.ln, S.tb.ext keep, fun a ps e => by
    by_cases ha : a = p
    · subst ha; exact ⟨nF, S.fresh_ρ h, S.fresh_Pr h⟩
    · rw [upd_ne ha] at e; exact S.nt a ps e, S.so⟩
  · obtain ⟨u, e⟩ := S.fd a f; exact ⟨u, keep a u e⟩
  · obtain ⟨u, e⟩ := S.rd a m; exact ⟨u, keep a u e⟩
  · obtain ⟨v, h1, r⟩ := S.sl i x e
    refine ⟨v, h1, ?_⟩
    unfold Val at r ⊢
    split
    · rename_i hx
      rw [if_pos hx] at r
      obtain ⟨a, e1, c, f, m, q⟩ := r
      exact ⟨a, e1, c.mono g (keep a), f, m, q⟩
    · rename_i hx
      rw [if_neg hx] at r
      exact Rep.mono g _ _ r
/-- more stands still: an object that nobody here may change -/
theorem Sta.still (S : Sta Ca Pr F ρ s σ H) {p : Addr} (hp : ∃ o, H p = some o) (hnt : ∀ ps, H p ≠ some (.tbl ps)) (hpr : Pr p = none) (hb : ∀ (n : Nat) (b : Bx), s.μ[n]? = some b → ρ[n]? = some p → b.mut = false) (hs : ∀ (i : Nat) (d : D), s.σ[i]? = some (some (true, d)) → σ[i]? ≠ some (some (.ref p))) :
    Sta Ca Pr (fun a => F a ∨ a = p) ρ s σ H := by
  have g : Gr F ρ H (fun a => F a ∨ a = p) ρ H := Gr.wid fun a f => .inl f
  refine ⟨S.len, S.nd, fun a f => ?_, fun n b a h1 h2 => (S.bx n b a h1 h2).mono g fun _ e => e, fun n b a h1 h2 nb => ?_, S.rd, fun i x e => ?_, S.ow, S.pr, fun a u e z => ?_, S.pρ, S.ln, S.tb, fun a ps e => ⟨fun z => z.elim (S.nt a ps e).1 (fun w => by subst w; exact hnt ps e), (S.nt a ps e).2⟩, S.so⟩
  · rcases f with f | rfl
    · exact S.fd a f
    · exact hp
  · intro z
    rcases z with z | rfl
    · exact S.bF n b a h1 h2 nb z
    · rw [hb n b h1 h2] at nb; cases nb
  · obtain ⟨v, h1, r⟩ := S.sl i x e
    refine ⟨v, h1, ?_⟩
    unfold Val at r ⊢
    split
    · rename_i hx
      rw [if_pos hx] at r
      obtain ⟨a, e1, c, f, m, q⟩ := r
      refine ⟨a, e1, c.mono g fun _ e => e, fun z => ?_, m, q⟩
      rcases z with z | rfl
      · exact f z
      · subst e1
        obtain ⟨o, d⟩ := x
        cases hx
        exact hs i d e h1
    · rename_i hx
      rw [if_neg hx] at r
      exact Rep.mono g _ _ r
  · rcases z with z | rfl
    · exact S.pF a u e z
    · rw [hpr] at e; cases e
/-- a value on its way begins to stand still -/
theorem Sta.freeze (S : Sta Ca Pr F ρ s σ H) {x : Bool × D} (t : Tmp Ca Pr F ρ s σ H x v) : ∃ F', Gr F ρ H F' ρ H ∧ Sta Ca Pr F' ρ s σ H ∧ Rep Ca F' ρ H x.2 v := by
  obtain ⟨r, q⟩ := t
  unfold Val at r
  split at r
  · rename_i hx
    obtain ⟨a, rfl, c, f, m, p⟩ := r
    refine ⟨fun b => F b ∨ b = a, Gr.wid fun _ h => .inl h, S.still c.some (cont_nt c) p (fun n b _ h2 => absurd (List.mem_of_getElem? h2) m) (fun i d e => q hx i d e), ?_⟩
    exact c.rep (fun _ h => .inl h) (.inr rfl)
  · exact ⟨F, Gr.refl _ _ _, S, r⟩
end
end Iv
end
section
set_option Elab.async false
set_option linter.all false
/-! Readings that tell: the walk does what the evaluator does. My own work. -/
namespace Iv
open PySem L2
open PySem (Str)

theorem nd_ix {α : Type} {N : List α} (hN : N.Nodup) {i j : Nat} {x : α} (a : N[i]? = some x) (b : N[j]? = some x) : i = j := by
  obtain ⟨h1, e1⟩ := List.getElem?_eq_some_iff.mp a
  obtain ⟨h2, e2⟩ := List.getElem?_eq_some_iff.mp b
  exact (List.getElem_inj hN).mp (e1.trans e2.symm)

/-- what is asked of an answer -/
def Ans {α β : Type} (Ca : Cn) (W : WX) (Pr : Hp) (σ : L2.St) (Rl : (Addr → Prop) → List Addr → S → Hp → α → β → Prop) (F : Addr → Prop) (ρ : List Addr) (H : Hp) (r : Res α) (Q : β → Hp → Prop) : Prop := match r with
  | .ok x s' => ∀ F' ρ' H' v, Gr F ρ H F' ρ' H' → Sta Ca Pr F' ρ' s' σ H' → Rl F' ρ' s' H' x v → Q v H'
  | .ex c s' => ∀ F' ρ' H', Gr F ρ H F' ρ' H' → Sta Ca Pr F' ρ' s' σ H' → W (.ref (Ca c)) none σ H'
  | .no => False
abbrev Rel' (α β : Type) := Hp → L2.St → (Addr → Prop) → List Addr → S → Hp → α → β → Prop
/-- the reading -/
def Run {α β : Type} (Ca : Cn) (W : WX) (Rl : Rel' α β) (f : S → Res α) : L2.St → Hp → (β → Hp → Prop) → Prop :=
  fun σ H Q => ∃ Pr F ρ s, Sta Ca Pr F ρ s σ H ∧ Ans Ca W Pr σ (Rl Pr σ) F ρ H (f s) Q
def RV (Ca : Cn) : Rel' (Bool × D) V := fun Pr σ F ρ s H x v => Tmp Ca Pr F ρ s σ H x v
def RB : Rel' Bool Bool := fun _ _ _ _ _ _ a b => b = a
def RL (Ca : Cn) : Rel' (List D) (List V) := fun _ _ F ρ _ H xs vs => RepL Ca F ρ H xs vs
def HdR (Ca : Cn) (σ : L2.St) (F : Addr → Prop) (ρ : List Addr) (H : Hp) (h : Hd) (v : V) : Prop := match h with
  | .slot i => σ[i]? = some (some v) ∧ ∃ a, v = .ref a
  | .box n => ∃ a, v = .ref a ∧ ρ[n]? = some a
  | .val d => Rep Ca F ρ H d v
def RH (Ca : Cn) : Rel' Hd V := fun _ σ F ρ _ H h v => HdR Ca σ F ρ H h v

section
variable {α β γ δ : Type} {Ca : Cn} {W : WX} {Pr : Hp} {σ : L2.St} {Rl : (Addr → Prop) → List Addr → S → Hp → α → β → Prop} {F F1 : Addr → Prop} {ρ ρ1 : List Addr} {H H1 : Hp} {r : Res α} {Q : β → Hp → Prop}
theorem Ans.start (g : Gr F ρ H F1 ρ1 H1) (h : Ans Ca W Pr σ Rl F ρ H r Q) : Ans Ca W Pr σ Rl F1 ρ1 H1 r Q := by
  cases r with
  | ok x s => exact fun F' ρ' H' v g' => h F' ρ' H' v (g.trans g')
  | ex c s => exact fun F' ρ' H' g' => h F' ρ' H' (g.trans g')
  | no => exact h
theorem Ans.bind {Rl2 : (Addr → Prop) → List Addr → S → Hp → γ → δ → Prop} {k : α → S → Res γ} {Q2 : δ → Hp → Prop} (h : Ans Ca W Pr σ Rl2 F ρ H (r.bind k) Q2) :
    Ans Ca W Pr σ Rl F ρ H r (fun v H1 => ∃ x s1 F1 ρ1, Gr F ρ H F1 ρ1 H1 ∧ Sta Ca Pr F1 ρ1 s1 σ H1 ∧ Rl F1 ρ1 s1 H1 x v ∧ Ans Ca W Pr σ Rl2 F1 ρ1 H1 (k x s1) Q2) := by
  cases r with
  | ok x s => exact fun F' ρ' H' v g S q => ⟨x, s, F', ρ', g, S, q, Ans.start g h⟩
  | ex c s => exact h
  | no => exact h
theorem Ans.mono {Q' : β → Hp → Prop} (h : Ans Ca W Pr σ Rl F ρ H r Q) (q : ∀ v H', Q v H' → Q' v H') : Ans Ca W Pr σ Rl F ρ H r Q' := by
  cases r with
  | ok x s => exact fun F' ρ' H' v g S r => q _ _ (h F' ρ' H' v g S r)
  | ex c s => exact h
  | no => exact h
/-- an answer of the same kind, by another relation -/
theorem Ans.of {o : Option α} {s : S} (h : Ans Ca W Pr σ Rl F ρ H (Res.of o s) Q) : ∃ x, o = some x ∧ Ans Ca W Pr σ Rl F ρ H (.ok x s) Q := by
  cases o with
  | none => exact h.elim
  | some x => exact ⟨x, rfl, h⟩
theorem Ans.fin {x : α} {s : S} {v : β} (h : Ans Ca W Pr σ Rl F ρ H (.ok x s) Q) (S : Sta Ca Pr F ρ s σ H) (r : Rl F ρ s H x v) : Q v H := h F ρ H v (Gr.refl _ _ _) S r
end

theorem PE.imp {X : Cx} {e : Expr} {t t' : TE} (h : PE X e t) (w : ∀ σ H Q, t' σ H Q → t σ H Q) : PE X e t' := ⟨fun pins s σ H Q I q => h.run pins s σ H Q I (w σ H Q q)⟩
theorem PT.imp {X : Cx} {e : Expr} {t t' : TT} (h : PT X e t) (w : ∀ σ H Q, t' σ H Q → t σ H Q) : PT X e t' := ⟨fun pins s σ H Q I q => h.run pins s σ H Q I (w σ H Q q)⟩
theorem PA.imp {X : Cx} {e : List Expr} {t t' : TA} (h : PA X e t) (w : ∀ σ H Q, t' σ H Q → t σ H Q) : PA X e t' := ⟨fun pos pins s σ H Q I q => h.run pos pins s σ H Q I (w σ H Q q)⟩

section
variable {Ca : Cn} {Pr : Hp} {F F' : Addr → Prop} {ρ ρ' : List Addr} {s s' : S} {σ : L2.St} {H H' : Hp} {d : D} {v : V} {a : Addr}
/-! ### lists of values -/
theorem RepL.len : ∀ {xs : List D} {vs : List V}, RepL Ca F ρ H xs vs → xs.length = vs.length
  | [], vs, h => by simp only [RepL] at h; subst h; rfl
  | x :: xs, vs, h => by
    simp only [RepL] at h
    obtain ⟨v, r, rfl, _, b⟩ := h
    simp [RepL.len b]
theorem RepL.get : ∀ {xs : List D} {vs : List V} {i : Nat} {x : D}, RepL Ca F ρ H xs vs → xs[i]? = some x → ∃ v, vs[i]? = some v ∧ Rep Ca F ρ H x v
  | [], _, _, _, _, e => by simp at e
  | x :: xs, vs, 0, y, h, e => by
    simp only [RepL] at h
    obtain ⟨v, r, rfl, a, b⟩ := h
    simp at e; subst e
    exact ⟨v, rfl, a⟩
  | x :: xs, vs, i + 1, y, h, e => by
    simp only [RepL] at h
    obtain ⟨v, r, rfl, a, b⟩ := h
    exact RepL.get (i := i) b (by simpa using e)
theorem RepL.app : ∀ {xs ys : List D} {vs ws : List V}, RepL Ca F ρ H xs vs → RepL Ca F ρ H ys ws → RepL Ca F ρ H (xs ++ ys) (vs ++ ws)
  | [], _, vs, _, h, q => by simp only [RepL] at h; subst h; exact q
  | x :: xs, ys, vs, ws, h, q => by
    simp only [RepL] at h
    obtain ⟨v, r, rfl, a, b⟩ := h
    simp only [List.cons_append, RepL]
    exact ⟨v, r ++ ws, rfl, a, b.app q⟩
theorem RepL.nil : RepL Ca F ρ H [] [] := by simp only [RepL]
theorem RepL.cons {x : D} {v : V} {xs : List D} {vs : List V} (h : Rep Ca F ρ H x v) (q : RepL Ca F ρ H xs vs) : RepL Ca F ρ H (x :: xs) (v :: vs) := by
  simp only [RepL]; exact ⟨v, vs, rfl, h, q⟩
theorem RepL.one {x : D} {v : V} (h : Rep Ca F ρ H x v) : RepL Ca F ρ H [x] [v] := .cons h .nil
theorem RepL.drop : ∀ {xs : List D} {vs : List V} (n : Nat), RepL Ca F ρ H xs vs → RepL Ca F ρ H (xs.drop n) (vs.drop n)
  | _, _, 0, h => h
  | [], vs, n + 1, h => by simp only [RepL] at h; subst h; exact .nil
  | x :: xs, vs, n + 1, h => by
    simp only [RepL] at h
    obtain ⟨v, r, rfl, a, b⟩ := h
    exact RepL.drop n b
theorem RepL.take : ∀ {xs : List D} {vs : List V} (n : Nat), RepL Ca F ρ H xs vs → RepL Ca F ρ H (xs.take n) (vs.take n)
  | _, _, 0, h => .nil
  | [], vs, n + 1, h => by simp only [RepL] at h; subst h; exact .nil
  | x :: xs, vs, n + 1, h => by
    simp only [RepL] at h
    obtain ⟨v, r, rfl, a, b⟩ := h
    exact .cons a (RepL.take n b)
theorem RepL.set {x : D} {v : V} (h : Rep Ca F ρ H x v) : ∀ {xs : List D} {vs : List V} (n : Nat), RepL Ca F ρ H xs vs → RepL Ca F ρ H (xs.set n x) (vs.set n v)
  | [], vs, n, h => by simp only [RepL] at h; subst h; exact .nil
  | y :: xs, vs, 0, q => by
    simp only [RepL] at q
    obtain ⟨u, r, rfl, a, b⟩ := q
    exact .cons h b
  | y :: xs, vs, n + 1, q => by
    simp only [RepL] at q
    obtain ⟨u, r, rfl, a, b⟩ := q
    exact .cons a (RepL.set h n b)
theorem RepL.erase : ∀ {xs : List D} {vs : List V} (n : Nat), RepL Ca F ρ H xs vs → RepL Ca F ρ H (xs.eraseIdx n) (vs.eraseIdx n)
  | [], vs, n, h => by simp only [RepL] at h; subst h; exact .nil
  | y :: xs, vs, 0, q => by
    simp only [RepL] at q
    obtain ⟨u, r, rfl, a, b⟩ := q
    exact b
  | y :: xs, vs, n + 1, q => by
    simp only [RepL] at q
    obtain ⟨u, r, rfl, a, b⟩ := q
    exact .cons a (RepL.erase n b)
theorem RepL.dropLast {xs : List D} {vs : List V} (h : RepL Ca F ρ H xs vs) : RepL Ca F ρ H xs.dropLast vs.dropLast := by
  rw [List.dropLast_eq_take, List.dropLast_eq_take, h.len]; exact h.take _
theorem RepL.rep {xs : List D} {vs : List V} (h : RepL Ca F ρ H xs vs) : ∀ k : Nat, RepL Ca F ρ H (List.replicate k xs).flatten (List.replicate k vs).flatten
  | 0 => .nil
  | k + 1 => by
    rw [List.replicate_succ, List.replicate_succ, List.flatten_cons, List.flatten_cons]
    exact h.app (h.rep k)
theorem RepL.ints : ∀ {xs : List D} {vs : List V} {l : List Int}, RepL Ca F ρ H xs vs → Iv.ints xs = some l → vs = l.map V.int ∧ xs = l.map D.int
  | [], vs, l, h, e => by
    simp only [RepL] at h; subst h
    simp only [Iv.ints, Option.some.injEq] at e; subst e; exact ⟨rfl, rfl⟩
  | x :: xs, vs, l, h, e => by
    simp only [RepL] at h
    obtain ⟨v, r, rfl, a, b⟩ := h
    cases x <;> simp only [Iv.ints] at e <;> try (cases e)
    rename_i i
    cases q : Iv.ints xs with
    | none => rw [q] at e; cases e
    | some m =>
      rw [q] at e
      simp only [Option.map_some, Option.some.injEq] at e; subst e
      obtain ⟨e1, e2⟩ := b.ints q
      simp only [Rep] at a
      subst a
      exact ⟨by rw [e1]; rfl, by rw [e2]; rfl⟩
theorem RepL.bools : ∀ {xs : List D} {vs : List V} {l : List Bool}, RepL Ca F ρ H xs vs → Iv.bools xs = some l → vs = l.map V.bl
  | [], vs, l, h, e => by
    simp only [RepL] at h; subst h
    simp only [Iv.bools, Option.some.injEq] at e; subst e; rfl
  | x :: xs, vs, l, h, e => by
    simp only [RepL] at h
    obtain ⟨v, r, rfl, a, b⟩ := h
    cases x <;> simp only [Iv.bools] at e <;> try (cases e)
    rename_i i
    cases q : Iv.bools xs with
    | none => rw [q] at e; cases e
    | some m =>
      rw [q] at e
      simp only [Option.map_some, Option.some.injEq] at e; subst e
      simp only [Rep] at a
      subst a
      rw [b.bools q]; rfl
theorem RepL.ofInts : ∀ l : List Int, RepL Ca F ρ H (l.map D.int) (l.map V.int)
  | [] => .nil
  | i :: l => .cons (by simp only [Rep]) (RepL.ofInts l)

/-! ### what stands at a handle -/
/-- the content of a value that may be changed, or a value that stands still -/
def Con (Ca : Cn) (F : Addr → Prop) (ρ : List Addr) (H : Hp) (d : D) (v : V) : Prop := Rep Ca F ρ H d v ∨ ∃ a, v = .ref a ∧ Cont Ca F ρ H d a
theorem Con.lst {xs : List D} (h : Con Ca F ρ H (.lst xs) v) : ∃ a vs, v = .ref a ∧ H a = some (.lst vs) ∧ RepL Ca F ρ H xs vs := by
  rcases h with h | ⟨a, rfl, h⟩
  · simp only [Rep] at h; obtain ⟨a, vs, e, _, q, l⟩ := h; exact ⟨a, vs, e, q, l⟩
  · obtain ⟨vs, q, l⟩ := h; exact ⟨a, vs, rfl, q, l⟩
theorem Con.tup {xs : List D} (h : Con Ca F ρ H (.tup xs) v) : ∃ a vs, v = .ref a ∧ H a = some (.tup vs) ∧ RepL Ca F ρ H xs vs := by
  rcases h with h | ⟨a, rfl, h⟩
  · simp only [Rep] at h; obtain ⟨a, vs, e, _, q, l⟩ := h; exact ⟨a, vs, e, q, l⟩
  · exact h.elim
theorem Con.dK {kvs : List (Key × D)} (h : Con Ca F ρ H (.dK kvs) v) : ∃ a ws, v = .ref a ∧ Rd H a (.dK ws) ∧ RepK Ca F ρ H kvs ws := by
  rcases h with h | ⟨a, rfl, h⟩
  · simp only [Rep] at h; obtain ⟨a, vs, e, _, q, l⟩ := h; exact ⟨a, vs, e, q, l⟩
  · obtain ⟨vs, q, l⟩ := h; exact ⟨a, vs, rfl, .inl q, l⟩
theorem Con.dT {kvs : List (List Key × D)} (h : Con Ca F ρ H (.dT kvs) v) : ∃ a ws, v = .ref a ∧ Rd H a (.dT ws) ∧ RepT Ca F ρ H kvs ws := by
  rcases h with h | ⟨a, rfl, h⟩
  · simp only [Rep] at h; obtain ⟨a, vs, e, _, q, l⟩ := h; exact ⟨a, vs, e, q, l⟩
  · obtain ⟨vs, q, l⟩ := h; exact ⟨a, vs, rfl, .inl q, l⟩
theorem HdR.mono {h : Hd} (g : Gr F ρ H F' ρ' H') (r : HdR Ca σ F ρ H h v) : HdR Ca σ F' ρ' H' h v := by
  cases h with
  | slot i => exact r
  | box n => obtain ⟨a, e, q⟩ := r; exact ⟨a, e, g.get q⟩
  | val d => exact Rep.mono g d v r
theorem HdR.con {h : Hd} (S : Sta Ca Pr F ρ s σ H) (r : HdR Ca σ F ρ H h v) (e : s.cont h = some d) : Con Ca F ρ H d v := by
  cases h with
  | slot i =>
    simp only [Iv.S.cont] at e
    split at e
    · rename_i o d' hx
      simp only [Option.some.injEq] at e; subst e
      obtain ⟨u, q, w⟩ := S.sl i _ hx
      have q' : σ[i]? = some (some v) := r.1
      rw [q'] at q
      obtain rfl : v = u := by simpa using q
      unfold Val at w
      split at w
      · obtain ⟨a, e, c, _⟩ := w; exact .inr ⟨a, e, c⟩
      · exact .inl w
    · cases e
  | box n =>
    simp only [Iv.S.cont] at e
    split at e
    · rename_i d' hx
      simp only [Option.some.injEq] at e; subst e
      obtain ⟨a, rfl, q⟩ := r
      exact .inr ⟨a, rfl, S.bx n _ a hx q⟩
    · cases e
  | val d' =>
    simp only [Iv.S.cont, Option.some.injEq] at e; subst e
    exact .inl r
/-- the object at a handle is changed -/
theorem HdR.put {h : Hd} {o : HO} {d' : D} (S : Sta Ca Pr F ρ s σ H) (r : HdR Ca σ F ρ H h (.ref a)) (e : s.put h d' = some s')
    (hc : Cont Ca F ρ (upd H a o) d' a) : Sta Ca Pr F ρ s' σ (upd H a o) ∧ Gr F ρ H F ρ (upd H a o) := by
  have keep : ∀ {b : Addr}, b ≠ a → ∀ u, H b = some u → upd H a o b = some u := fun nb u e => by rw [upd_ne nb]; exact e
  cases h with
  | val d => simp [Iv.S.put] at e
  | slot i =>
    simp only [Iv.S.put] at e
    split at e
    · rename_i d0 hx
      simp only [Option.some.injEq] at e; subst e
      obtain ⟨b, hb, c, nF, nρ, np⟩ := S.own hx
      have hb' : σ[i]? = some (some (.ref a)) := r.1
      rw [hb'] at hb
      obtain rfl : a = b := by simpa using hb
      have g : Gr F ρ H F ρ (upd H a o) := Gr.upd nF
      refine ⟨⟨S.len, S.nd, fun b f => ?_, fun n b c h1 h2 => ?_, S.bF, fun b m => ?_, fun j x hj => ?_, fun j k d1 e1 w h1 h2 h3 h4 => ?_, fun b u hb => ?_, S.pF, S.pρ, by simpa using S.ln, tabs_set S.tb (cont_soft c).choose_spec.1 (cont_soft c).choose_spec.2, nt_set S.nt (cont_nt hc), S.so⟩, g⟩
      · obtain ⟨u, e⟩ := S.fd b f
        exact ⟨u, keep (fun z => nF (z ▸ f)) u e⟩
      · refine (S.bx n b c h1 h2).mono g (keep fun z => nρ (z ▸ List.mem_of_getElem? h2))
      · obtain ⟨u, e⟩ := S.rd b m
        exact ⟨u, keep (fun z => nρ (z ▸ m)) u e⟩
      · by_cases hij : i = j
        · subst hij
          rw [List.getElem?_set_self (List.getElem?_eq_some_iff.mp hx).1] at hj
          obtain rfl : (true, d') = x := by simpa using hj
          exact ⟨_, hb', a, rfl, hc, nF, nρ, np⟩
        · rw [List.getElem?_set_ne hij] at hj
          obtain ⟨w, h1, q⟩ := S.sl j x hj
          refine ⟨w, h1, ?_⟩
          unfold Val at q ⊢
          split
          · rename_i hx1
            rw [if_pos hx1] at q
            obtain ⟨b, rfl, c', f', m', p'⟩ := q
            have nb : b ≠ a := fun z => by
              subst z
              obtain ⟨o1, d1⟩ := x
              cases hx1
              exact hij (S.ow i j _ _ _ hx hj hb' h1)
            exact ⟨b, rfl, c'.mono g (keep nb), f', m', p'⟩
          · rename_i hx1
            rw [if_neg hx1] at q
            exact Rep.mono g _ _ q
      · have rd : ∀ (m : Nat) (e2 : D), (s.σ.set i (some (true, d')))[m]? = some (some (true, e2)) → ∃ e3, s.σ[m]? = some (some (true, e3)) := fun m e2 hm => by
          by_cases him : i = m
          · subst him; exact ⟨_, hx⟩
          · rw [List.getElem?_set_ne him] at hm; exact ⟨_, hm⟩
        obtain ⟨x1, y1⟩ := rd j d1 h1
        obtain ⟨x2, y2⟩ := rd k e1 h2
        exact S.ow j k _ _ _ y1 y2 h3 h4
      · exact keep (fun z => by rw [z, np] at hb; cases hb) u (S.pr b u hb)
    · cases e
  | box n =>
    simp only [Iv.S.put] at e
    split at e
    · rename_i d0 hx
      simp only [Option.some.injEq] at e; subst e
      obtain ⟨b, eb, hρ⟩ := r
      obtain rfl : a = b := by simpa using eb
      have nF := S.bF n _ a hx hρ rfl
      have np := S.pρ a (List.mem_of_getElem? hρ)
      have cc : Cont Ca F ρ H d0 a := S.bx n _ a hx hρ
      have g : Gr F ρ H F ρ (upd H a o) := Gr.upd nF
      refine ⟨⟨by rw [List.length_set]; exact S.len, S.nd, fun b f => ?_, fun m b c h1 h2 => ?_, fun m b c h1 h2 h3 => ?_, fun b m => ?_, fun j x hj => ?_, S.ow, fun b u hb => ?_, S.pF, S.pρ, S.ln, tabs_set S.tb (cont_soft cc).choose_spec.1 (cont_soft cc).choose_spec.2, nt_set S.nt (cont_nt hc), S.so⟩, g⟩
      · obtain ⟨u, e⟩ := S.fd b f
        exact ⟨u, keep (fun z => nF (z ▸ f)) u e⟩
      · by_cases hnm : n = m
        · subst hnm
          rw [hρ] at h2; obtain rfl : a = c := by simpa using h2
          rw [List.getElem?_set_self (List.getElem?_eq_some_iff.mp hx).1] at h1
          obtain rfl : Bx.val d' = b := by simpa using h1
          exact hc
        · rw [List.getElem?_set_ne hnm] at h1
          refine (S.bx m b c h1 h2).mono g (keep fun z => hnm ?_)
          subst z
          exact nd_ix S.nd hρ h2
      · by_cases hnm : n = m
        · subst hnm
          rw [hρ] at h2; obtain rfl : a = c := by simpa using h2
          exact nF
        · rw [List.getElem?_set_ne hnm] at h1
          exact S.bF m b c h1 h2 h3
      · by_cases hb : b = a
        · subst hb; exact ⟨o, upd_same⟩
        · obtain ⟨u, e⟩ := S.rd b m
          exact ⟨u, keep hb u e⟩
      · obtain ⟨w, h1, q⟩ := S.sl j x hj
        refine ⟨w, h1, ?_⟩
        unfold Val at q ⊢
        split
        · rename_i hx1
          rw [if_pos hx1] at q
          obtain ⟨b, rfl, c', f', m', p'⟩ := q
          have nb : b ≠ a := fun z => m' (z ▸ List.mem_of_getElem? hρ)
          exact ⟨b, rfl, c'.mono g (keep nb), f', m', p'⟩
        · rename_i hx1
          rw [if_neg hx1] at q
          exact Rep.mono g _ _ q
      · exact keep (fun z => by rw [z, np] at hb; cases hb) u (S.pr b u hb)
    · cases e

/-! ### new objects -/
theorem Sta.born (S : Sta Ca Pr F ρ s σ H) {p : Addr} {o : HO} (h : H p = none) (hs : ∀ (i : Nat) (v : V), σ[i]? = some (some v) → ∀ (d : D), s.σ[i]? = some (some (true, d)) → v ≠ V.ref p) (hc : Cont Ca F ρ (upd H p o) d p) :
    Sta Ca Pr F ρ s σ (upd H p o) ∧ Gr F ρ H F ρ (upd H p o) ∧ Tmp Ca Pr F ρ s σ (upd H p o) (true, d) (.ref p) := by
  have nF := S.fresh_F h
  refine ⟨S.new h, Gr.upd nF, ?_, fun _ i e hi hv => ?_⟩
  · exact ⟨p, rfl, hc, nF, S.fresh_ρ h, S.fresh_Pr h⟩
  · exact hs i _ hv e hi rfl
/-- no slot that alone holds its object holds a new one -/
theorem Sta.noslot (S : Sta Ca Pr F ρ s σ H) {p : Addr} (h : H p = none) : ∀ (i : Nat) (v : V), σ[i]? = some (some v) → ∀ (d : D), s.σ[i]? = some (some (true, d)) → v ≠ V.ref p := fun i v hv d hd z => by
  subst z
  obtain ⟨a, h1, c, _⟩ := S.own hd
  rw [hv] at h1
  obtain rfl : p = a := by simpa using h1
  obtain ⟨o, e⟩ := c.some
  rw [h] at e; cases e
/-- a new list, tuple -/
theorem Sta.newL (S : Sta Ca Pr F ρ s σ H) {p : Addr} {xs : List D} {vs : List V} (h : H p = none) (l : RepL Ca F ρ H xs vs) :
    Sta Ca Pr F ρ s σ (upd H p (.lst vs)) ∧ Gr F ρ H F ρ (upd H p (.lst vs)) ∧ Tmp Ca Pr F ρ s σ (upd H p (.lst vs)) (true, .lst xs) (.ref p) :=
  S.born h (S.noslot h) ⟨vs, upd_same, RepL.mono (Gr.upd (S.fresh_F h)) _ _ l⟩
theorem Sta.newT (S : Sta Ca Pr F ρ s σ H) {p : Addr} {xs : List D} {vs : List V} (h : H p = none) (l : RepL Ca F ρ H xs vs) :
    ∃ F', Gr F ρ H F' ρ (upd H p (.tup vs)) ∧ Sta Ca Pr F' ρ s σ (upd H p (.tup vs)) ∧ Rep Ca F' ρ (upd H p (.tup vs)) (.tup xs) (.ref p) := by
  have g : Gr F ρ H F ρ (upd H p (.tup vs)) := Gr.upd (S.fresh_F h)
  have S1 := S.new (o := .tup vs) h
  have g2 : Gr F ρ (upd H p (.tup vs)) (fun a => F a ∨ a = p) ρ (upd H p (.tup vs)) := Gr.wid fun _ h => .inl h
  refine ⟨fun a => F a ∨ a = p, g.trans g2, S1.still ⟨_, upd_same⟩ (soft_nt upd_same rfl) (S.fresh_Pr h) (fun n b _ h2 => absurd (List.mem_of_getElem? h2) (S.fresh_ρ h)) (fun i e hi hv => S.noslot h i _ hv e hi rfl), ?_⟩
  simp only [Rep]
  exact ⟨p, vs, rfl, .inr rfl, upd_same, RepL.mono (g.trans g2) _ _ l⟩
theorem tmp_of (r : Rep Ca F ρ H d v) : Tmp Ca Pr F ρ s σ H (false, d) v := ⟨r, fun z => by cases z⟩
end
end Iv
end
section
set_option Elab.async false
set_option linter.all false
/-! Expressions, one rule a construct. My own work. -/
namespace Iv
open PySem L2
open PySem (Str)

theorem Res.assoc {α β γ : Type} (r : Res α) (f : α → S → Res β) (g : β → S → Res γ) : (r.bind f).bind g = r.bind fun x s => (f x s).bind g := by cases r <;> rfl
theorem PE.or {X : Cx} {e : Expr} {t u : TE} (h : PE X e t) (q : PE X e u) : PE X e (fun σ H Q => t σ H Q ∨ u σ H Q) := ⟨fun pins s σ H Q I z => z.elim (h.run pins s σ H Q I) (q.run pins s σ H Q I)⟩
theorem PT.or {X : Cx} {e : Expr} {t u : TT} (h : PT X e t) (q : PT X e u) : PT X e (fun σ H Q => t σ H Q ∨ u σ H Q) := ⟨fun pins s σ H Q I z => z.elim (h.run pins s σ H Q I) (q.run pins s σ H Q I)⟩

/-- what a place in a def's text may count on -/
structure Gd (X : Cx) (W : WX) : Prop where
  hc : X.calm = true
  tk : Takes X W
  nd : X.N.Nodup
  un : X.A.units + 64 < cLine
  gu : X.A.guards = some []

section
variable {α β : Type} {X : Cx} {W : WX} {Ca : Cn} {e a b c : Expr} {pos : Pos} {fe fa fb fc : S → Res (Bool × D)} {ft fu : S → Res Bool}

abbrev PEv (X : Cx) (Ca : Cn) (W : WX) (e : Expr) (f : S → Res (Bool × D)) : Prop := PE X e (Run Ca W (RV Ca) f)
abbrev PTv (X : Cx) (Ca : Cn) (W : WX) (e : Expr) (f : S → Res Bool) : Prop := PT X e (Run Ca W RB f)
abbrev PAv (X : Cx) (Ca : Cn) (W : WX) (e : List Expr) (f : S → Res (List D)) : Prop := PA X e (Run Ca W (RL Ca) f)
abbrev PHv (X : Cx) (Ca : Cn) (W : WX) (e : Expr) (f : S → Res Hd) : Prop := PE X e (Run Ca W (RH Ca) f)

/-! ### constants, names -/
theorem sd_con {v : V} {d : D} (h : PE X e (tC v)) (r : ∀ F ρ H, Rep Ca F ρ H d v) : PEv X Ca W e fun s => .ok (false, d) s :=
  PE.imp h fun σ H Q ⟨Pr, F, ρ, s, S, q⟩ => q.fin S (tmp_of (r _ _ _))
theorem Sta.unslot {Ca : Cn} {Pr : Hp} {F : Addr → Prop} {ρ : List Addr} {s : S} {σ : L2.St} {H : Hp} (S : Sta Ca Pr F ρ s σ H) (i : Nat) : Sta Ca Pr F ρ { s with σ := s.σ.set i none } σ H := by
  have rd : ∀ (j : Nat) (x : Bool × D), (s.σ.set i none)[j]? = some (some x) → s.σ[j]? = some (some x) := fun j x h => by
    by_cases e : i = j
    · subst e
      rw [List.getElem?_set] at h
      simp at h
    · rw [List.getElem?_set_ne e] at h; exact h
  exact ⟨S.len, S.nd, S.fd, S.bx, S.bF, S.rd, fun j x h => S.sl j x (rd j x h), fun j k d1 d2 v h1 h2 => S.ow j k d1 d2 v (rd _ _ h1) (rd _ _ h2), S.pr, S.pF, S.pρ, by simpa using S.ln, S.tb, S.nt, S.so⟩
theorem Sta.stillSlot {Ca : Cn} {Pr : Hp} {F : Addr → Prop} {ρ : List Addr} {s : S} {σ : L2.St} {H : Hp} {i : Nat} {d : D} (S : Sta Ca Pr F ρ s σ H) (h : s.σ[i]? = some (some (true, d))) :
    ∃ F' v, Gr F ρ H F' ρ H ∧ Sta Ca Pr F' ρ { s with σ := s.σ.set i (some (false, d)) } σ H ∧ σ[i]? = some (some v) ∧ Rep Ca F' ρ H d v := by
  obtain ⟨p, hv, c, nF, nρ, np⟩ := S.own h
  have S1 := S.unslot i
  have nos : ∀ (j : Nat) (e : D), (s.σ.set i none)[j]? = some (some (true, e)) → σ[j]? ≠ some (some (.ref p)) := fun j e hj hvj => by
    by_cases ej : i = j
    · subst ej; rw [List.getElem?_set] at hj; simp at hj
    · rw [List.getElem?_set_ne ej] at hj
      exact ej (S.ow i j d e _ h hj hv hvj)
  have S2 : Sta Ca Pr (fun b => F b ∨ b = p) ρ { s with σ := s.σ.set i none } σ H := S1.still c.some (cont_nt c) np (fun n b _ h2 => absurd (List.mem_of_getElem? h2) nρ) nos
  have r : Rep Ca (fun b => F b ∨ b = p) ρ H d (.ref p) := c.rep (fun _ h => .inl h) (.inr rfl)
  refine ⟨fun b => F b ∨ b = p, .ref p, Gr.wid fun _ h => .inl h, ⟨S2.len, S2.nd, S2.fd, S2.bx, S2.bF, S2.rd, fun j x hj => ?_, fun j k d1 d2 v h1 h2 => ?_, S2.pr, S2.pF, S2.pρ, by simpa using S.ln, S2.tb, S2.nt, S2.so⟩, hv, r⟩
  · by_cases ej : i = j
    · subst ej
      rw [List.getElem?_set_self (List.getElem?_eq_some_iff.mp h).1] at hj
      obtain rfl : (false, d) = x := by simpa using hj
      exact ⟨_, hv, r⟩
    · rw [List.getElem?_set_ne ej] at hj
      refine S2.sl j x ?_
      show (s.σ.set i none)[j]? = _
      rw [List.getElem?_set_ne ej]; exact hj
  · have back : ∀ (m : Nat) (e : D), (s.σ.set i (some (false, d)))[m]? = some (some (true, e)) → (s.σ.set i none)[m]? = some (some (true, e)) := fun m e hm => by
      by_cases em : i = m
      · subst em
        rw [List.getElem?_set_self (List.getElem?_eq_some_iff.mp h).1] at hm; cases hm
      · rw [List.getElem?_set_ne em] at hm ⊢; exact hm
    exact S2.ow j k d1 d2 v (back _ _ h1) (back _ _ h2)
theorem sd_var {i : Nat} {x : Str} {mv : Bool} (h : PE X (.Name x pos) (tVar i)) : PEv X Ca W (.Name x pos) (rVar mv i) := PE.imp h fun σ H Q ⟨Pr, F, ρ, s, S, q⟩ => by
  unfold rVar at q
  split at q
  · rename_i d hx
    obtain ⟨v, hv, r⟩ := S.std hx
    exact ⟨v, hv, q.fin S (tmp_of r)⟩
  · rename_i d hx
    cases mv with
    | true =>
      rw [if_pos rfl] at q
      obtain ⟨p, hv, c, nF, nρ, np⟩ := S.own hx
      refine ⟨_, hv, q.fin (S.unslot i) ⟨⟨p, rfl, c, nF, nρ, np⟩, fun _ j e hj hvj => ?_⟩⟩
      by_cases ej : i = j
      · subst ej
        have hj' : (s.σ.set i none)[i]? = some (some (true, e)) := hj
        rw [List.getElem?_set] at hj'; simp at hj'
      · have hj' : (s.σ.set i none)[j]? = some (some (true, e)) := hj
        rw [List.getElem?_set_ne ej] at hj'
        exact ej (S.ow i j d e _ hx hj' hv hvj)
    | false =>
      rw [if_neg (by decide)] at q
      obtain ⟨F', v, g, S', hv, r⟩ := S.stillSlot hx
      exact ⟨v, hv, q F' ρ H v g S' (tmp_of r)⟩
  · exact q.elim
theorem sd_hvar {i : Nat} {x : Str} (h : PE X (.Name x pos) (tVar i)) : PHv X Ca W (.Name x pos) (hVar i) := PE.imp h fun σ H Q ⟨Pr, F, ρ, s, S, q⟩ => by
  unfold hVar at q
  split at q
  · rename_i d hx
    obtain ⟨p, hv, c, nF, nρ, np⟩ := S.own hx
    exact ⟨_, hv, q.fin S (show HdR Ca σ F ρ H (.slot i) _ from ⟨hv, _, rfl⟩)⟩
  · rename_i n hx
    obtain ⟨v, hv, r⟩ := S.std hx
    simp only [Rep] at r
    exact ⟨v, hv, q.fin S (show HdR Ca σ F ρ H (.box n) v from r)⟩
  · rename_i d _ hx
    obtain ⟨v, hv, r⟩ := S.std hx
    exact ⟨v, hv, q.fin S (show HdR Ca σ F ρ H (.val d) v from r)⟩
  · exact q.elim
/-- a handle of an expression that is no name -/
theorem sd_hof (h : PEv X Ca W e fe) : PHv X Ca W e fun s => (fe s).bind fun x s => .ok (hOf x) s := PE.imp h fun σ H Q ⟨Pr, F, ρ, s, S, q⟩ => by
  refine ⟨Pr, F, ρ, s, S, (Ans.bind (Rl := RV Ca Pr σ) q).mono ?_⟩
  rintro v H1 ⟨x, s1, F1, ρ1, g, S1, t, q1⟩
  obtain ⟨F2, g2, S2, r⟩ := S1.freeze t
  refine q1 F2 ρ1 H1 v g2 S2 ?_
  show HdR Ca σ F2 ρ1 H1 (hOf x) v
  obtain ⟨o, d⟩ := x
  unfold hOf HdR
  cases d <;> first | exact r | (simp only [Rep] at r; exact r)
/-- the handle that the evaluator takes -/
def hEv (c : Ex) (f : S → Res (Bool × D)) (s : S) : Res Hd := match asVar c with
  | some i => hVar i s
  | none => (f s).bind fun x s => .ok (hOf x) s
theorem sd_hev {k : Ex} (h : PEv X Ca W e fe) (hv : ∀ i, asVar k = some i → ∃ x p, e = .Name x p ∧ PE X e (tVar i)) : PHv X Ca W e (hEv k fe) := by
  cases q : asVar k with
  | some i =>
    obtain ⟨x, p, rfl, t⟩ := hv i q
    have z := sd_hvar (Ca := Ca) (W := W) t
    exact PE.imp z fun σ H Q ⟨Pr, F, ρ, s, S, w⟩ => ⟨Pr, F, ρ, s, S, by unfold hEv at w; rw [q] at w; exact w⟩
  | none =>
    exact PE.imp (sd_hof h) fun σ H Q ⟨Pr, F, ρ, s, S, w⟩ => ⟨Pr, F, ρ, s, S, by unfold hEv at w; rw [q] at w; exact w⟩

/-! ### operators -/
/-- how a rule for two values is met -/
def Meets2 (Ca : Cn) (W : WX) (k : D → D → Option (Bool × D)) (r : R2) : Prop :=
  ∀ (Pr : Hp) (F : Addr → Prop) (ρ : List Addr) (s : S) (σ : L2.St) (H : Hp) (x y : D) (v u : V) (z : Bool × D) (Q : VK), Sta Ca Pr F ρ s σ H → Con Ca F ρ H x v → Con Ca F ρ H y u → k x y = some z → Ans Ca W Pr σ (RV Ca Pr σ) F ρ H (.ok z s) Q → r v u H Q
theorem Meets2.or {k : D → D → Option (Bool × D)} {r r' : R2} (hc : ∀ x y, k x y ≠ none → (∀ (Pr : Hp) (F : Addr → Prop) (ρ : List Addr) (s : S) (σ : L2.St) (H : Hp) (v u : V) (z : Bool × D) (Q : VK), Sta Ca Pr F ρ s σ H → Con Ca F ρ H x v → Con Ca F ρ H y u → k x y = some z → Ans Ca W Pr σ (RV Ca Pr σ) F ρ H (.ok z s) Q → r v u H Q) ∨
    (∀ (Pr : Hp) (F : Addr → Prop) (ρ : List Addr) (s : S) (σ : L2.St) (H : Hp) (v u : V) (z : Bool × D) (Q : VK), Sta Ca Pr F ρ s σ H → Con Ca F ρ H x v → Con Ca F ρ H y u → k x y = some z → Ans Ca W Pr σ (RV Ca Pr σ) F ρ H (.ok z s) Q → r' v u H Q)) :
    Meets2 Ca W k (fun x y H Q => r x y H Q ∨ r' x y H Q) := fun Pr F ρ s σ H x y v u z Q S rx ry e q => by
  rcases hc x y (by rw [e]; simp) with h | h
  · exact .inl (h Pr F ρ s σ H v u z Q S rx ry e q)
  · exact .inr (h Pr F ρ s σ H v u z Q S rx ry e q)
theorem sd_bin {op : Operator} {r : R2} {k : D → D → Option (Bool × D)} (ho : OpR X (binaryOp op) r) (hr : Meets2 Ca W k r) (ha : PEv X Ca W a fa) (hb : PEv X Ca W b fb) :
    PEv X Ca W (.BinOp a op b pos) fun s => (fa s).bind fun x s => (fb s).bind fun y s => Res.of (k x.2 y.2) s := PE.imp (pe_op ho ha hb) fun σ H Q ⟨Pr, F, ρ, s, S, q⟩ => by
  refine ⟨Pr, F, ρ, s, S, (Ans.bind (Rl := RV Ca Pr σ) q).mono ?_⟩
  rintro v H1 ⟨x, s1, F1, ρ1, g, S1, t, q1⟩
  obtain ⟨F2, g2, S2, rx⟩ := S1.freeze t
  refine ⟨Pr, F2, ρ1, s1, S2, (Ans.bind (Rl := RV Ca Pr σ) (q1.start g2)).mono ?_⟩
  rintro u H2 ⟨y, s2, F3, ρ2, g3, S3, t2, q2⟩
  obtain ⟨F4, g4, S4, ry⟩ := S3.freeze t2
  obtain ⟨z, e, q3⟩ := Ans.of (q2.start g4)
  exact hr Pr F4 ρ2 s2 σ H2 x.2 y.2 v u z Q S4 (.inl (Rep.mono (g3.trans g4) _ _ rx)) (.inl ry) e q3
/-- comparisons: the operands at handles -/
def cmpF (op : Cp) (x y : Hd) (s : S) : Option Bool := (match op with
  | .is | .isNot => some x.self
  | _ => s.cont x).bind fun u => (s.cont y).bind fun v => opC op u v
def MeetsC (Ca : Cn) (op : Cp) (r : R2) : Prop :=
  ∀ (Pr : Hp) (F : Addr → Prop) (ρ : List Addr) (s : S) (σ : L2.St) (H : Hp) (x y : Hd) (v u : V) (k : Bool) (Q : VK), Sta Ca Pr F ρ s σ H → HdR Ca σ F ρ H x v → HdR Ca σ F ρ H y u → cmpF op x y s = some k → Q (.bl k) H → r v u H Q
theorem cmp_core {op : Cp} {r : R2} {ha' hb' : S → Res Hd} {fin : Bool → S → Res α} (hr : MeetsC Ca op r) {σ : L2.St} {H : Hp} {R : VK} {Pr : Hp} {F : Addr → Prop} {ρ : List Addr} {s : S} {Rl : (Addr → Prop) → List Addr → Iv.S → Hp → α → β → Prop} {Q' : β → Hp → Prop} (hS : Sta Ca Pr F ρ s σ H)
    (q : Ans Ca W Pr σ Rl F ρ H ((ha' s).bind fun x s => (hb' s).bind fun y s => (Res.of (cmpF op x y s) s).bind fin) Q')
    (hQ : ∀ (k : Bool) (s1 : Iv.S) (F1 : Addr → Prop) (ρ1 : List Addr) (H1 : Hp), Sta Ca Pr F1 ρ1 s1 σ H1 → Ans Ca W Pr σ Rl F1 ρ1 H1 (fin k s1) Q' → R (.bl k) H1) :
    tOp r (Run Ca W (RH Ca) ha') (Run Ca W (RH Ca) hb') σ H R := by
  refine ⟨Pr, F, ρ, s, hS, (Ans.bind (Rl := RH Ca Pr σ) q).mono ?_⟩
  rintro v H1 ⟨x, s1, F1, ρ1, g, S1, rx, q1⟩
  refine ⟨Pr, F1, ρ1, s1, S1, (Ans.bind (Rl := RH Ca Pr σ) q1).mono ?_⟩
  rintro u H2 ⟨y, s2, F2, ρ2, g2, S2, ry, q2⟩
  cases e : cmpF op x y s2 with
  | none => rw [e] at q2; exact q2.elim
  | some k =>
    rw [e] at q2
    exact hr Pr F2 ρ2 s2 σ H2 x y v u k _ S2 (HdR.mono g2 rx) ry e (hQ k s2 F2 ρ2 H2 S2 q2)
theorem sd_cmp {op : CmpOp} {o : Cp} {r : R2} {ha' hb' : S → Res Hd} (ho : OpR X (compareOp op) r) (hr : MeetsC Ca o r) (ha : PHv X Ca W a ha') (hb : PHv X Ca W b hb') (hm : behindInMarks op b = false) :
    PEv X Ca W (.Compare a [op] [b] pos) fun s => (ha' s).bind fun x s => (hb' s).bind fun y s => (Res.of (cmpF o x y s) s).bind fun k s => .ok (false, .bl k) s :=
  PE.imp (pe_cmpR ho ha hb hm) fun σ H Q ⟨Pr, F, ρ, s, S, q⟩ => cmp_core hr S q fun k s1 F1 ρ1 H1 S1 q1 => q1.fin S1 (tmp_of (by simp only [Rep]))
theorem sd_cmpT {op : CmpOp} {o : Cp} {r : R2} {ha' hb' : S → Res Hd} (ho : OpR X (compareOp op) r) (hr : MeetsC Ca o r) (ha : PHv X Ca W a ha') (hb : PHv X Ca W b hb') (hm : behindInMarks op b = false) :
    PTv X Ca W (.Compare a [op] [b] pos) fun s => (ha' s).bind fun x s => (hb' s).bind fun y s => (Res.of (cmpF o x y s) s).bind fun k s => .ok k s :=
  PT.imp (pt_cmpR ho ha hb hm) fun σ H Q ⟨Pr, F, ρ, s, S, q⟩ => cmp_core hr S q fun k s1 F1 ρ1 H1 S1 q1 => ⟨k, rfl, q1.fin S1 rfl⟩

/-! ### truth -/
theorem con_truth {F : Addr → Prop} {ρ : List Addr} {H : Hp} {d : D} {v : V} {k : Bool} (h : Con Ca F ρ H d v) (e : truth d = some k) : TruV X.K v H k := by
  cases d <;> simp only [truth] at e <;> try (cases e)
  · rcases h with h | ⟨a, _, h⟩ <;> first | exact h.elim | skip
    simp only [Rep] at h; subst h; rfl
  · rcases h with h | ⟨a, _, h⟩ <;> first | exact h.elim | skip
    simp only [Rep] at h; subst h; rfl
  · rcases h with h | ⟨a, _, h⟩ <;> first | exact h.elim | skip
    simp only [Rep] at h; subst h; rfl
  · obtain ⟨a, vs, rfl, q, l⟩ := h.tup
    refine .inr (.inl ⟨vs, SqT.of q, ?_⟩)
    have := l.len
    rename_i xs
    cases xs <;> cases vs <;> simp_all
  · obtain ⟨a, vs, rfl, q, l⟩ := h.lst
    refine .inl ⟨vs, SqL.of q, ?_⟩
    have := l.len
    rename_i xs
    cases xs <;> cases vs <;> simp_all
/-- a value's truth -/
theorem sd_tru {hf : S → Res Hd} (h : PHv X Ca W e hf) (he : ∀ whole, isTrue e X.env whole = (do let v ← whole; standAt e.pos; holding [v] (truthy v))) :
    PTv X Ca W e fun s => (hf s).bind fun h s => Res.of ((s.cont h).bind truth) s := PT.imp (pt_truth h he) fun σ H Q ⟨Pr, F, ρ, s, S, q⟩ => by
  refine ⟨Pr, F, ρ, s, S, (Ans.bind (Rl := RH Ca Pr σ) q).mono ?_⟩
  rintro v H1 ⟨x, s1, F1, ρ1, g, S1, rx, q1⟩
  obtain ⟨k, ek, q2⟩ := Ans.of q1
  cases ec : s1.cont x with
  | none => rw [ec] at ek; cases ek
  | some d =>
    rw [ec] at ek
    exact ⟨k, con_truth (rx.con S1 ec) ek, q2.fin S1 rfl⟩
/-! ### and, or, not, if -/
theorem sd_not (ht : PTv X Ca W a ft) : PTv X Ca W (.UnaryOp .Not a pos) fun s => (ft s).bind fun b s => .ok (!b) s := PT.imp (pt_not ht) fun σ H Q ⟨Pr, F, ρ, s, S, q⟩ => by
  refine ⟨Pr, F, ρ, s, S, (Ans.bind (Rl := RB Pr σ) q).mono ?_⟩
  rintro v H1 ⟨x, s1, F1, ρ1, g, S1, rfl, q1⟩
  exact q1.fin S1 rfl
theorem sd_notV {hf : S → Res Hd} (h : PHv X Ca W a hf) : PEv X Ca W (.UnaryOp .Not a pos) fun s => ((hf s).bind fun h s => Res.of ((s.cont h).bind truth) s).bind fun b s => .ok (false, .bl (!b)) s := PE.imp (pe_notT h) fun σ H Q ⟨Pr, F, ρ, s, S, q⟩ => by
  dsimp only at q
  rw [Res.assoc] at q
  refine ⟨Pr, F, ρ, s, S, (Ans.bind (Rl := RH Ca Pr σ) q).mono ?_⟩
  rintro v H1 ⟨x, s1, F1, ρ1, g, S1, rx, q1⟩
  cases ec : s1.cont x with
  | none => rw [ec] at q1; exact q1.elim
  | some d =>
    rw [ec] at q1
    cases ek : truth d with
    | none => rw [Option.bind_some, ek] at q1; exact q1.elim
    | some k =>
      rw [Option.bind_some, ek] at q1
      exact ⟨k, con_truth (rx.con S1 ec) ek, q1.fin S1 (tmp_of (by simp only [Rep]))⟩
theorem sd_andV {rest : List Expr} {p2 : Pos} (ha : PEv X Ca W a fa) (hb : PEv X Ca W (.BoolOp .And (b :: rest) pos) fb) : PEv X Ca W (.BoolOp .And (a :: b :: rest) pos) fun s => (fa s).bind fun x s => match x.2 with
    | .bl true => fb s
    | .bl false => .ok (false, .bl false) s
    | _ => .no := PE.imp (pe_and ha hb) fun σ H Q ⟨Pr, F, ρ, s, S, q⟩ => by
  refine ⟨Pr, F, ρ, s, S, (Ans.bind (Rl := RV Ca Pr σ) q).mono ?_⟩
  rintro v H1 ⟨⟨o, d⟩, s1, F1, ρ1, g, S1, t, q1⟩
  obtain ⟨F2, g2, S2, r⟩ := S1.freeze t
  have q2 := q1.start g2
  cases d <;> try exact q2.elim
  rename_i k
  simp only [Rep] at r
  refine ⟨k, r, ?_⟩
  cases k with
  | true => exact ⟨Pr, F2, ρ1, s1, S2, q2⟩
  | false => exact q2.fin S2 (tmp_of (by simp only [Rep]))
theorem sd_orV {rest : List Expr} {p2 : Pos} (ha : PEv X Ca W a fa) (hb : PEv X Ca W (.BoolOp .Or (b :: rest) pos) fb) : PEv X Ca W (.BoolOp .Or (a :: b :: rest) pos) fun s => (fa s).bind fun x s => match x.2 with
    | .bl true => .ok (false, .bl true) s
    | .bl false => fb s
    | _ => .no := PE.imp (pe_or ha hb) fun σ H Q ⟨Pr, F, ρ, s, S, q⟩ => by
  refine ⟨Pr, F, ρ, s, S, (Ans.bind (Rl := RV Ca Pr σ) q).mono ?_⟩
  rintro v H1 ⟨⟨o, d⟩, s1, F1, ρ1, g, S1, t, q1⟩
  obtain ⟨F2, g2, S2, r⟩ := S1.freeze t
  have q2 := q1.start g2
  cases d <;> try exact q2.elim
  rename_i k
  simp only [Rep] at r
  refine ⟨k, r, ?_⟩
  cases k with
  | true => exact q2.fin S2 (tmp_of (by simp only [Rep]))
  | false => exact ⟨Pr, F2, ρ1, s1, S2, q2⟩
theorem sd_andT {rest : List Expr} (ha : PTv X Ca W a ft) (hb : PW X (.BoolOp .And (b :: rest) pos) (Run Ca W RB fu)) : PW X (.BoolOp .And (a :: b :: rest) pos) (Run Ca W RB fun s => (ft s).bind fun t s => if t then fu s else .ok false s) := by
  refine ⟨fun whole pins s σ H Q I q => (pw_and ha hb).run whole pins s σ H Q I ?_⟩
  obtain ⟨Pr, F, ρ, s, S, q⟩ := q
  refine ⟨Pr, F, ρ, s, S, (Ans.bind (Rl := RB Pr σ) q).mono ?_⟩
  rintro v H1 ⟨x, s1, F1, ρ1, g, S1, rfl, q1⟩
  cases v with
  | true => exact ⟨Pr, F1, ρ1, s1, S1, q1⟩
  | false => exact q1.fin S1 rfl
theorem sd_orT {rest : List Expr} (ha : PTv X Ca W a ft) (hb : PW X (.BoolOp .Or (b :: rest) pos) (Run Ca W RB fu)) : PW X (.BoolOp .Or (a :: b :: rest) pos) (Run Ca W RB fun s => (ft s).bind fun t s => if t then .ok true s else fu s) := by
  refine ⟨fun whole pins s σ H Q I q => (pw_or ha hb).run whole pins s σ H Q I ?_⟩
  obtain ⟨Pr, F, ρ, s, S, q⟩ := q
  refine ⟨Pr, F, ρ, s, S, (Ans.bind (Rl := RB Pr σ) q).mono ?_⟩
  rintro v H1 ⟨x, s1, F1, ρ1, g, S1, rfl, q1⟩
  cases v with
  | true => exact q1.fin S1 rfl
  | false => exact ⟨Pr, F1, ρ1, s1, S1, q1⟩
theorem sd_ife (hc : PTv X Ca W c ft) (ha : PEv X Ca W a fa) (hb : PEv X Ca W b fb) : PEv X Ca W (.IfExp c a b pos) fun s => (ft s).bind fun t s => if t then fa s else fb s := PE.imp (pe_ifExp hc ha hb) fun σ H Q ⟨Pr, F, ρ, s, S, q⟩ => by
  refine ⟨Pr, F, ρ, s, S, (Ans.bind (Rl := RB Pr σ) q).mono ?_⟩
  rintro v H1 ⟨x, s1, F1, ρ1, g, S1, rfl, q1⟩
  cases v with
  | true => exact ⟨Pr, F1, ρ1, s1, S1, q1⟩
  | false => exact ⟨Pr, F1, ρ1, s1, S1, q1⟩
end
end Iv
end
section
set_option Elab.async false
set_option linter.all false
/-! Arguments, displays, places, fields. My own work. -/
namespace Iv
open PySem L2
open PySem (Str)

/-- no star, no slice: what may stand as an argument or an index -/
def plainX : Expr → Bool
  | .Starred _ _ => false
  | .Slice _ _ _ _ => false
  | _ => true
def plainXs (es : List Expr) : Bool := es.all plainX
theorem star_cons {e : Expr} {es : List Expr} {env : Env} (h : plainX e = true) : starEach (e :: es) env = (false, eval e env) :: starEach es env := by
  cases e <;> first | rfl | simp [plainX] at h
theorem star_all : ∀ {es : List Expr} {env : Env}, plainXs es = true → starEach es env = es.map fun e => (false, eval e env)
  | [], _, _ => rfl
  | e :: es, env, h => by
    unfold plainXs at h
    rw [List.all_cons, Bool.and_eq_true] at h
    rw [star_cons h.1, star_all (es := es) h.2]
    rfl
theorem star_any {es : List Expr} {env : Env} {pos : Pos} (h : plainXs es = true) : (backTo pos (starEach es env)).any (·.1) = false := by
  rw [star_all h]
  unfold backTo
  induction es with
  | nil => rfl
  | cons e es ih =>
    unfold plainXs at h
    rw [List.all_cons, Bool.and_eq_true] at h
    simpa using fun x hx => rfl
theorem star_few {es : List Expr} {env : Env} {pos : Pos} (h : plainXs es = true) (hl : es.length < 20) : ((backTo pos (starEach es env)).all (fun x => !x.1) && (backToKw pos (keywordEach [] env)).all (fun x => x.1.isSome)
      && decide (es.length + ([] : List Keyword).length + (if ([] : List Keyword).isEmpty then 0 else 1) < 30)) = true := by
  rw [star_all h]
  unfold backTo backToKw
  simp [keywordEach, List.all_map]
  omega
theorem plainIx_of {b : Expr} (h : plainX b = true) : PlainIx b := fun o i => by
  cases b <;> first | rfl | simp [plainX] at h

section
variable {α β : Type} {X : Cx} {W : WX} {Ca : Cn} {e a b c : Expr} {es : List Expr} {pos : Pos} {fe fa fb fc : S → Res (Bool × D)} {fs : S → Res (List D)}

theorem sd_nil : PAv X Ca W [] fun s => .ok [] s := PA.imp pa_nil fun σ H Q ⟨Pr, F, ρ, s, S, q⟩ => q.fin S RepL.nil
theorem sd_cons (hp : plainX e = true) (h : PEv X Ca W e fe) (hr : PAv X Ca W es fs) : PAv X Ca W (e :: es) fun s => (fe s).bind fun x s => (fs s).bind fun xs s => .ok (x.2 :: xs) s :=
  PA.imp (pa_cons h hr (star_cons hp)) fun σ H Q ⟨Pr, F, ρ, s, S, q⟩ => by
    refine ⟨Pr, F, ρ, s, S, (Ans.bind (Rl := RV Ca Pr σ) q).mono ?_⟩
    rintro v H1 ⟨x, s1, F1, ρ1, g, S1, t, q1⟩
    obtain ⟨F2, g2, S2, r⟩ := S1.freeze t
    refine ⟨Pr, F2, ρ1, s1, S2, (Ans.bind (Rl := RL Ca Pr σ) (q1.start g2)).mono ?_⟩
    rintro vs H2 ⟨xs, s2, F3, ρ2, g3, S3, l, q2⟩
    exact q2.fin S3 (RepL.cons (Rep.mono g3 _ _ r) l)
/-- arguments at handles -/
def RHs (Ca : Cn) : Rel' (List Hd) (List V) := fun _ σ F ρ _ H hs vs => Paired (HdR Ca σ F ρ H) hs vs
abbrev PHs (X : Cx) (Ca : Cn) (W : WX) (e : List Expr) (f : S → Res (List Hd)) : Prop := PA X e (Run Ca W (RHs Ca) f)
theorem sd_hnil : PHs X Ca W [] fun s => .ok [] s := PA.imp pa_nil fun σ H Q ⟨Pr, F, ρ, s, S, q⟩ => q.fin S .nil
theorem sd_hcons {hf : S → Res Hd} {hfs : S → Res (List Hd)} (hp : plainX e = true) (h : PHv X Ca W e hf) (hr : PHs X Ca W es hfs) : PHs X Ca W (e :: es) fun s => (hf s).bind fun x s => (hfs s).bind fun xs s => .ok (x :: xs) s :=
  PA.imp (pa_cons h hr (star_cons hp)) fun σ H Q ⟨Pr, F, ρ, s, S, q⟩ => by
    refine ⟨Pr, F, ρ, s, S, (Ans.bind (Rl := RH Ca Pr σ) q).mono ?_⟩
    rintro v H1 ⟨x, s1, F1, ρ1, g, S1, r, q1⟩
    refine ⟨Pr, F1, ρ1, s1, S1, (Ans.bind (Rl := RHs Ca Pr σ) q1).mono ?_⟩
    rintro vs H2 ⟨xs, s2, F3, ρ2, g3, S3, l, q2⟩
    exact q2.fin S3 (.cons (HdR.mono g3 r) l)

/-! ### displays -/
theorem RepL.small {F : Addr → Prop} {ρ : List Addr} {H : Hp} {xs : List D} {vs : List V} (l : RepL Ca F ρ H xs vs) {n : Nat} (h : xs.length ≤ n) : vs.length ≤ n := by rw [← l.len]; exact h
theorem sd_lst (h : PAv X Ca W es fs) : PEv X Ca W (.List es pos) fun s => (fs s).bind fun xs s => if xs.length ≤ sizeL then .ok (true, .lst xs) s else .no := PE.imp (pe_lst h) fun σ H Q ⟨Pr, F, ρ, s, S, q⟩ => by
  refine ⟨Pr, F, ρ, s, S, (Ans.bind (Rl := RL Ca Pr σ) q).mono ?_⟩
  rintro vs H1 ⟨xs, s1, F1, ρ1, g, S1, l, q1⟩
  split at q1
  · rename_i hz
    refine ⟨l.small hz, fun p hp => ?_⟩
    obtain ⟨S2, g2, t⟩ := S1.newL hp l
    exact q1 _ _ _ _ g2 S2 t
  · exact q1.elim
theorem sd_tup {k : Nat} (h : PAv X Ca W es fs) : PEv X Ca W (.Tuple es k pos) fun s => (fs s).bind fun xs s => if xs.length ≤ sizeL then .ok (false, .tup xs) s else .no := PE.imp (pe_tup h) fun σ H Q ⟨Pr, F, ρ, s, S, q⟩ => by
  refine ⟨Pr, F, ρ, s, S, (Ans.bind (Rl := RL Ca Pr σ) q).mono ?_⟩
  rintro vs H1 ⟨xs, s1, F1, ρ1, g, S1, l, q1⟩
  split at q1
  · rename_i hz
    refine ⟨l.small hz, fun p hp => ?_⟩
    obtain ⟨F2, g2, S2, t⟩ := S1.newT hp l
    exact q1 _ _ _ _ g2 S2 (tmp_of t)
  · exact q1.elim
theorem sd_dn {t : Bool} : PEv X Ca W (.Dict [] [] pos) fun s => .ok (true, if t then .dT [] else .dK []) s := by
  cases t with
  | true =>
    refine PE.imp pe_dnewT fun σ H Q ⟨Pr, F, ρ, s, S, q⟩ p hp => ?_
    obtain ⟨S2, g2, t⟩ := S.born (d := .dT []) hp (S.noslot hp) (o := .dT []) ⟨[], upd_same, by simp only [RepT]⟩
    exact q _ _ _ _ g2 S2 t
  | false =>
    refine PE.imp pe_dnewK fun σ H Q ⟨Pr, F, ρ, s, S, q⟩ p hp => ?_
    obtain ⟨S2, g2, t⟩ := S.born (d := .dK []) hp (S.noslot hp) (o := .dK []) ⟨[], upd_same, by simp only [RepK]⟩
    exact q _ _ _ _ g2 S2 t

/-! ### keys -/
theorem keyOf_rep {F : Addr → Prop} {ρ : List Addr} {H : Hp} {d : D} {v : V} {k : Key} (e : keyOf d = some k) (r : Rep Ca F ρ H d v) : v = kV k := by
  cases d <;> simp only [keyOf] at e <;> try (cases e)
  all_goals (simp only [Rep] at r; exact r)
theorem keysOf_rep {F : Addr → Prop} {ρ : List Addr} {H : Hp} : ∀ {ds : List D} {vs : List V} {ks : List Key}, keysOf ds = some ks → RepL Ca F ρ H ds vs → vs = ks.map kV
  | [], vs, ks, e, l => by
    simp only [keysOf, Option.some.injEq] at e; subst e
    simp only [RepL] at l; exact l
  | d :: ds, vs, ks, e, l => by
    simp only [RepL] at l
    obtain ⟨v, r, rfl, rd, rl⟩ := l
    simp only [keysOf] at e
    split at e
    · rename_i k ks' e1 e2
      simp only [Option.some.injEq] at e; subst e
      rw [keyOf_rep e1 rd, keysOf_rep e2 rl]
      rfl
    · cases e
theorem RepK.val {F : Addr → Prop} {ρ : List Addr} {H : Hp} {k : Key} : ∀ {kvs : List (Key × D)} {ws : List (Key × V)}, RepK Ca F ρ H kvs ws → (valK kvs k = none ∧ valV ws k = none) ∨ ∃ d v, valK kvs k = some d ∧ valV ws k = some v ∧ Rep Ca F ρ H d v
  | [], ws, h => by simp only [RepK] at h; subst h; exact .inl ⟨rfl, rfl⟩
  | (j, d) :: r, ws, h => by
    simp only [RepK] at h
    obtain ⟨v, t, rfl, rd, rl⟩ := h
    by_cases e : j = k
    · refine .inr ⟨d, v, ?_, valV_pos e, rd⟩
      unfold valK
      rw [List.find?_cons_of_pos (by simpa using e)]; rfl
    · rw [valV_neg (by exact e)]
      have : valK ((j, d) :: r) k = valK r k := by
        unfold valK
        rw [List.find?_cons_of_neg (by simpa using e)]
      rw [this]
      exact rl.val
theorem RepT.val {F : Addr → Prop} {ρ : List Addr} {H : Hp} {k : List Key} : ∀ {kvs : List (List Key × D)} {ws : List (List Key × V)}, RepT Ca F ρ H kvs ws → (valK kvs k = none ∧ valV ws k = none) ∨ ∃ d v, valK kvs k = some d ∧ valV ws k = some v ∧ Rep Ca F ρ H d v
  | [], ws, h => by simp only [RepT] at h; subst h; exact .inl ⟨rfl, rfl⟩
  | (j, d) :: r, ws, h => by
    simp only [RepT] at h
    obtain ⟨v, t, rfl, rd, rl⟩ := h
    by_cases e : j = k
    · refine .inr ⟨d, v, ?_, valV_pos e, rd⟩
      unfold valK
      rw [List.find?_cons_of_pos (by simpa using e)]; rfl
    · rw [valV_neg (by exact e)]
      have : valK ((j, d) :: r) k = valK r k := by
        unfold valK
        rw [List.find?_cons_of_neg (by simpa using e)]
      rw [this]
      exact rl.val
theorem ixN_at {α : Type} {xs : List α} {i : Int} {j : Nat} {v : α} (e : Iv.ixN xs.length i = some j) (h : xs[j]? = some v) : atI xs i = some v := by
  unfold atI
  have : L2.ixN xs.length i = Iv.ixN xs.length i := rfl
  rw [this, e]; exact h

/-! ### a[b] -/
def rIxD : R2 := fun x y H Q => ∃ a v, x = .ref a ∧ DGet H a y (some v) ∧ Q v H
theorem ix_dict (hu : X.A.units + 1 < cLine) : IxR X rIxD := by
  intro value slice pins s σ H x y v u Q I rx ry h hs
  obtain ⟨a, w, rfl, g, q⟩ := h
  cases rx
  exact PyProof.Rows.tail_any (dict_typeIs I g) PySem.F.slot_dict_getitem.lookup (d_getItem hu I g ry fun w' s3 I3 rw' => ⟨w, H, I3, rw', q⟩) hs
theorem sd_sub {hf : S → Res Hd} (gd : Gd X W) (hp : plainX b = true) (h : PHv X Ca W a hf) (hb : PEv X Ca W b fb) : PEv X Ca W (.Subscript a b pos) fun s => (hf s).bind fun h s => (fb s).bind fun k s =>
      Res.of ((s.cont h).bind fun c => (getI c k.2).map fun d => (false, d)) s := by
  refine PE.imp (pe_ix (IxR.or (IxR.or ix_list ix_tup) (ix_dict (by have := gd.un; omega))) h hb (plainIx_of hp)) fun σ H Q ⟨Pr, F, ρ, s, S, q⟩ => ?_
  refine ⟨Pr, F, ρ, s, S, (Ans.bind (Rl := RH Ca Pr σ) q).mono ?_⟩
  rintro v H1 ⟨x, s1, F1, ρ1, g, S1, rx, q1⟩
  refine ⟨Pr, F1, ρ1, s1, S1, (Ans.bind (Rl := RV Ca Pr σ) q1).mono ?_⟩
  rintro u H2 ⟨y, s2, F2, ρ2, g2, S2, t2, q2⟩
  obtain ⟨F3, g3, S3, ry⟩ := S2.freeze t2
  obtain ⟨z, e, q3⟩ := Ans.of (q2.start g3)
  cases ec : s2.cont x with
  | none => rw [ec] at e; cases e
  | some c =>
    rw [ec, Option.bind_some] at e
    cases eg : getI c y.2 with
    | none => rw [eg] at e; cases e
    | some d =>
      rw [eg, Option.map_some, Option.some.injEq] at e; subst e
      have con : Con Ca F3 ρ2 H2 c v := (HdR.mono (g2.trans g3) rx).con S3 ec
      have fin : ∀ w, Rep Ca F3 ρ2 H2 d w → Q w H2 := fun w r => q3.fin S3 (tmp_of r)
      generalize y.2 = k at eg ry
      cases c with
      | lst xs =>
        obtain ⟨a, vs, rfl, hh, l⟩ := con.lst
        cases k <;> simp only [getI] at eg <;> try (cases eg)
        rename_i i
        simp only [Rep] at ry
        cases ej : Iv.ixN xs.length i with
        | none => rw [ej] at eg; cases eg
        | some j =>
          rw [ej, Option.bind_some] at eg
          obtain ⟨w, ew, rw'⟩ := l.get eg
          exact .inl (.inl ⟨a, vs, i, w, rfl, ry, SqL.of hh, ixN_at (by rw [← l.len]; exact ej) ew, fin w rw'⟩)
      | tup xs =>
        obtain ⟨a, vs, rfl, hh, l⟩ := con.tup
        cases k <;> simp only [getI] at eg <;> try (cases eg)
        rename_i i
        simp only [Rep] at ry
        cases ej : Iv.ixN xs.length i with
        | none => rw [ej] at eg; cases eg
        | some j =>
          rw [ej, Option.bind_some] at eg
          obtain ⟨w, ew, rw'⟩ := l.get eg
          exact .inl (.inr ⟨a, vs, i, w, rfl, ry, SqT.of hh, ixN_at (by rw [← l.len]; exact ej) ew, fin w rw'⟩)
      | dK kvs =>
        obtain ⟨a, ws, rfl, hh, l⟩ := con.dK
        simp only [getI] at eg
        cases ek : keyOf k with
        | none => rw [ek] at eg; cases eg
        | some key =>
          rw [ek, Option.bind_some] at eg
          rcases l.val (k := key) with ⟨n1, n2⟩ | ⟨d', w, n1, n2, r⟩
          · rw [n1] at eg; cases eg
          · rw [n1, Option.some.injEq] at eg; subst eg
            exact .inr ⟨a, w, rfl, .inl ⟨ws, key, hh, keyOf_rep ek ry, n2.symm⟩, fin w r⟩
      | dT kvs =>
        obtain ⟨a, ws, rfl, hh, l⟩ := con.dT
        cases k <;> simp only [getI] at eg <;> try (cases eg)
        rename_i ks
        simp only [Rep] at ry
        obtain ⟨b, vs, rfl, _, hb', lk⟩ := ry
        cases ek : keysOf ks with
        | none => rw [ek] at eg; cases eg
        | some key =>
          rw [ek, Option.bind_some] at eg
          rcases l.val (k := key) with ⟨n1, n2⟩ | ⟨d', w, n1, n2, r⟩
          · rw [n1] at eg; cases eg
          · rw [n1, Option.some.injEq] at eg; subst eg
            exact .inr ⟨a, w, rfl, .inr ⟨ws, key, b, hh, rfl, by rw [hb', keysOf_rep ek lk], n2.symm⟩, fin w r⟩
      | _ => simp [getI] at eg
/-! ### slices -/
def RO : Rel' (Option Int) (Option Int) := fun _ _ _ _ _ _ a b => b = a
abbrev POv (X : Cx) (Ca : Cn) (W : WX) (e : Option Expr) (f : S → Res (Option Int)) : Prop := PO X e (Run Ca W RO f)
theorem PO.imp {X : Cx} {e : Option Expr} {t t' : TO} (h : PO X e t) (w : ∀ σ H Q, t' σ H Q → t σ H Q) : PO X e t' := ⟨fun pins s σ H Q I q => h.run pins s σ H Q I (w σ H Q q)⟩
theorem sd_noPart : POv X Ca W none fun s => .ok none s := PO.imp po_none fun σ H Q ⟨Pr, F, ρ, s, S, q⟩ => q.fin S rfl
theorem sd_part (h : PEv X Ca W e fe) : POv X Ca W (some e) fun s => (fe s).bind fun x s => match x.2 with | .int i => .ok (some i) s | _ => .no := PO.imp (po_some h) fun σ H Q ⟨Pr, F, ρ, s, S, q⟩ => by
  refine ⟨Pr, F, ρ, s, S, (Ans.bind (Rl := RV Ca Pr σ) q).mono ?_⟩
  rintro v H1 ⟨⟨o, d⟩, s1, F1, ρ1, g, S1, t, q1⟩
  obtain ⟨F2, g2, S2, r⟩ := S1.freeze t
  have q2 := q1.start g2
  cases d <;> try exact q2.elim
  rename_i i
  simp only [Rep] at r
  exact ⟨i, r, q2.fin S2 rfl⟩
theorem sIx_eq (n d : Nat) (o : Option Int) : HT.sIx n d o = Iv.sIx n d o := by cases o <;> rfl
theorem RepL.cut {F : Addr → Prop} {ρ : List Addr} {H : Hp} {xs : List D} {vs : List V} (l : RepL Ca F ρ H xs vs) (lo hi : Option Int) : RepL Ca F ρ H (Iv.cut xs lo hi) (cutV vs lo hi) := by
  unfold Iv.cut cutV
  rw [l.len, sIx_eq, sIx_eq]
  exact (l.drop _).take _
theorem sd_slc {lo hi : Option Expr} {p2 : Pos} {hf : S → Res Hd} {fl fh : S → Res (Option Int)} (h : PHv X Ca W a hf) (hl : POv X Ca W lo fl) (hh : POv X Ca W hi fh) : PEv X Ca W (.Subscript a (.Slice lo hi none p2) pos) fun s => (hf s).bind fun h s => (fl s).bind fun l s => (fh s).bind fun u s =>
    match s.cont h with
          | some (.lst xs) => .ok (true, .lst (Iv.cut xs l u)) s
          | some (.tup xs) => .ok (false, .tup (Iv.cut xs l u)) s
          | _ => .no := by
  refine PE.imp (pe_slice (SlR.or sl_list sl_tupA) h hl hh) fun σ H Q ⟨Pr, F, ρ, s, S, q⟩ => ?_
  refine ⟨Pr, F, ρ, s, S, (Ans.bind (Rl := RH Ca Pr σ) q).mono ?_⟩
  rintro v H1 ⟨x, s1, F1, ρ1, g, S1, rx, q1⟩
  refine ⟨Pr, F1, ρ1, s1, S1, (Ans.bind (Rl := RO Pr σ) q1).mono ?_⟩
  rintro l H2 ⟨_, s2, F2, ρ2, g2, S2, rfl, q2⟩
  refine ⟨Pr, F2, ρ2, s2, S2, (Ans.bind (Rl := RO Pr σ) q2).mono ?_⟩
  rintro u H3 ⟨_, s3, F3, ρ3, g3, S3, rfl, q3⟩
  have rx3 := HdR.mono (g2.trans g3) rx
  split at q3
  · rename_i xs ec
    obtain ⟨a, vs, rfl, hh, r⟩ := (rx3.con S3 ec).lst
    refine .inl ⟨a, vs, rfl, SqL.of hh, fun p hp => ?_⟩
    obtain ⟨S4, g4, t⟩ := S3.newL hp (r.cut l u)
    exact q3 _ _ _ _ g4 S4 t
  · rename_i xs ec
    obtain ⟨a, vs, rfl, hh, r⟩ := (rx3.con S3 ec).tup
    have rr : Rep Ca F3 ρ3 H3 (.tup xs) (.ref a) := by
      rcases rx3.con S3 ec with h | ⟨b, _, h⟩
      · exact h
      · exact h.elim
    refine .inr ⟨a, vs, rfl, SqT.of hh, fun ⟨e1, e2⟩ => ?_, fun hn p hp => ?_⟩
    · refine q3.fin S3 (tmp_of ?_)
      have e : Iv.cut xs l u = xs := by
        unfold Iv.cut
        rw [r.len, ← sIx_eq, ← sIx_eq, e1, e2, ← r.len]
        simp
      rw [e]; exact rr
    · obtain ⟨F4, g4, S4, t⟩ := S3.newT hp (r.cut l u)
      exact q3 _ _ _ _ g4 S4 (tmp_of t)
  · exact q3.elim

/-! ### fields -/
theorem RepF.look {F : Addr → Prop} {ρ : List Addr} {H : Hp} {k : Str} {d : D} : ∀ {fs : List (Str × D)} {ws : List (Str × V)}, RepF Ca F ρ H fs ws → fs.lookup k = some d → ∃ v, ws.lookup k = some v ∧ Rep Ca F ρ H d v
  | [], _, _, e => by simp at e
  | (j, x) :: r, ws, h, e => by
    simp only [RepF] at h
    obtain ⟨v, t, rfl, rd, rl⟩ := h
    by_cases q : k = j
    · subst q
      rw [List.lookup_cons_self] at e ⊢
      exact ⟨v, rfl, by rw [Option.some.injEq] at e; subst e; exact rd⟩
    · have hb : (k == j) = false := by simpa using q
      rw [List.lookup_cons, hb] at e ⊢
      exact rl.look e
theorem RepF.put {F : Addr → Prop} {ρ : List Addr} {H : Hp} {k : Str} {d : D} {v : V} (r : Rep Ca F ρ H d v) : ∀ {fs : List (Str × D)} {ws : List (Str × V)}, RepF Ca F ρ H fs ws → RepF Ca F ρ H (Iv.putF k d fs) (L2.putF k v ws)
  | [], ws, h => by
    simp only [RepF] at h; subst h
    simp only [Iv.putF, L2.putF, RepF]
    exact ⟨v, [], rfl, r, rfl⟩
  | (j, x) :: fs, ws, h => by
    simp only [RepF] at h
    obtain ⟨u, t, rfl, rd, rl⟩ := h
    simp only [Iv.putF, L2.putF]
    split
    · simp only [RepF]; exact ⟨v, t, rfl, r, rl⟩
    · simp only [RepF]; exact ⟨u, _, rfl, rd, rl.put r⟩
theorem RepF.len {F : Addr → Prop} {ρ : List Addr} {H : Hp} : ∀ {fs : List (Str × D)} {ws : List (Str × V)}, RepF Ca F ρ H fs ws → fs.length = ws.length
  | [], ws, h => by simp only [RepF] at h; subst h; rfl
  | (j, x) :: fs, ws, h => by
    simp only [RepF] at h
    obtain ⟨u, t, rfl, rd, rl⟩ := h
    simp [rl.len]
theorem sd_fld {g : G} {f : Str} (wf : ∀ c f, hasFld g c f = true → Cls X.K (Ca c) ∧ NoAttr X.K (Ca c) f) (h : PEv X Ca W a fa) (hb : attributeBase a f X.env (eval a X.env) = eval a X.env) : PEv X Ca W (.Attribute a f pos) fun s => (fa s).bind fun x s => match x.2 with
    | .box n => match s.μ[n]? with
      | some (.ins c fs) => if hasFld g c f then Res.of ((fs.lookup f).map fun d => (false, d)) s else .no
      | _ => .no
    | _ => .no := PE.imp (pe_fld h hb) fun σ H Q ⟨Pr, F, ρ, s, S, q⟩ => by
  refine ⟨Pr, F, ρ, s, S, (Ans.bind (Rl := RV Ca Pr σ) q).mono ?_⟩
  rintro v H1 ⟨⟨o, d⟩, s1, F1, ρ1, gr, S1, t, q1⟩
  obtain ⟨F2, g2, S2, r⟩ := S1.freeze t
  have q2 := q1.start g2
  cases d <;> try exact q2.elim
  rename_i n
  simp only [Rep] at r
  obtain ⟨p, rfl, hn⟩ := r
  dsimp only at q2
  split at q2
  · rename_i c fs hx
    split at q2
    · rename_i hf
      obtain ⟨z, e, q3⟩ := Ans.of q2
      cases el : fs.lookup f with
      | none => rw [el] at e; cases e
      | some d =>
        rw [el, Option.map_some, Option.some.injEq] at e; subst e
        obtain ⟨dx, ws, hp, rf⟩ := S2.bx n _ p hx hn
        obtain ⟨w, e2, rw'⟩ := rf.look el
        obtain ⟨c1, c2⟩ := wf c f hf
        exact ⟨p, Ca c, dx, ws, w, rfl, hp, c1, c2, e2, q3.fin S2 (tmp_of rw')⟩
    · exact q2.elim
  · exact q2.elim
/-! ### chains, and, or: see Snd2 -/
theorem sd_chain {p q : CmpOp} {op op' : Cp} {r r' : R2} (ho : OpR X (compareOp p) r) (ho' : OpR X (compareOp q) r') (hr : MeetsC Ca op r) (hr' : MeetsC Ca op' r') (ha : PEv X Ca W a fa) (hb : PEv X Ca W b fb) (hc : PEv X Ca W c fc) (hm : lastMarks [p, q] [b, c] = false) :
    PEv X Ca W (.Compare a [p, q] [b, c] pos) fun s => (fa s).bind fun x s => (fb s).bind fun y s => (Res.of (opC op x.2 y.2) s).bind fun t s =>
      if t then (fc s).bind fun z s => (Res.of (opC op' y.2 z.2) s).bind fun t s => .ok (false, .bl t) s else .ok (false, .bl false) s := PE.imp (pe_chain ho ho' ha hb hc hm) fun σ H Q ⟨Pr, F, ρ, s, S, q⟩ => by
  have cf : ∀ (op : Cp) (x y : D) (s : Iv.S), cmpF op (.val x) (.val y) s = opC op x y := fun op x y s => by
    unfold cmpF
    cases op <;> rfl
  refine ⟨Pr, F, ρ, s, S, (Ans.bind (Rl := RV Ca Pr σ) q).mono ?_⟩
  rintro v H1 ⟨x, s1, F1, ρ1, g, S1, t, q1⟩
  obtain ⟨F2, g2, S2, rx⟩ := S1.freeze t
  refine ⟨Pr, F2, ρ1, s1, S2, (Ans.bind (Rl := RV Ca Pr σ) (q1.start g2)).mono ?_⟩
  rintro u H2 ⟨y, s2, F3, ρ2, g3, S3, t2, q2⟩
  obtain ⟨F4, g4, S4, ry⟩ := S3.freeze t2
  have q3 := q2.start g4
  cases e : opC op x.2 y.2 with
  | none => rw [e] at q3; exact q3.elim
  | some k =>
    rw [e] at q3
    refine hr Pr F4 ρ2 s2 σ H2 (.val x.2) (.val y.2) v u k _ S4 (Rep.mono (g3.trans g4) _ _ rx) ry (by rw [cf]; exact e) ⟨k, rfl, ?_⟩
    have q4 : Ans Ca W Pr σ (RV Ca Pr σ) F4 ρ2 H2 (if k then (fc s2).bind fun z s => (Res.of (opC op' y.2 z.2) s).bind fun t s => .ok (false, .bl t) s else .ok (false, .bl false) s2) Q := q3
    cases k with
    | false => exact q4.fin S4 (tmp_of (by simp only [Rep]))
    | true =>
      rw [if_pos rfl]
      rw [if_pos rfl] at q4
      refine ⟨Pr, F4, ρ2, s2, S4, (Ans.bind (Rl := RV Ca Pr σ) q4).mono ?_⟩
      rintro w H3 ⟨z, s3, F5, ρ3, g5, S5, t3, q5⟩
      obtain ⟨F6, g6, S6, rz⟩ := S5.freeze t3
      have q6 := q5.start g6
      cases e2 : opC op' y.2 z.2 with
      | none => rw [e2] at q6; exact q6.elim
      | some k2 =>
        rw [e2] at q6
        exact hr' Pr F6 ρ3 s3 σ H3 (.val y.2) (.val z.2) u w k2 _ S6 (Rep.mono (g5.trans g6) _ _ ry) rz (by rw [cf]; exact e2) (q6.fin S6 (tmp_of (by simp only [Rep])))
end
end Iv
end
section
set_option Elab.async false
set_option linter.all false
/-! Operators, comparisons, built-in functions, methods: by values. My own work. -/
namespace Iv
open PySem L2
open PySem (Str)

section
variable {α β : Type} {X : Cx} {W : WX} {Ca : Cn} {F : Addr → Prop} {ρ : List Addr} {H : Hp} {e a b c : Expr} {es : List Expr} {pos : Pos} {fe fa fb fc : S → Res (Bool × D)} {fs : S → Res (List D)}
theorem Con.int {i : Int} {v : V} (h : Con Ca F ρ H (.int i) v) : v = .int i := by
  rcases h with h | ⟨a, _, h⟩
  · simpa only [Rep] using h
  · exact h.elim
theorem Con.rep {d : D} {v : V} (h : Con Ca F ρ H d v) (n : ∀ a, ¬ Cont Ca F ρ H d a) : Rep Ca F ρ H d v := by
  rcases h with h | ⟨a, _, h⟩
  · exact h
  · exact absurd h (n a)
theorem sz24 {n : Nat} (h : n ≤ sizeL) : n ≤ sizeLine := h

/-! ### operators -/
theorem meets_add : Meets2 Ca W (opB .add) (fun x y H Q => (rI0 (fun i j => .int (i + j)) x y H Q ∨ rCat x y H Q) ∨ rCatA X.K x y H Q) := by
  intro Pr F ρ s σ H x y v u z Q S rx ry e q
  cases x <;> cases y <;> simp only [opB] at e <;> try (cases e)
  · exact .inl (.inl ⟨_, _, rx.int, ry.int, q.fin S (tmp_of (by simp only [Rep]))⟩)
  · rename_i xs ys
    split at e
    · rename_i hz
      simp only [Option.some.injEq] at e; subst e
      obtain ⟨a, vs, rfl, h1, l1⟩ := rx.tup
      obtain ⟨b, ws, rfl, h2, l2⟩ := ry.tup
      have r1 := rx.rep fun _ h => h
      have r2 := ry.rep fun _ h => h
      refine .inr ⟨a, b, vs, ws, rfl, rfl, SqT.of h1, SqT.of h2, by rw [← l1.len, ← l2.len]; exact hz, fun ev => ?_, fun _ ew => ?_, fun _ _ p hp => ?_⟩
      · have : xs = [] := by have := l1.len; rw [ev] at this; exact List.eq_nil_of_length_eq_zero this
        subst this
        exact q.fin S (tmp_of r2)
      · have : ys = [] := by have := l2.len; rw [ew] at this; exact List.eq_nil_of_length_eq_zero this
        subst this
        refine q.fin S (tmp_of ?_)
        show Rep Ca F ρ H (.tup (xs ++ [])) _
        rw [List.append_nil]; exact r1
      · obtain ⟨F2, g2, S2, t⟩ := S.newT hp (l1.app l2)
        exact q _ _ _ _ g2 S2 (tmp_of t)
    · cases e
  · rename_i xs ys
    split at e
    · rename_i hz
      simp only [Option.some.injEq] at e; subst e
      obtain ⟨a, vs, rfl, h1, l1⟩ := rx.lst
      obtain ⟨b, ws, rfl, h2, l2⟩ := ry.lst
      refine .inl (.inr ⟨a, b, vs, ws, rfl, rfl, h1, h2, by rw [← l1.len, ← l2.len]; exact hz, fun p hp => ?_⟩)
      obtain ⟨S2, g2, t⟩ := S.newL hp (l1.app l2)
      exact q _ _ _ _ g2 S2 t
    · cases e
theorem op_add' : OpR X (binaryOp .Add) (fun x y H Q => (rI0 (fun i j => .int (i + j)) x y H Q ∨ rCat x y H Q) ∨ rCatA X.K x y H Q) := OpR.or (OpR.or op_add op_cat) op_catA
theorem meets_sub : Meets2 Ca W (opB .sub) (rI0 fun i j => .int (i - j)) := by
  intro Pr F ρ s σ H x y v u z Q S rx ry e q
  cases x <;> cases y <;> simp only [opB] at e <;> try (cases e)
  exact ⟨_, _, rx.int, ry.int, q.fin S (tmp_of (by simp only [Rep]))⟩
theorem meets_mul : Meets2 Ca W (opB .mul) (fun x y H Q => (rI CMul (fun i j => .int (i * j)) x y H Q ∨ rRep x y H Q) ∨ rRepT X.K x y H Q) := by
  intro Pr F ρ s σ H x y v u z Q S rx ry e q
  cases x <;> cases y <;> simp only [opB] at e <;> try (cases e)
  · rename_i i j
    split at e
    · rename_i hm
      simp only [Option.some.injEq] at e; subst e
      refine .inl (.inl ⟨_, _, rx.int, ry.int, ?_, q.fin S (tmp_of (by simp only [Rep]))⟩)
      unfold mulOk big64 at hm
      unfold CMul
      simp only [Bool.or_eq_true, Bool.and_eq_true, decide_eq_true_eq] at hm
      exact hm
    · cases e
  · rename_i xs k
    split at e
    · rename_i hz
      simp only [Option.some.injEq] at e; subst e
      obtain ⟨h0, h1, h2, h3⟩ := hz
      obtain ⟨a, vs, rfl, g1, l1⟩ := rx.tup
      have nv : vs ≠ [] := fun z => h0 (List.eq_nil_of_length_eq_zero (by rw [l1.len, z]; rfl))
      refine .inr ⟨a, k, vs, rfl, ry.int, SqT.of g1, nv, h1, h2, by rw [← l1.len]; exact h3, fun p hp => ?_⟩
      obtain ⟨F2, g2, S2, t⟩ := S.newT hp (l1.rep k.toNat)
      exact q _ _ _ _ g2 S2 (tmp_of t)
    · cases e
  · rename_i xs k
    split at e
    · rename_i hz
      simp only [Option.some.injEq] at e; subst e
      obtain ⟨h1, h2, h3⟩ := hz
      obtain ⟨a, vs, rfl, g1, l1⟩ := rx.lst
      refine .inl (.inr ⟨a, k, vs, rfl, ry.int, g1, h1, h2, by rw [← l1.len]; exact h3, fun p hp => ?_⟩)
      obtain ⟨S2, g2, t⟩ := S.newL hp (l1.rep k.toNat)
      exact q _ _ _ _ g2 S2 t
    · cases e
theorem op_mul' : OpR X (binaryOp .Mult) (fun x y H Q => (rI CMul (fun i j => .int (i * j)) x y H Q ∨ rRep x y H Q) ∨ rRepT X.K x y H Q) := OpR.or (OpR.or op_mul op_rep) op_repT
theorem meets_div : Meets2 Ca W (opB .div) (rI CDivN fun i j => .int (i.fdiv j)) := by
  intro Pr F ρ s σ H x y v u z Q S rx ry e q
  cases x <;> cases y <;> simp only [opB] at e <;> try (cases e)
  split at e
  · rename_i hz
    simp only [Option.some.injEq] at e; subst e
    exact ⟨_, _, rx.int, ry.int, hz, q.fin S (tmp_of (by simp only [Rep]))⟩
  · cases e
theorem meets_mod : Meets2 Ca W (opB .mod) (rI (fun _ j => j ≠ 0) fun i j => .int (i.fmod j)) := by
  intro Pr F ρ s σ H x y v u z Q S rx ry e q
  cases x <;> cases y <;> simp only [opB] at e <;> try (cases e)
  split at e
  · rename_i hz
    simp only [Option.some.injEq] at e; subst e
    exact ⟨_, _, rx.int, ry.int, hz, q.fin S (tmp_of (by simp only [Rep]))⟩
  · cases e
theorem meets_pow : Meets2 Ca W (opB .pow) (rI CPow fun i j => .int (i ^ j.toNat)) := by
  intro Pr F ρ s σ H x y v u z Q S rx ry e q
  cases x <;> cases y <;> simp only [opB] at e <;> try (cases e)
  split at e
  · rename_i hz
    simp only [Option.some.injEq] at e; subst e
    exact ⟨_, _, rx.int, ry.int, hz, q.fin S (tmp_of (by simp only [Rep]))⟩
  · cases e

/-! ### data: == -/
mutual
theorem rep_dp : ∀ (n : Nat) (d : D) (v : V), okD n d = true → Rep Ca F ρ H d v → ∃ p, toPy d = some p ∧ Dp X.K H v p ∧ p.canLay0 = true ∧ p.depth ≤ n
  | _, .non, v, _, r => by simp only [Rep] at r; subst r; exact ⟨.none, rfl, .non, rfl, by simp [PyData.depth]⟩
  | _, .bl b, v, _, r => by simp only [Rep] at r; subst r; exact ⟨.bool b, rfl, .bl b, rfl, by simp [PyData.depth]⟩
  | _, .int b, v, _, r => by simp only [Rep] at r; subst r; exact ⟨.int b, rfl, .int b, rfl, by simp [PyData.depth]⟩
  | n, .str x, v, ok, r => by
    simp only [Rep] at r; subst r
    refine ⟨.str x, rfl, .str x, ?_, by simp [PyData.depth]⟩
    have : x.cps.all (fun z => decide (z < 1114112)) = true := by cases n <;> simpa [okD] using ok
    simpa [PyData.canLay0, PyData.strOk] using this
  | n + 1, .lst xs, v, ok, r => by
    simp only [Rep] at r
    obtain ⟨a, vs, rfl, _, h, l⟩ := r
    obtain ⟨ps, e, dp, cl, dl⟩ := rep_dpL n xs vs (by simpa [okD] using ok) l
    exact ⟨.list ps, by simp [toPy, e], .lst (SqL.of h) dp, by simpa [PyData.canLay0] using cl, by simp [PyData.depth]; omega⟩
  | n + 1, .tup xs, v, ok, r => by
    simp only [Rep] at r
    obtain ⟨a, vs, rfl, _, h, l⟩ := r
    obtain ⟨ps, e, dp, cl, dl⟩ := rep_dpL n xs vs (by simpa [okD] using ok) l
    exact ⟨.tuple ps, by simp [toPy, e], .tup (SqT.of h) dp, by simpa [PyData.canLay0] using cl, by simp [PyData.depth]; omega⟩
  | 0, .lst _, _, ok, _ => by simp [okD] at ok
  | 0, .tup _, _, ok, _ => by simp [okD] at ok
  | 0, .ty _, _, ok, _ => by simp [okD] at ok
  | n + 1, .ty _, _, ok, _ => by simp [okD] at ok
  | 0, .dK _, _, ok, _ => by simp [okD] at ok
  | n + 1, .dK _, _, ok, _ => by simp [okD] at ok
  | 0, .dT _, _, ok, _ => by simp [okD] at ok
  | n + 1, .dT _, _, ok, _ => by simp [okD] at ok
  | 0, .box _, _, ok, _ => by simp [okD] at ok
  | n + 1, .box _, _, ok, _ => by simp [okD] at ok
  | 0, .cls _, _, ok, _ => by simp [okD] at ok
  | n + 1, .cls _, _, ok, _ => by simp [okD] at ok
  | 0, .exc _, _, ok, _ => by simp [okD] at ok
  | n + 1, .exc _, _, ok, _ => by simp [okD] at ok
  | 0, .rep _, _, ok, _ => by simp [okD] at ok
  | n + 1, .rep _, _, ok, _ => by simp [okD] at ok
  | 0, .scr _, _, ok, _ => by simp [okD] at ok
  | n + 1, .scr _, _, ok, _ => by simp [okD] at ok
theorem rep_dpL : ∀ (n : Nat) (xs : List D) (vs : List V), xs.all (okD n) = true → RepL Ca F ρ H xs vs → ∃ ps, toPyL xs = some ps ∧ DpAll X.K H vs ps ∧ PyData.canLayAll0 ps = true ∧ PyData.depthAll ps ≤ n
  | n, [], vs, _, l => by simp only [RepL] at l; subst l; exact ⟨[], rfl, .nil, rfl, by simp [PyData.depthAll]⟩
  | n, x :: xs, vs, ok, l => by
    simp only [RepL] at l
    obtain ⟨v, r, rfl, rx, rl⟩ := l
    rw [List.all_cons, Bool.and_eq_true] at ok
    obtain ⟨p, e1, d1, c1, h1⟩ := rep_dp n x v ok.1 rx
    obtain ⟨ps, e2, d2, c2, h2⟩ := rep_dpL n xs r ok.2 rl
    exact ⟨p :: ps, by simp [toPyL, e1, e2], .cons d1 d2, by simp [PyData.canLayAll0, c1, c2], by simp [PyData.depthAll]; omega⟩
end

theorem toPyL_cons {x : D} {xs : List D} {ps : List PyData} (h : toPyL (x :: xs) = some ps) : ∃ p r, ps = p :: r ∧ toPy x = some p ∧ toPyL xs = some r := by
  simp only [toPyL] at h
  split at h
  · rename_i p r e1 e2
    simp only [Option.some.injEq] at h
    exact ⟨p, r, h.symm, e1, e2⟩
  · cases h
theorem deqL_of {n : Nat} (hd : ∀ (x y : D) (p q : PyData), okD n x = true → okD n y = true → toPy x = some p → toPy y = some q → deq n x y = PyData.eqv p q) : ∀ (xs ys : List D) (ps qs : List PyData), xs.all (okD n) = true → ys.all (okD n) = true → toPyL xs = some ps → toPyL ys = some qs →
    (xs.length == ys.length && (xs.zip ys).all fun p => deq n p.1 p.2) = PyData.eqvAll ps qs
  | [], [], ps, qs, _, _, h1, h2 => by
    simp only [toPyL, Option.some.injEq] at h1 h2; subst h1; subst h2; rfl
  | [], y :: ys, ps, qs, _, _, h1, h2 => by
    simp only [toPyL, Option.some.injEq] at h1; subst h1
    obtain ⟨p, r, rfl, _, _⟩ := toPyL_cons h2
    simp [PyData.eqvAll]
  | x :: xs, [], ps, qs, _, _, h1, h2 => by
    simp only [toPyL, Option.some.injEq] at h2; subst h2
    obtain ⟨p, r, rfl, _, _⟩ := toPyL_cons h1
    simp [PyData.eqvAll]
  | x :: xs, y :: ys, ps, qs, o1, o2, h1, h2 => by
    obtain ⟨p, r, rfl, e1, e2⟩ := toPyL_cons h1
    obtain ⟨q, t, rfl, f1, f2⟩ := toPyL_cons h2
    rw [List.all_cons, Bool.and_eq_true] at o1 o2
    have ih := deqL_of hd xs ys r t o1.2 o2.2 e2 f2
    simp only [PyData.eqvAll, List.zip_cons_cons, List.all_cons, List.length_cons]
    rw [← ih, ← hd x y p q o1.1 o2.1 e1 f1]
    have : (xs.length + 1 == ys.length + 1) = (xs.length == ys.length) := by simp [BEq.beq]
    rw [this]
    cases deq n x y <;> cases (xs.length == ys.length) <;> simp
theorem deq_eqv : ∀ (n : Nat) (x y : D) (p q : PyData), okD n x = true → okD n y = true → toPy x = some p → toPy y = some q → deq n x y = PyData.eqv p q
  | 0, x, y, p, q, o1, o2, h1, h2 => by
    cases x <;> simp only [okD, Bool.false_eq_true] at o1 <;> cases y <;> simp only [okD, Bool.false_eq_true] at o2 <;>
      (simp only [toPy, Option.some.injEq] at h1 h2; subst h1; subst h2; simp [deq, PyData.eqv])
  | n + 1, x, y, p, q, o1, o2, h1, h2 => by
    have ih := deqL_of (deq_eqv n)
    cases x <;> simp only [okD, Bool.false_eq_true] at o1 <;> cases y <;> simp only [okD, Bool.false_eq_true] at o2 <;>
      simp only [toPy, Option.some.injEq, Option.map_eq_some_iff] at h1 h2
    all_goals first
      | (subst h1; subst h2; simp [deq, PyData.eqv]; done)
      | (obtain ⟨ps, e1, rfl⟩ := h1; obtain ⟨qs, e2, rfl⟩ := h2; simp only [deq, PyData.eqv]; first | exact ih _ _ _ _ o1 o2 e1 e2 | rfl)
      | (obtain ⟨ps, e1, rfl⟩ := h1; obtain ⟨qs, e2, rfl⟩ := h2; simp [deq, PyData.eqv]; done)
      | (obtain ⟨ps, e1, rfl⟩ := h1; subst h2; simp [deq, PyData.eqv]; done)
      | (obtain ⟨ps, e1, rfl⟩ := h2; subst h1; simp [deq, PyData.eqv]; done)
theorem con_dp {d : D} {v : V} (ok : okD 60 d = true) (h : Con Ca F ρ H d v) : ∃ p, toPy d = some p ∧ Dp X.K H v p ∧ SeqAt.shaped p = true := by
  have fin : ∀ p : PyData, p.canLay0 = true → p.depth ≤ 60 → SeqAt.shaped p = true := fun p h1 h2 => by
    unfold SeqAt.shaped
    rw [h1, Bool.true_and]
    exact decide_eq_true (by omega)
  rcases h with h | ⟨a, rfl, h⟩
  · obtain ⟨p, e, dp, c, dl⟩ := rep_dp 60 d v ok h
    exact ⟨p, e, dp, fin p c dl⟩
  · cases d <;> try exact h.elim
    · rename_i xs
      obtain ⟨vs, e, l⟩ := h
      obtain ⟨ps, e1, dp, cl, dl⟩ := rep_dpL 59 xs vs (by simpa [okD] using ok) l
      exact ⟨.list ps, by simp [toPy, e1], .lst (SqL.of e) dp, fin _ (by simpa [PyData.canLay0] using cl) (by simp [PyData.depth]; omega)⟩
    · simp [okD] at ok
    · simp [okD] at ok
theorem same_py : ∀ (n : Nat) (x y : D), opC.sameT n x y = true → toPy x = toPy y
  | 0, x, y, h => by
    cases x <;> cases y <;> simp only [opC.sameT, Bool.false_eq_true, beq_iff_eq] at h <;> first | rfl | (subst h; rfl)
  | n + 1, x, y, h => by
    have key : ∀ xs ys : List D, (xs.length == ys.length && (xs.zip ys).all fun p => opC.sameT n p.1 p.2) = true → toPyL xs = toPyL ys := by
      intro xs
      induction xs with
      | nil => intro ys h; cases ys <;> simp_all
      | cons x xs ih =>
        intro ys h
        cases ys with
        | nil => simp at h
        | cons y ys =>
          simp only [List.length_cons, List.zip_cons_cons, List.all_cons, Bool.and_eq_true, beq_iff_eq] at h
          simp only [toPyL]
          rw [same_py n x y h.2.1, ih ys (by simp only [Bool.and_eq_true, beq_iff_eq]; exact ⟨by omega, h.2.2⟩)]
    cases x <;> cases y <;> simp only [opC.sameT, Bool.false_eq_true, beq_iff_eq] at h <;> first | rfl | (subst h; rfl) | (simp only [toPy]; rw [key _ _ h])

theorem cmp_split {op : Cp} {x y : Hd} {s : Iv.S} {k : Bool} (n1 : op ≠ .is) (n2 : op ≠ .isNot) (e : cmpF op x y s = some k) : ∃ u v, s.cont x = some u ∧ s.cont y = some v ∧ opC op u v = some k := by
  unfold cmpF at e
  cases op <;> first | exact absurd rfl n1 | exact absurd rfl n2 | skip
  all_goals
    cases e1 : s.cont x with
    | none => simp [e1] at e
    | some u =>
      cases e2 : s.cont y with
      | none => simp [e1, e2] at e
      | some v => exact ⟨u, v, rfl, rfl, by simpa [e1, e2] using e⟩
theorem eqd_of {u v : D} {k : Bool} (e : eqD u v = some k) : okD 60 u = true ∧ okD 60 v = true ∧ k = deq 60 u v := by
  unfold eqD at e
  by_cases h : (okD 60 u && okD 60 v) = true
  · rw [if_pos h] at e
    rw [Bool.and_eq_true] at h
    exact ⟨h.1, h.2, by simpa using e.symm⟩
  · rw [if_neg h] at e
    cases e
theorem rep_str {d : D} {v : V} (h : Con Ca F ρ H (.rep d) v) : ∃ p, toPy d = some p ∧ v = .str p.shown := by
  have := h.rep fun _ z => z
  simpa only [Rep] using this
theorem meets_eq : MeetsC Ca .eq (fun x y H Q => rEqD X.K x y H Q ∨ rEq x y H Q) := by
  intro Pr F ρ s σ H x y v u k Q S rx ry e q
  obtain ⟨dx, dy, e1, e2, e3⟩ := cmp_split (by decide) (by decide) e
  have cx := rx.con S e1
  have cy := ry.con S e2
  by_cases hr : ∃ a b, dx = .rep a ∧ dy = .rep b
  · obtain ⟨a, b, rfl, rfl⟩ := hr
    simp only [opC] at e3
    split at e3
    · rename_i hh
      simp only [Option.some.injEq] at e3; subst e3
      simp only [Bool.and_eq_true] at hh
      obtain ⟨p, ep, rfl⟩ := rep_str cx
      obtain ⟨p', ep', rfl⟩ := rep_str cy
      have : p = p' := by
        have := same_py 60 a b hh.2
        rw [ep, ep'] at this
        exact Option.some.inj this
      subst this
      exact .inr ⟨rfl, by rw [decide_eq_true rfl]; exact q⟩
    · cases e3
  · have e4 : eqD dx dy = some k := by
      cases dx <;> first | exact e3 | (cases dy <;> first | exact e3 | exact absurd ⟨_, _, rfl, rfl⟩ hr)
    obtain ⟨o1, o2, ek⟩ := eqd_of e4
    obtain ⟨p, ep, dp, sp⟩ := con_dp (X := X) o1 cx
    obtain ⟨p', ep', dp', sp'⟩ := con_dp (X := X) o2 cy
    exact .inl ⟨p, p', dp, dp', sp, sp', by rw [← deq_eqv 60 dx dy p p' o1 o2 ep ep', ← ek]; exact q⟩
theorem meets_ne : MeetsC Ca .ne (fun x y H Q => rNeD X.K x y H Q ∨ rNe x y H Q) := by
  intro Pr F ρ s σ H x y v u k Q S rx ry e q
  obtain ⟨dx, dy, e1, e2, e3⟩ := cmp_split (by decide) (by decide) e
  have cx := rx.con S e1
  have cy := ry.con S e2
  by_cases hr : ∃ a b, dx = .rep a ∧ dy = .rep b
  · obtain ⟨a, b, rfl, rfl⟩ := hr
    simp only [opC] at e3
    split at e3
    · rename_i hh
      simp only [Option.some.injEq] at e3; subst e3
      simp only [Bool.and_eq_true] at hh
      obtain ⟨p, ep, rfl⟩ := rep_str cx
      obtain ⟨p', ep', rfl⟩ := rep_str cy
      have : p = p' := by
        have := same_py 60 a b hh.2
        rw [ep, ep'] at this
        exact Option.some.inj this
      subst this
      exact .inr ⟨rfl, by rw [decide_eq_true rfl]; exact q⟩
    · cases e3
  · have e4 : ∃ k', eqD dx dy = some k' ∧ k = !k' := by
      have : (eqD dx dy).map (fun b => !b) = some k := by
        cases dx <;> first | exact e3 | (cases dy <;> first | exact e3 | exact absurd ⟨_, _, rfl, rfl⟩ hr)
      cases h : eqD dx dy with
      | none => rw [h] at this; cases this
      | some k' => rw [h] at this; exact ⟨k', rfl, by simpa using this.symm⟩
    obtain ⟨k', e4, rfl⟩ := e4
    obtain ⟨o1, o2, ek⟩ := eqd_of e4
    obtain ⟨p, ep, dp, sp⟩ := con_dp (X := X) o1 cx
    obtain ⟨p', ep', dp', sp'⟩ := con_dp (X := X) o2 cy
    exact .inl ⟨p, p', dp, dp', sp, sp', by rw [← deq_eqv 60 dx dy p p' o1 o2 ep ep', ← ek]; exact q⟩
theorem op_eq' (gd : Gd X W) : OpR X (compareOp .Eq) (fun x y H Q => rEqD X.K x y H Q ∨ rEq x y H Q) := OpR.or (op_eqD gd.un) op_eq
theorem op_ne' (gd : Gd X W) : OpR X (compareOp .NotEq) (fun x y H Q => rNeD X.K x y H Q ∨ rNe x y H Q) := OpR.or (op_neD gd.un) op_ne
/-- «ints» in order -/
theorem meets_ord {op : Cp} {p : Int → Int → Bool} (n1 : op ≠ .is) (n2 : op ≠ .isNot) (h : ∀ u v k, opC op u v = some k → ∃ i j, u = .int i ∧ v = .int j ∧ k = p i j) : MeetsC Ca op (rI0 fun i j => .bl (p i j)) := by
  intro Pr F ρ s σ H x y v u k Q S rx ry e q
  obtain ⟨dx, dy, e1, e2, e3⟩ := cmp_split n1 n2 e
  obtain ⟨i, j, rfl, rfl, rfl⟩ := h _ _ _ e3
  exact ⟨i, j, (rx.con S e1).int, (ry.con S e2).int, q⟩
theorem ord_lt : ∀ u v k, opC .lt u v = some k → ∃ i j, u = .int i ∧ v = .int j ∧ k = decide (i < j) := fun u v k e => by
  cases u <;> cases v <;> simp only [opC, reduceCtorEq] at e
  simp only [cmpI, Option.some.injEq] at e
  exact ⟨_, _, rfl, rfl, e.symm⟩
theorem ord_le : ∀ u v k, opC .le u v = some k → ∃ i j, u = .int i ∧ v = .int j ∧ k = decide (i ≤ j) := fun u v k e => by
  cases u <;> cases v <;> simp only [opC, reduceCtorEq] at e
  simp only [cmpI, Option.some.injEq] at e
  exact ⟨_, _, rfl, rfl, e.symm⟩
theorem ord_gt : ∀ u v k, opC .gt u v = some k → ∃ i j, u = .int i ∧ v = .int j ∧ k = decide (j < i) := fun u v k e => by
  cases u <;> cases v <;> simp only [opC, reduceCtorEq] at e
  simp only [cmpI, Option.some.injEq] at e
  exact ⟨_, _, rfl, rfl, e.symm⟩
theorem ord_ge : ∀ u v k, opC .ge u v = some k → ∃ i j, u = .int i ∧ v = .int j ∧ k = decide (j ≤ i) := fun u v k e => by
  cases u <;> cases v <;> simp only [opC, reduceCtorEq] at e
  simp only [cmpI, Option.some.injEq] at e
  exact ⟨_, _, rfl, rfl, e.symm⟩
end
end Iv
end
section
set_option Elab.async false
set_option linter.all false
/-! is, in, built-in functions, methods. My own work. -/
namespace Iv
open PySem L2
open PySem (Str)

def tyV (Ca : Cn) : String ⊕ Nat → Value
  | .inl n => .type n
  | .inr c => .ref (Ca c)
def dV (Ca : Cn) : D → Value
  | .ty n => .type n
  | .cls c => .ref (Ca c)
  | _ => .none
/-- what the text's classes say of themselves -/
structure Wld (K : PySem.W.Frag) (Ca : Cn) (g : G) : Prop where
  fld : ∀ c f, hasFld g c f = true → Cls K (Ca c) ∧ NoAttr K (Ca c) f
  ins : ∀ c, isInst g c = true → Cls K (Ca c) ∧ PySem.W.findIn K (.ref (Ca c)) "__class__" = some (some (.builtin "object.__class__")) ∧ PySem.W.specialIn K (.builtin "object.__class__") "__get__" = some (some (.builtin "getset_descriptor.__get__")) ∧
    PySem.W.takesIn K (.builtin "object.__class__") = some true ∧ PySem.W.mroIn K (Ca c) (.type "object") = some true
  exc : ∀ c k, g.cls[c]? = some k → k.inst = false → ExcC K (Ca c)
  kitC : ∀ c n, c < g.cls.length → tyAsked.contains n = true → PySem.W.kitOne K (.ref (Ca c)) (.type n) = some false
  kitT : ∀ m c, c < g.cls.length → tyKnown.contains m = true → PySem.W.kitOne K (.type m) (.ref (Ca c)) = some false
  kitK : ∀ c d k, g.cls[d]? = some k → c < g.cls.length → PySem.W.kitOne K (.ref (Ca d)) (.ref (Ca c)) = some (k.subs.contains c)
theorem kit_all : (tyKnown.all fun m => tyAsked.all fun n => decide (kitB m n = some (m == n || (m == "bool" && n == "int")))) = true := by decide +kernel
theorem Wld.kit {K : PySem.W.Frag} {Ca : Cn} {g : G} (w : Wld K Ca g) {t : String ⊕ Nat} {d : D} {b : Bool} (e : isTy g t d = some b) : PySem.W.kitOne K (tyV Ca t) (dV Ca d) = some b := by
  cases d <;> simp only [isTy, reduceCtorEq] at e
  · rename_i n
    split at e
    · rename_i hn
      cases t with
      | inl m =>
        simp only at e
        split at e
        · rename_i hm
          simp only [Option.some.injEq] at e; subst e
          have h := List.all_eq_true.mp kit_all m (by simpa using hm)
          have h2 := List.all_eq_true.mp h n (by simpa using hn)
          exact kit_ty (of_decide_eq_true h2)
        · cases e
      | inr c =>
        simp only at e
        split at e
        · rename_i hc
          simp only [Option.some.injEq] at e; subst e
          exact w.kitC c n hc hn
        · cases e
    · cases e
  · rename_i c
    split at e
    · rename_i hc
      cases t with
      | inl m =>
        simp only at e
        split at e
        · rename_i hm
          simp only [Option.some.injEq] at e; subst e
          exact w.kitT m c hc hm
        · cases e
      | inr d =>
        simp only at e
        cases hk : g.cls[d]? with
        | none => rw [hk] at e; cases e
        | some k =>
          rw [hk, Option.map_some, Option.some.injEq] at e; subst e
          exact w.kitK c d k hk hc
    · cases e

section
variable {α β : Type} {X : Cx} {W : WX} {Ca : Cn} {F : Addr → Prop} {ρ : List Addr} {H : Hp} {e a b c : Expr} {es : List Expr} {pos : Pos} {fe fa fb fc : S → Res (Bool × D)} {fs : S → Res (List D)}

/-! ### is -/
theorem rep_non {d : D} {v : V} (r : Rep Ca F ρ H d v) : decide (v = .non) = d.isNon := by
  cases d <;> simp only [Rep] at r
  all_goals first
    | (subst r; rfl)
    | exact r.elim
    | (obtain ⟨a, rfl, _⟩ := r; rfl)
    | (obtain ⟨a, b, rfl, _⟩ := r; rfl)
    | (obtain ⟨a, b, c, rfl, _⟩ := r; rfl)
    | (obtain ⟨p, _, rfl⟩ := r; rfl)
theorem is_split {op : Cp} (ho : op = .is ∨ op = .isNot) {x y : Hd} {s : Iv.S} {k : Bool} (e : cmpF op x y s = some k) : s.cont y = some .non ∧ k = (if op = .is then x.self.isNon else !x.self.isNon) := by
  have key : ∃ dy, s.cont y = some dy ∧ opC op x.self dy = some k := by
    unfold cmpF at e
    rcases ho with rfl | rfl <;>
      (cases e2 : s.cont y with
      | none => simp [e2] at e
      | some v => exact ⟨v, rfl, by simpa [e2] using e⟩)
  obtain ⟨dy, e2, e3⟩ := key
  generalize x.self = dx at e3 ⊢
  rcases ho with rfl | rfl
  · cases dy <;> simp only [opC, reduceCtorEq] at e3
    all_goals first
      | (refine ⟨e2, ?_⟩; simpa using e3.symm)
      | (cases dx <;> simp only [opC, cmpI, reduceCtorEq] at e3)
  · cases dy <;> simp only [opC, reduceCtorEq] at e3
    all_goals first
      | (refine ⟨e2, ?_⟩; simpa using e3.symm)
      | (cases dx <;> simp only [opC, cmpI, reduceCtorEq] at e3)
theorem hd_non {σ : L2.St} {x : Hd} {v : V} (r : HdR Ca σ F ρ H x v) : decide (v = .non) = x.self.isNon := by
  cases x with
  | slot i => obtain ⟨_, a, rfl⟩ := r; rfl
  | box n => obtain ⟨a, rfl, _⟩ := r; rfl
  | val d => exact rep_non r
theorem meets_is : MeetsC Ca .is (fun x y H Q => y = .non ∧ Q (.bl (decide (x = .non))) H) := by
  intro Pr F ρ s σ H x y v u k Q S rx ry e q
  obtain ⟨ey, rfl⟩ := is_split (.inl rfl) e
  have hy := (ry.con S ey).rep fun _ z => z
  simp only [Rep] at hy
  refine ⟨hy, ?_⟩
  rw [hd_non rx]
  simpa using q
theorem meets_isNot : MeetsC Ca .isNot (fun x y H Q => y = .non ∧ Q (.bl (!decide (x = .non))) H) := by
  intro Pr F ρ s σ H x y v u k Q S rx ry e q
  obtain ⟨ey, rfl⟩ := is_split (.inr rfl) e
  have hy := (ry.con S ey).rep fun _ z => z
  simp only [Rep] at hy
  refine ⟨hy, ?_⟩
  rw [hd_non rx]
  simpa using q

/-! ### in -/
theorem flat_of {d : D} {v : V} (ok : okD 0 d = true) (r : Rep Ca F ρ H d v) : flatV v = true := by
  cases d <;> simp only [okD, Bool.false_eq_true] at ok <;> (simp only [Rep] at r; subst r; rfl)
theorem deq_flat {d e : D} {v u : V} (o1 : okD 0 d = true) (o2 : okD 0 e = true) (r1 : Rep Ca F ρ H d v) (r2 : Rep Ca F ρ H e u) : deq 0 d e = eqV v u := by
  cases d <;> simp only [okD, Bool.false_eq_true] at o1 <;> cases e <;> simp only [okD, Bool.false_eq_true] at o2 <;>
    (simp only [Rep] at r1 r2; subst r1; subst r2; rfl)
theorem any_flat {x : D} {v : V} (o : okD 0 x = true) (r : Rep Ca F ρ H x v) : ∀ {xs : List D} {vs : List V}, xs.all (okD 0) = true → RepL Ca F ρ H xs vs → (xs.any fun y => deq 0 y x) = inV v vs ∧ vs.all flatV = true
  | [], vs, _, l => by simp only [RepL] at l; subst l; exact ⟨rfl, rfl⟩
  | y :: ys, vs, h, l => by
    simp only [RepL] at l
    obtain ⟨u, t, rfl, ry, rl⟩ := l
    rw [List.all_cons, Bool.and_eq_true] at h
    obtain ⟨h1, h2⟩ := any_flat o r h.2 rl
    refine ⟨?_, ?_⟩
    · unfold inV at h1 ⊢
      rw [List.any_cons, List.any_cons, h1, deq_flat h.1 o ry r]
    · rw [List.all_cons, h2, flat_of h.1 ry]; rfl
def rInD (neg : Bool) : R2 := fun y x H Q => ∃ a o, x = .ref a ∧ DGet H a y o ∧ Q (.bl (if neg then !o.isSome else o.isSome)) H
theorem op_inD (hu : X.A.units + 1 < cLine) : OpR X (compareOp .In) (rInD false) := by
  intro pins s σ H x y v u Q I rx ry h
  obtain ⟨a, o, rfl, g, q⟩ := h
  cases ry
  exact d_in hu I g rx fun s3 I3 => ⟨.bl o.isSome, H, I3, rfl, q⟩
theorem op_ninD (hu : X.A.units + 1 < cLine) : OpR X (compareOp .NotIn) (rInD true) := by
  intro pins s σ H x y v u Q I rx ry h
  obtain ⟨a, o, rfl, g, q⟩ := h
  cases ry
  exact d_notIn hu I g rx fun s3 I3 => ⟨.bl (!o.isSome), H, I3, rfl, q⟩
theorem has_core {x y : D} {v u : V} {k : Bool} (e : hasI y x = some k) (cx : Con Ca F ρ H x v) (cy : Con Ca F ρ H y u) (neg : Bool) (Q : VK) (q : Q (.bl (if neg then !k else k)) H) :
    rIn X.K neg v u H Q ∨ rInD neg v u H Q := by
  cases y <;> simp only [hasI, reduceCtorEq] at e
  · rename_i xs
    split at e
    · rename_i ok
      simp only [Option.some.injEq] at e; subst e
      rw [Bool.and_eq_true] at ok
      have rx := cx.rep fun a z => by cases x <;> first | exact z | simp [okD] at ok
      obtain ⟨a, vs, rfl, h, l⟩ := cy.tup
      obtain ⟨e1, e2⟩ := any_flat ok.1 rx ok.2 l
      exact .inl ⟨a, vs, rfl, .inr (SqT.of h), flat_of ok.1 rx, e2, by rw [e1] at q; exact q⟩
    · cases e
  · rename_i xs
    split at e
    · rename_i ok
      simp only [Option.some.injEq] at e; subst e
      rw [Bool.and_eq_true] at ok
      have rx := cx.rep fun a z => by cases x <;> first | exact z | simp [okD] at ok
      obtain ⟨a, vs, rfl, h, l⟩ := cy.lst
      obtain ⟨e1, e2⟩ := any_flat ok.1 rx ok.2 l
      exact .inl ⟨a, vs, rfl, .inl (SqL.of h), flat_of ok.1 rx, e2, by rw [e1] at q; exact q⟩
    · cases e
  · rename_i kvs
    obtain ⟨a, ws, rfl, hh, l⟩ := cy.dK
    cases ek : keyOf x with
    | none => rw [ek] at e; cases e
    | some key =>
      rw [ek, Option.map_some, Option.some.injEq] at e
      have rx := cx.rep fun a z => by cases x <;> first | exact z | simp [keyOf] at ek
      refine .inr ⟨a, valV ws key, rfl, .inl ⟨ws, key, hh, keyOf_rep ek rx, rfl⟩, ?_⟩
      have : (valV ws key).isSome = k := by
        rw [← e]
        rcases l.val (k := key) with ⟨n1, n2⟩ | ⟨d', w, n1, n2, r⟩ <;> rw [n1, n2] <;> rfl
      rw [this]; exact q
  · rename_i kvs
    obtain ⟨a, ws, rfl, hh, l⟩ := cy.dT
    cases x <;> simp only [reduceCtorEq] at e
    rename_i ks
    cases ek : keysOf ks with
    | none => rw [ek] at e; cases e
    | some key =>
      rw [ek, Option.map_some, Option.some.injEq] at e
      obtain ⟨b, vs, rfl, hb', lk⟩ := cx.tup
      refine .inr ⟨a, valV ws key, rfl, .inr ⟨ws, key, b, hh, rfl, by rw [hb', keysOf_rep ek lk], rfl⟩, ?_⟩
      have : (valV ws key).isSome = k := by
        rw [← e]
        rcases l.val (k := key) with ⟨n1, n2⟩ | ⟨d', w, n1, n2, r⟩ <;> rw [n1, n2] <;> rfl
      rw [this]; exact q
theorem meets_in : MeetsC Ca .in_ (fun x y H Q => rIn X.K false x y H Q ∨ rInD false x y H Q) := by
  intro Pr F ρ s σ H x y v u k Q S rx ry e q
  obtain ⟨dx, dy, e1, e2, e3⟩ := cmp_split (by decide) (by decide) e
  have e4 : hasI dy dx = some k := by cases dx <;> cases dy <;> first | exact e3 | (simp [opC] at e3; done)
  exact has_core e4 (rx.con S e1) (ry.con S e2) false Q q
theorem meets_notIn : MeetsC Ca .notIn (fun x y H Q => rIn X.K true x y H Q ∨ rInD true x y H Q) := by
  intro Pr F ρ s σ H x y v u k Q S rx ry e q
  obtain ⟨dx, dy, e1, e2, e3⟩ := cmp_split (by decide) (by decide) e
  have e4 : (hasI dy dx).map (fun b => !b) = some k := by cases dx <;> cases dy <;> first | exact e3 | (simp [opC] at e3; done)
  cases h : hasI dy dx with
  | none => rw [h] at e4; cases e4
  | some k' =>
    rw [h, Option.map_some, Option.some.injEq] at e4
    subst e4
    exact has_core h (rx.con S e1) (ry.con S e2) true Q q
theorem op_in' (gd : Gd X W) : OpR X (compareOp .In) (fun x y H Q => rIn X.K false x y H Q ∨ rInD false x y H Q) := OpR.or op_in_seq (op_inD (by have := gd.un; omega))
theorem op_notIn' (gd : Gd X W) : OpR X (compareOp .NotIn) (fun x y H Q => rIn X.K true x y H Q ∨ rInD true x y H Q) := OpR.or op_notIn_seq (op_ninD (by have := gd.un; omega))
end
end Iv
end
section
set_option Elab.async false
set_option linter.all false
/-! Built-in functions. My own work. -/
namespace Iv
open PySem L2
open PySem (Str)

section
variable {α β : Type} {X : Cx} {W : WX} {Ca : Cn} {g : G} {Pr : Hp} {F : Addr → Prop} {ρ : List Addr} {H : Hp} {s : Iv.S} {σ : L2.St} {e a b c : Expr} {es : List Expr} {pos : Pos}

/-- an argument: as it stands, its content -/
def ArgR (Ca : Cn) (F : Addr → Prop) (ρ : List Addr) (H : Hp) (p : D × D) (v : V) : Prop := Con Ca F ρ H p.1 v ∧ Con Ca F ρ H p.2 v
theorem HdR.arg {h : Hd} {v : V} {p : D × D} (S : Sta Ca Pr F ρ s σ H) (r : HdR Ca σ F ρ H h v) (e : s.arg h = some p) : ArgR Ca F ρ H p v := by
  cases h with
  | slot i =>
    simp only [Iv.S.arg, Option.map_eq_some_iff] at e
    obtain ⟨d, e1, rfl⟩ := e
    exact ⟨r.con S e1, r.con S e1⟩
  | box n =>
    simp only [Iv.S.arg, Option.some.injEq] at e; subst e
    have r0 : Con Ca F ρ H (.box n) v := .inl (by simp only [Rep]; exact r)
    refine ⟨r0, ?_⟩
    cases e : s.cont (.box n) with
    | none => exact r0
    | some d => exact r.con S e
  | val d =>
    simp only [Iv.S.arg, Option.some.injEq] at e; subst e
    exact ⟨.inl r, .inl r⟩
theorem args_of (S : Sta Ca Pr F ρ s σ H) : ∀ {hs : List Hd} {vs : List V} {ps : List (D × D)}, Paired (HdR Ca σ F ρ H) hs vs → s.args hs = some ps → Paired (ArgR Ca F ρ H) ps vs
  | [], _, ps, .nil, e => by
    simp only [Iv.S.args, Option.some.injEq] at e; subst e; exact .nil
  | h :: hs, _, ps, .cons r t, e => by
    simp only [Iv.S.args] at e
    split at e
    · rename_i x xs e1 e2
      simp only [Option.some.injEq] at e; subst e
      exact .cons (r.arg S e1) (args_of S t e2)
    · cases e
theorem pair1 {γ δ : Type} {R : γ → δ → Prop} {x : γ} {vs : List δ} (h : Paired R [x] vs) : ∃ v, vs = [v] ∧ R x v := by
  cases h with
  | cons r t => cases t; exact ⟨_, rfl, r⟩
theorem pair2 {γ δ : Type} {R : γ → δ → Prop} {x y : γ} {vs : List δ} (h : Paired R [x, y] vs) : ∃ v u, vs = [v, u] ∧ R x v ∧ R y u := by
  cases h with
  | cons r t =>
    obtain ⟨u, rfl, q⟩ := pair1 t
    exact ⟨_, _, rfl, r, q⟩

/-- how a rule for a built-in function is met -/
def MeetsB (Ca : Cn) (W : WX) (g : G) (f : BF) (r : List V → Hp → VK → Prop) : Prop :=
  ∀ (Pr : Hp) (F : Addr → Prop) (ρ : List Addr) (s : S) (σ : L2.St) (H : Hp) (ps : List (D × D)) (vs : List V) (z : Bool × D) (Q : VK), Sta Ca Pr F ρ s σ H → Paired (ArgR Ca F ρ H) ps vs → bfun g s.μ f ps = some z → Ans Ca W Pr σ (RV Ca Pr σ) F ρ H (.ok z s) Q → r vs H Q
theorem sd_bcall {f : BF} {r : List V → Hp → VK → Prop} {hfs : S → Res (List Hd)} (ha : PHs X Ca W es hfs) (hp : ∀ t, PA X es t → PE X e (tCB r t)) (hm : MeetsB Ca W g f r) :
    PEv X Ca W e fun s => (hfs s).bind fun hs s => Res.of ((s.args hs).bind fun as => bfun g s.μ f as) s := PE.imp (hp _ ha) fun σ H Q ⟨Pr, F, ρ, s, S, q⟩ => by
  refine ⟨Pr, F, ρ, s, S, (Ans.bind (Rl := RHs Ca Pr σ) q).mono ?_⟩
  rintro vs H1 ⟨hs, s1, F1, ρ1, g1, S1, r1, q1⟩
  obtain ⟨z, ez, q2⟩ := Ans.of q1
  cases ea : s1.args hs with
  | none => rw [ea] at ez; cases ez
  | some ps =>
    rw [ea, Option.bind_some] at ez
    exact hm Pr F1 ρ1 s1 σ H1 ps vs z Q S1 (args_of S1 r1 ea) ez q2

theorem Con.bl {i : Bool} {v : V} (h : Con Ca F ρ H (.bl i) v) : v = .bl i := by
  rcases h with h | ⟨a, _, h⟩
  · simpa only [Rep] using h
  · exact h.elim
theorem Con.str {i : Str} {v : V} (h : Con Ca F ρ H (.str i) v) : v = .str i := by
  rcases h with h | ⟨a, _, h⟩
  · simpa only [Rep] using h
  · exact h.elim
theorem Con.scr {xs : List D} {v : V} (h : Con Ca F ρ H (.scr xs) v) : ∃ a vs o, v = .ref a ∧ H a = some (.frz o (.lst vs)) ∧ RepL Ca F ρ H xs vs := by
  rcases h with h | ⟨a, _, h⟩
  · simp only [Rep] at h; obtain ⟨a, vs, o, e, _, q, l⟩ := h; exact ⟨a, vs, o, e, q, l⟩
  · exact h.elim

theorem meets_len : MeetsB Ca W g .len (fun xs H Q => ∃ x n, xs = [x] ∧ LenV X.K x H n ∧ Q (.int n) H) := by
  intro Pr F ρ s σ H ps vs z Q S r e q
  rcases ps with _ | ⟨⟨d0, d⟩, _ | ⟨⟨d1, d2⟩, rest⟩⟩ <;> (try (simp only [bfun, reduceCtorEq] at e; done))
  cases d <;> simp only [bfun, reduceCtorEq, Option.some.injEq] at e
  · rename_i xs
    obtain ⟨v, rfl, _, r2⟩ := (pair1 r)
    split at e
    · rename_i hz
      simp only [Option.some.injEq] at e; subst e
      rw [r2.str]
      exact ⟨_, xs.length, rfl, ⟨hz, rfl⟩, q.fin S (tmp_of (by simp only [Rep]))⟩
    · cases e
  · rename_i xs
    subst e
    obtain ⟨v, rfl, _, r2⟩ := (pair1 r)
    obtain ⟨a, vs, rfl, h, l⟩ := r2.tup
    exact ⟨_, xs.length, rfl, .inr ⟨vs, SqT.of h, l.len⟩, q.fin S (tmp_of (by simp only [Rep]))⟩
  · rename_i xs
    subst e
    obtain ⟨v, rfl, _, r2⟩ := (pair1 r)
    obtain ⟨a, vs, rfl, h, l⟩ := r2.lst
    exact ⟨_, xs.length, rfl, .inl ⟨vs, SqL.of h, l.len⟩, q.fin S (tmp_of (by simp only [Rep]))⟩
  · rename_i xs
    subst e
    obtain ⟨v, rfl, _, r2⟩ := (pair1 r)
    obtain ⟨a, vs, o, rfl, h, l⟩ := r2.scr
    exact ⟨_, xs.length, rfl, .inl ⟨vs, .inl (.inr ⟨o, h⟩), l.len⟩, q.fin S (tmp_of (by simp only [Rep]))⟩
theorem meets_abs : MeetsB Ca W g .abs (fun xs H Q => ∃ i, xs = [V.int i] ∧ Q (.int (if i < 0 then -i else i)) H) := by
  intro Pr F ρ s σ H ps vs z Q S r e q
  rcases ps with _ | ⟨⟨d0, d⟩, _ | ⟨⟨d1, d2⟩, rest⟩⟩ <;> (try (simp only [bfun, reduceCtorEq] at e; done))
  cases d <;> simp only [bfun, reduceCtorEq, Option.some.injEq] at e
  subst e
  obtain ⟨v, rfl, _, r2⟩ := (pair1 r)
  rw [r2.int]
  exact ⟨_, rfl, q.fin S (tmp_of (by simp only [Rep]))⟩
theorem meets_min : MeetsB Ca W g .min (fun xs H Q => ∃ i j, xs = [V.int i, V.int j] ∧ Q (.int (if j < i then j else i)) H) := by
  intro Pr F ρ s σ H ps vs z Q S r e q
  rcases ps with _ | ⟨⟨d0, d⟩, _ | ⟨⟨d1, d2⟩, _ | ⟨pp, rest⟩⟩⟩ <;> (try (simp only [bfun, reduceCtorEq] at e; done))
  all_goals (cases d <;> (try (simp only [bfun, reduceCtorEq] at e; done)))
  cases d2 <;> simp only [bfun, reduceCtorEq, Option.some.injEq] at e
  subst e
  obtain ⟨v, u, rfl, ⟨_, r1⟩, ⟨_, r2⟩⟩ := (pair2 r)
  rw [r1.int, r2.int]
  exact ⟨_, _, rfl, q.fin S (tmp_of (by simp only [Rep]))⟩
theorem meets_max : MeetsB Ca W g .max (fun xs H Q => ∃ i j, xs = [V.int i, V.int j] ∧ Q (.int (if j > i then j else i)) H) := by
  intro Pr F ρ s σ H ps vs z Q S r e q
  rcases ps with _ | ⟨⟨d0, d⟩, _ | ⟨⟨d1, d2⟩, _ | ⟨pp, rest⟩⟩⟩ <;> (try (simp only [bfun, reduceCtorEq] at e; done))
  all_goals (cases d <;> (try (simp only [bfun, reduceCtorEq] at e; done)))
  cases d2 <;> simp only [bfun, reduceCtorEq, Option.some.injEq] at e
  subst e
  obtain ⟨v, u, rfl, ⟨_, r1⟩, ⟨_, r2⟩⟩ := (pair2 r)
  rw [r1.int, r2.int]
  exact ⟨_, _, rfl, q.fin S (tmp_of (by simp only [Rep]))⟩
theorem meets_int : MeetsB Ca W g .int (fun xs H Q => (∃ i, xs = [V.int i] ∧ Q (.int i) H) ∨ ∃ k, xs = [V.bl k] ∧ Q (.int (if k then 1 else 0)) H) := by
  intro Pr F ρ s σ H ps vs z Q S r e q
  rcases ps with _ | ⟨⟨d0, d⟩, _ | ⟨⟨d1, d2⟩, rest⟩⟩ <;> (try (simp only [bfun, reduceCtorEq] at e; done))
  cases d <;> simp only [bfun, reduceCtorEq, Option.some.injEq] at e
  · subst e
    obtain ⟨v, rfl, _, r2⟩ := (pair1 r)
    rw [r2.bl]
    exact .inr ⟨_, rfl, q.fin S (tmp_of (by simp only [Rep]))⟩
  · subst e
    obtain ⟨v, rfl, _, r2⟩ := (pair1 r)
    rw [r2.int]
    exact .inl ⟨_, rfl, q.fin S (tmp_of (by simp only [Rep]))⟩
theorem meets_sum : MeetsB Ca W g .sum (rSum X.K) := by
  intro Pr F ρ s σ H ps vs z Q S r e q
  rcases ps with _ | ⟨⟨d0, d⟩, _ | ⟨⟨d1, d2⟩, rest⟩⟩ <;> (try (simp only [bfun, reduceCtorEq] at e; done))
  cases d <;> simp only [bfun, reduceCtorEq, Option.some.injEq] at e
  rename_i xs
  obtain ⟨v, rfl, _, r2⟩ := (pair1 r)
  obtain ⟨a, vs, rfl, h, l⟩ := r2.lst
  cases ei : Iv.ints xs with
  | none => rw [ei] at e; cases e
  | some ns =>
    rw [ei, Option.map_some, Option.some.injEq] at e; subst e
    obtain ⟨rfl, _⟩ := l.ints ei
    exact ⟨a, ns, rfl, SqL.of h, q.fin S (tmp_of (by simp only [Rep]))⟩
theorem meets_any : MeetsB Ca W g .any (rAny X.K) := by
  intro Pr F ρ s σ H ps vs z Q S r e q
  rcases ps with _ | ⟨⟨d0, d⟩, _ | ⟨⟨d1, d2⟩, rest⟩⟩ <;> (try (simp only [bfun, reduceCtorEq] at e; done))
  cases d <;> simp only [bfun, reduceCtorEq, Option.some.injEq] at e
  rename_i xs
  obtain ⟨v, rfl, _, r2⟩ := (pair1 r)
  obtain ⟨a, vs, rfl, h, l⟩ := r2.lst
  cases ei : bools xs with
  | none => rw [ei] at e; cases e
  | some ns =>
    rw [ei, Option.map_some, Option.some.injEq] at e; subst e
    obtain rfl := l.bools ei
    exact ⟨a, ns, rfl, SqL.of h, q.fin S (tmp_of (by simp only [Rep]))⟩
theorem meets_all : MeetsB Ca W g .all (rAll X.K) := by
  intro Pr F ρ s σ H ps vs z Q S r e q
  rcases ps with _ | ⟨⟨d0, d⟩, _ | ⟨⟨d1, d2⟩, rest⟩⟩ <;> (try (simp only [bfun, reduceCtorEq] at e; done))
  cases d <;> simp only [bfun, reduceCtorEq, Option.some.injEq] at e
  rename_i xs
  obtain ⟨v, rfl, _, r2⟩ := (pair1 r)
  obtain ⟨a, vs, rfl, h, l⟩ := r2.lst
  cases ei : bools xs with
  | none => rw [ei] at e; cases e
  | some ns =>
    rw [ei, Option.map_some, Option.some.injEq] at e; subst e
    obtain rfl := l.bools ei
    exact ⟨a, ns, rfl, SqL.of h, q.fin S (tmp_of (by simp only [Rep]))⟩
theorem meets_tuple : MeetsB Ca W g .tuple (fun xs H Q => ∃ p ys, xs = [V.ref p] ∧ ((SqL X.K H p ys ∧ ∀ l, H l = none → Q (.ref l) (upd H l (.tup ys))) ∨ (SqT X.K H p ys ∧ Q (.ref p) H))) := by
  intro Pr F ρ s σ H ps vs z Q S r e q
  rcases ps with _ | ⟨⟨d0, d⟩, _ | ⟨⟨d1, d2⟩, rest⟩⟩ <;> (try (simp only [bfun, reduceCtorEq] at e; done))
  cases d <;> simp only [bfun, reduceCtorEq, Option.some.injEq] at e
  · subst e
    obtain ⟨v, rfl, _, r2⟩ := (pair1 r)
    have rr := r2.rep fun _ z => z
    obtain ⟨a, vs, rfl, h, l⟩ := r2.tup
    exact ⟨a, vs, rfl, .inr ⟨SqT.of h, q.fin S (tmp_of rr)⟩⟩
  · subst e
    obtain ⟨v, rfl, _, r2⟩ := (pair1 r)
    obtain ⟨a, vs, rfl, h, l⟩ := r2.lst
    refine ⟨a, vs, rfl, .inl ⟨SqL.of h, fun p hp => ?_⟩⟩
    obtain ⟨F2, g2, S2, t⟩ := S.newT hp l
    exact q _ _ _ _ g2 S2 (tmp_of t)
theorem meets_list : MeetsB Ca W g .list (fun xs H Q => ∃ p ys, xs = [V.ref p] ∧ (SqL X.K H p ys ∨ SqT X.K H p ys) ∧ ∀ l, H l = none → Q (.ref l) (upd H l (.lst ys))) := by
  intro Pr F ρ s σ H ps vs z Q S r e q
  rcases ps with _ | ⟨⟨d0, d⟩, _ | ⟨⟨d1, d2⟩, rest⟩⟩ <;> (try (simp only [bfun, reduceCtorEq] at e; done))
  cases d <;> simp only [bfun, reduceCtorEq, Option.some.injEq] at e
  · subst e
    obtain ⟨v, rfl, _, r2⟩ := (pair1 r)
    obtain ⟨a, vs, rfl, h, l⟩ := r2.tup
    refine ⟨a, vs, rfl, .inr (SqT.of h), fun p hp => ?_⟩
    obtain ⟨S2, g2, t⟩ := S.newL hp l
    exact q _ _ _ _ g2 S2 t
  · subst e
    obtain ⟨v, rfl, _, r2⟩ := (pair1 r)
    obtain ⟨a, vs, rfl, h, l⟩ := r2.lst
    refine ⟨a, vs, rfl, .inl (SqL.of h), fun p hp => ?_⟩
    obtain ⟨S2, g2, t⟩ := S.newL hp l
    exact q _ _ _ _ g2 S2 t

/-! ### sorted -/
theorem insI_perm (x : Int) : ∀ l : List Int, (insI x l).Perm (x :: l)
  | [] => .refl _
  | y :: r => by
    unfold insI
    split
    · exact .refl _
    · exact ((insI_perm x r).cons y).trans (.swap x y r)
theorem insI_sorted (x : Int) : ∀ l : List Int, l.Pairwise (· ≤ ·) → (insI x l).Pairwise (· ≤ ·)
  | [], _ => by simp [insI]
  | y :: r, h => by
    unfold insI
    rw [List.pairwise_cons] at h
    split
    · rename_i hxy
      rw [List.pairwise_cons]
      refine ⟨fun z hz => ?_, by rw [List.pairwise_cons]; exact h⟩
      rcases List.mem_cons.mp hz with rfl | hz
      · exact hxy
      · exact Int.le_trans hxy (h.1 z hz)
    · rename_i hxy
      rw [List.pairwise_cons]
      refine ⟨fun z hz => ?_, insI_sorted x r h.2⟩
      have := (insI_perm x r).mem_iff.mp hz
      rcases List.mem_cons.mp this with rfl | hz
      · omega
      · exact h.1 z hz
theorem sortI_perm : ∀ l : List Int, (sortI l).Perm l
  | [] => .refl _
  | x :: r => (insI_perm x (sortI r)).trans ((sortI_perm r).cons x)
theorem sortI_sorted : ∀ l : List Int, (sortI l).Pairwise (· ≤ ·)
  | [] => .nil
  | x :: r => insI_sorted x _ (sortI_sorted r)
theorem sorted_unique : ∀ {l m : List Int}, l.Perm m → l.Pairwise (· ≤ ·) → m.Pairwise (· ≤ ·) → l = m
  | [], m, p, _, _ => (List.nil_perm.mp p).symm
  | x :: l, [], p, _, _ => by simpa using p.length_eq
  | x :: l, y :: m, p, h1, h2 => by
    rw [List.pairwise_cons] at h1 h2
    have a1 : x = y := by
      have m1 := p.mem_iff.mp (List.mem_cons_self (a := x) (l := l))
      have m2 := p.mem_iff.mpr (List.mem_cons_self (a := y) (l := m))
      rcases List.mem_cons.mp m1 with e | m1
      · exact e
      · rcases List.mem_cons.mp m2 with e | m2
        · exact e.symm
        · exact Int.le_antisymm (h1.1 _ m2) (h2.1 _ m1)
    subst a1
    rw [sorted_unique ((List.perm_cons x).mp p) h1.2 h2.2]
theorem meets_sorted : MeetsB Ca W g .sorted (rSortedI X.K) := by
  intro Pr F ρ s σ H ps vs z Q S r e q
  rcases ps with _ | ⟨⟨d0, d⟩, _ | ⟨⟨d1, d2⟩, rest⟩⟩ <;> (try (simp only [bfun, reduceCtorEq] at e; done))
  cases d <;> simp only [bfun, reduceCtorEq, Option.some.injEq] at e
  rename_i xs
  obtain ⟨v, rfl, _, r2⟩ := (pair1 r)
  obtain ⟨a, vs, rfl, h, l⟩ := r2.lst
  cases ei : Iv.ints xs with
  | none => rw [ei] at e; cases e
  | some ns =>
    rw [ei, Option.map_some, Option.some.injEq] at e; subst e
    obtain ⟨rfl, _⟩ := l.ints ei
    refine ⟨a, ns, rfl, SqL.of h, fun ns' p pm so hp => ?_⟩
    obtain rfl := sorted_unique (pm.trans (sortI_perm ns).symm) so (sortI_sorted ns)
    obtain ⟨S2, g2, t⟩ := S.newL hp (RepL.ofInts (sortI ns))
    exact q _ _ _ _ g2 S2 t
theorem mem_insU (x : Int) : ∀ (l : List Int) (k : Int), k ∈ insU x l ↔ k = x ∨ k ∈ l
  | [], k => by simp [insU]
  | y :: r, k => by
    unfold insU
    split
    · simp
    · split
      · rename_i h; subst h; simp
      · simp only [List.mem_cons, mem_insU x r k]
        constructor
        · rintro (h | h | h) <;> simp [h]
        · rintro (h | h | h) <;> simp [h]
theorem insU_sorted (x : Int) : ∀ l : List Int, l.Pairwise (· < ·) → (insU x l).Pairwise (· < ·)
  | [], _ => by simp [insU]
  | y :: r, h => by
    unfold insU
    rw [List.pairwise_cons] at h
    split
    · rename_i hxy
      rw [List.pairwise_cons]
      refine ⟨fun z hz => ?_, by rw [List.pairwise_cons]; exact h⟩
      rcases List.mem_cons.mp hz with rfl | hz
      · exact hxy
      · exact Int.lt_trans hxy (h.1 z hz)
    · split
      · rw [List.pairwise_cons]; exact h
      · rw [List.pairwise_cons]
        refine ⟨fun z hz => ?_, insU_sorted x r h.2⟩
        rcases (mem_insU x r z).mp hz with rfl | hz
        · omega
        · exact h.1 z hz
theorem mem_sortU : ∀ (l : List Int) (k : Int), k ∈ sortU l ↔ k ∈ l
  | [], k => by simp [sortU]
  | x :: r, k => by
    show k ∈ insU x (sortU r) ↔ _
    rw [mem_insU, mem_sortU r k, List.mem_cons]
theorem sortU_sorted : ∀ l : List Int, (sortU l).Pairwise (· < ·)
  | [] => .nil
  | x :: r => insU_sorted x _ (sortU_sorted r)
theorem sortedU_unique {l m : List Int} (h1 : l.Pairwise (· < ·)) (h2 : m.Pairwise (· < ·)) (h : ∀ k, k ∈ l ↔ k ∈ m) : l = m := by
  have n1 : l.Nodup := h1.imp fun h => Int.ne_of_lt h
  have n2 : m.Nodup := h2.imp fun h => Int.ne_of_lt h
  exact sorted_unique ((List.perm_ext_iff_of_nodup n1 n2).mpr h) (h1.imp fun h => Int.le_of_lt h) (h2.imp fun h => Int.le_of_lt h)
end
end Iv
end
section
set_option Elab.async false
set_option linter.all false
/-! set(list of «ints»), sum of lists, isinstance, repr. My own work. -/
namespace Iv
open PySem L2
open PySem (Str)
namespace Raw
open PyProof.Rows
section
variable {P : Program} {w : World} {A : Around} {E : Value → Shared → Prop} {s : Shared}
/-- T(..): the new object, then its init, whatever its check is -/
theorem type_call {T nw ini : String} {args : List Value} {Q Q1 : Value → Shared → Prop} (ft : TypeCalled T nw ini) (ok : checkTypeCall T ⟨args, []⟩ = pure ())
    (born : codeAny (model P w) A.in1 (.call (.builtin nw) ⟨.type T :: args, []⟩) (wants Q1 E) s)
    (then_ : ∀ o s1, Q1 o s1 → s1.TypeIs o T ∧ codeAny (model P w) A.in1 (.call (.builtin ini) ⟨o :: args, []⟩) (wants (fun r s2 => r = .none ∧ Q o s2) E) s1) :
    wpAny (model P w) A (call (.type T) args) Q E s := by
  have ⟨c0, tl0, m0⟩ := ft.mro
  have f1 := ft.made
  have f2 := ft.sub
  have f3 := ft.notType
  have f4 := ft.canCreate
  have q0 : (Code.builtin "type.__call__" ⟨.type T :: args, []⟩).quiet = true := Code.quiet_builtin _ (by decide +kernel)
  refine wpAny_call (codeAny_of_tree (show wpAny _ _ (callAny (.type T) _) _ _ _ from wpAny_pure ⟨q0, codeAny_builtin F.entry_type_call ?_⟩))
  rw [Around.under_plain (weight_type_call_type T args []) rfl]
  repeat (any_goals (first | wp_step | assumption))
  refine codeAny_mono born fun a t ha => ?_
  match a, ha with
  | .error e, ha => exact ha
  | .ok (.ret o), ha =>
    have ⟨ty, go⟩ := then_ o t ha
    have f5 := ft.init.lookup
    have f6 := ft.init.bind o
    repeat (any_goals (first | wp_step | assumption))
    refine codeAny_mono go fun b u hb => ?_
    match b, hb with
    | .error e, hb => exact hb
    | .ok (.ret r), hb =>
      have ⟨e, q⟩ := hb
      subst e
      repeat (any_goals (first | wp_step | assumption))
def newSet (w : World) : Obj := { cls := .type "set", dict := none, data := .set #[] 0 (.fresh 0 0 (!w.params.followText "set-order")) }
set_option maxRecDepth 100000 in
set_option maxHeartbeats 3200000 in
theorem set_ints {l : Addr} {its : Array Value} (ns : List Int) {Q : Value → Shared → Prop} (hh : A.handled = none) (hl : s.heap.IsList l its) (hi : IntsAre its.toList ns) (hb : ns.length + 1 < scanBound)
    (h : ∀ (h' : Heap) (tk c : Nat), SetR w h' s.heap.objs.size (fun j => decide (j ∈ ns)) c → (∀ b o, s.heap.get? b = some o → h'.get? b = some o) → Q (.ref s.heap.objs.size) { s with heap := h', toks := tk }) :
    wpAny (model P w) A (call (.type "set") [.ref l]) Q E s := by
  have new : (s.heap.push (newSet w)).get? s.heap.objs.size = some (newSet w) := Heap.get?_push_size _ rfl
  refine type_call (Q1 := fun obj s₁ => obj = .ref s.heap.objs.size ∧ s₁ = { s with heap := s.heap.push (newSet w) }) F.called_set (F.typeCall_set_1 _) (code_set_led1 (.ref l) ⟨rfl, rfl⟩) ?_
  rintro _ _ ⟨rfl, rfl⟩
  have hT : Shared.TypeIs { s with heap := s.heap.push (newSet w) } (.ref s.heap.objs.size) "set" := ⟨_, new, rfl⟩
  refine ⟨hT, codeAny_call_builtin F.called_set.init.plain F.entry_set_init (check_set_init_1 hT ?_)⟩
  have szE : its.size = ns.length := by have z := IntsAre.length hi; rwa [Array.length_toList] at z
  have lt : l < s.heap.objs.size := by obtain ⟨_, e, _⟩ := hl; exact Heap.lt_size e
  have up : Heap.IsList (s.heap.push (newSet w)) l its := hl.push _
  have sz1 : (s.heap.push (newSet w)).objs.size = s.heap.objs.size + 1 := Heap.size_push ..
  obtain ⟨⟨_, od, _, osl⟩, ho, hc, n, hd⟩ := up
  simp only at hc hd
  subst hc hd
  have up : Heap.IsList (s.heap.push (newSet w)) l its := ⟨_, ho, rfl, n, rfl⟩
  have no1 := F.sub_list_set
  have no2 := F.sub_list_frozenset
  have no3 : (Value.type "list" == Value.type "dict") = false := by decide
  unfold Builtin.«set.__init__» noKeywords Builtin.Frozenset.updateFrom
  generalize hk : pyIter = PI
  wp_walk
  subst hk
  refine wpAny_pyIter_list up ?_
  refine wpAny_bind (wpAny_runValue ?_)
  have h3 : A.in1.in1.in1.handled = none := by simpa using hh
  refine set_update_ints ((Walks.list h3 (s.heap.push (newSet w)).objs.size l (by rw [sz1]; exact Nat.ne_of_lt (Nat.lt_succ_of_lt lt)) its).toS) s.heap.objs.size (by rw [sz1]; simp only [List.mem_cons, List.not_mem_nil, or_false, not_or]; exact ⟨Nat.ne_of_lt (Nat.lt_succ_self _), Nat.ne_of_gt lt⟩) ns szE hb ?_ (its.size - 0) 0 _ rfl (Nat.zero_le _)
    ⟨⟨_, Heap.get?_push_size _ rfl, rfl, rfl⟩, up.push _⟩ ⟨0, Nat.le_refl 0, setR_new_at (Heap.get?_push_of_some _ new)⟩ ?_
  · intro i v hv
    have lti : i < ns.length := szE ▸ (Array.getElem?_eq_some_iff.mp hv).1
    obtain ⟨t, e⟩ := PyProof.Rows.IntsAre.int_at hi i v (by rw [Array.getElem?_toList]; exact hv)
    exact ⟨_, t, List.getElem?_eq_getElem lti, by rw [e, List.getD_eq_getElem?_getD, List.getElem?_eq_getElem lti, Option.getD_some]⟩
  · rintro ⟨h2, g2, d2, t2, o2⟩ c mv _ R2
    obtain rfl : g2 = s.gens := mv.gens
    obtain rfl : d2 = s.drawn := mv.drawn
    obtain rfl : o2 = s.os := mv.os
    refine wpAny_pure (show wpAny _ _ (ret Value.none) _ _ _ from wpAny_pure ⟨rfl, h h2 t2 c R2 fun b o e => ?_⟩)
    have bl := Heap.lt_size e
    refine mv.heap b o ?_ (Heap.get?_push_of_some _ (Heap.get?_push_of_some _ e))
    rw [sz1]
    simp only [List.mem_cons, List.not_mem_nil, or_false, not_or]
    exact ⟨Nat.ne_of_lt bl, Nat.ne_of_lt (Nat.lt_succ_of_lt bl)⟩
end
section
variable {P : Program} {w : World} {A : Around} {E : Value → Shared → Prop} {s : Shared} {R : Result → Shared → Prop}
def lOb (ys : List Value) (n : Nat) : Obj := { cls := .type "list", data := .seq ys.toArray n }
set_option maxRecDepth 100000 in
theorem sumL_loop {I l S : Addr} {items : Array Value} {L : List (List Value)} (hh : A.in1.handled = none) (hne : l ≠ I) (hSI : S ≠ I) (hSl : S ≠ l) (hlen : items.size = L.length) :
    ∀ (k i : Nat) (s : Shared) (T c cT : Nat) (acc : List Value), L.length - i = k → i ≤ L.length → s.heap.IsListIter I l i → s.heap.IsList l items →
      s.heap.get? S = some (lOb [Value.ref T] c) → T ≠ I → T ≠ S → s.heap.get? T = some (lOb acc cT) →
      (∀ (j : Nat) (ys : List Value), L[j]? = some ys → ∃ b n, items[j]? = some (Value.ref b) ∧ b ≠ I ∧ b ≠ S ∧ s.heap.get? b = some (lOb ys n)) → (acc ++ (L.drop i).flatten).length ≤ sizeLine →
      (∀ h' tk T' c', (∀ b o, b ≠ I → b ≠ S → s.heap.get? b = some o → h'.get? b = some o) → h'.get? T' = some (lOb (acc ++ (L.drop i).flatten) c') → ((i = L.length ∧ T' = T) ∨ s.heap.get? T' = none) →
        R (.ok (.ret (.ref T'))) { s with heap := h', toks := tk }) →
      codeAny (model P w) A (.builtin "sum.loop" ⟨[.ref I, .ref S, rawInt 2, rawInt 0], []⟩) R s := by
  have WL := Walks.list (prog := P) (w := w) hh I l hne items
  intro k
  induction k with
  | zero =>
    intro i s T c cT acc hk hi it ol oS tI tS oT os sz hR
    obtain rfl : i = L.length := by omega
    refine codeAny_builtin F.entry_sum_loop ?_
    rw [Around.under_plainId F.plain_sum_loop _]
    refine wpAny_bind (m := seqItems? (.ref S)) (wpAny_seqItems oS rfl (wpAny_bind (m := tryCatch (pyNext (.ref I)) _) (wpAny_tryCatch (WL.done s _ _ ⟨hlen ▸ it, ol⟩ fun h1 tk k1 => wpAny_pure ?_))))
    have keep : ∀ b o, b ≠ I → b ≠ S → s.heap.get? b = some o → h1.get? b = some o := fun b o n1 _ e => k1 b o (by simpa using n1) e
    exact hR h1 tk T cT keep (by rw [List.drop_length, List.flatten_nil, List.append_nil]; exact keep T _ tI tS oT) (.inl ⟨rfl, rfl⟩)
  | succ k ih =>
    intro i s T c cT acc hk hi it ol oS tI tS oT os sz hR
    have lt : i < L.length := by omega
    refine codeAny_builtin F.entry_sum_loop ?_
    rw [Around.under_plainId F.plain_sum_loop _]
    refine wpAny_bind (m := seqItems? (.ref S)) (wpAny_seqItems oS rfl (wpAny_bind (m := tryCatch (pyNext (.ref I)) _) (wpAny_tryCatch (WL.item i s _ _ (by omega) ⟨it, ol⟩ fun v h1 tk hv st k1 => ?_))))
    obtain ⟨b, n, e1, bI, bS, ob⟩ := os i _ (List.getElem?_eq_getElem lt)
    obtain rfl : v = .ref b := by rw [e1] at hv; exact (Option.some.inj hv).symm
    have keep1 : ∀ b o, b ≠ I → s.heap.get? b = some o → h1.get? b = some o := fun b o n1 e => k1 b o (by simpa using n1) e
    have ed : (L.drop i).flatten = L[i] ++ (L.drop (i + 1)).flatten := by rw [List.drop_eq_getElem_cons lt, List.flatten_cons]
    have sz2 : (acc ++ L[i] ++ (L.drop (i + 1)).flatten).length ≤ sizeLine := by rw [List.append_assoc, ← ed]; exact sz
    have sz3 : acc.toArray.size + (L[i]).toArray.size ≤ sizeLine := by
      simp only [List.length_append, List.size_toArray] at sz2 ⊢; omega
    refine wpAny_bind (m := Sem.attempt (holding [Value.ref b] (binaryOp .Add (.ref T) (.ref b)))) (wpAny_attempt (wpAny_holding (PySem.P.add_list (keep1 T _ tI oT) (keep1 b _ bI ob) ?_ sz3)))
    have fresh : h1.get? h1.objs.size = none := Heap.get?_none_of_le (Nat.le_refl _)
    have ln : L.length - (i + 1) = k := by omega
    have nI : h1.objs.size ≠ I := fun e => by obtain ⟨_, q, _⟩ := st.1; rw [← e, fresh] at q; cases q
    have nS : h1.objs.size ≠ S := fun e => by have q := keep1 S _ hSI oS; rw [← e, fresh] at q; cases q
    have nl : I ≠ S := Ne.symm hSI
    have pS := Heap.get?_push_of_some (lOb (acc ++ L[i]) 0) (keep1 S _ hSI oS)
    have aa : acc.toArray ++ L[i].toArray = (acc ++ L[i]).toArray := by simp
    rw [aa]
    have u1 := Heap.get?_update_self (Obj.mapSeq fun _ => #[Value.ref h1.objs.size]) pS rfl
    refine wpAny_bind (m := updateSeq S _) (wpAny_updateSeq pS rfl (wpAny_bind (wpAny_letGo ?_)))
    refine wpAny_bind (m := updateSeq S _) (wpAny_updateSeq u1 rfl ?_)
    have u2 := Heap.get?_update_self (Obj.mapSeq fun _ => #[Value.ref h1.objs.size]) u1 rfl
    have keep2 : ∀ b o, b ≠ S → (h1.push (lOb (acc ++ L[i]) 0)).get? b = some o → (((h1.push (lOb (acc ++ L[i]) 0)).update S (Obj.mapSeq fun _ => #[Value.ref h1.objs.size])).update S (Obj.mapSeq fun _ => #[Value.ref h1.objs.size])).get? b = some o := fun b o nb e =>
      (Heap.get?_update_other _ _ (Ne.symm nb)).trans ((Heap.get?_update_other _ _ (Ne.symm nb)).trans e)
    have keep3 : ∀ b o, b ≠ I → b ≠ S → s.heap.get? b = some o → _ := fun b o n1 n2 e => keep2 b o n2 (Heap.get?_push_of_some _ (keep1 b o n1 e))
    refine wpAny_pure ⟨plainId_quiet F.plain_sum_loop _, ih (i + 1) _ h1.objs.size _ 0 (acc ++ L[i]) ln lt ?_ ?_ u2 nI nS (keep2 _ _ nS (Heap.get?_push_size _ rfl)) ?_ sz2 ?_⟩
    · exact st.1.at fun o e => keep2 _ _ nl (Heap.get?_push_of_some _ e)
    · exact st.2.at fun o e => keep2 _ _ (Ne.symm hSl) (Heap.get?_push_of_some _ e)
    · intro j ys hj
      obtain ⟨b', n', q1, q2, q3, q4⟩ := os j ys hj
      exact ⟨b', n', q1, q2, q3, keep3 b' _ q2 q3 q4⟩
    · intro h' tk' T' c' kk oT' fr
      refine hR h' tk' T' c' (fun b o n1 n2 e => kk b o n1 n2 (keep3 b o n1 n2 e)) (by rw [ed, ← List.append_assoc]; exact oT') (.inr ?_)
      have back : (h1.push (lOb (acc ++ L[i]) 0)).get? T' = none ∨ T' = h1.objs.size → s.heap.get? T' = none := fun z => by
        cases e : s.heap.get? T' with
        | none => rfl
        | some o =>
          exfalso
          by_cases nI' : T' = I
          · subst nI'
            rcases z with z | z
            · obtain ⟨oo, q, _⟩ := st.1
              rw [Heap.get?_push_of_some _ q] at z; cases z
            · exact nI z.symm
          · have q := keep1 T' o nI' e
            rcases z with z | z
            · rw [Heap.get?_push_of_some _ q] at z; cases z
            · rw [z, fresh] at q; cases q
      rcases fr with ⟨_, e⟩ | fr
      · exact back (.inr e)
      · refine back (.inl ?_)
        cases e : (h1.push (lOb (acc ++ L[i]) 0)).get? T' with
        | none => rfl
        | some o =>
          exfalso
          by_cases nS' : T' = S
          · subst nS'
            exact absurd (u2.symm.trans fr) (fun z => by cases z)
          · exact absurd ((keep2 T' o nS' e).symm.trans fr) (fun z => by cases z)
theorem args_sum2 (a b : Value) : argsOk "sum" ⟨[a, b], []⟩ := by unfold argsOk; kernel_rfl
theorem sum_lists {l z : Addr} {items : Array Value} {L : List (List Value)} {n0 : Nat} {Q : Value → Shared → Prop} (hh : A.handled = none) (ol : s.heap.IsList l items) (hlen : items.size = L.length) (hL : L ≠ []) (oz : s.heap.get? z = some (lOb [] n0))
    (os : ∀ (j : Nat) (ys : List Value), L[j]? = some ys → ∃ b n, items[j]? = some (Value.ref b) ∧ s.heap.get? b = some (lOb ys n)) (sz : L.flatten.length ≤ sizeLine)
    (h : ∀ h' tk T c, (∀ b o, s.heap.get? b = some o → h'.get? b = some o) → h'.get? T = some (lOb L.flatten c) → s.heap.get? T = none → Q (.ref T) { s with heap := h', toks := tk }) :
    wpAny (model P w) A (call (.builtin "sum") [.ref l, .ref z]) Q E s := by
  refine call_function_tree F.kind_sum F.plain_sum F.entry_sum (args_sum2 _ _) ?_
  unfold Builtin.«sum»
  simp only [List.length_cons, List.length_nil]
  rw [if_neg (by decide)]
  refine wpAny_bind (wpAny_of_eq (show Builtin.Builtins.bindParams "sum" ["start"] 0 ⟨[.ref z], []⟩ = pure [some (.ref z)] from rfl) ?_)
  refine wpAny_bind (wpAny_pyIter_list ol ?_)
  have tz : ∀ h, (∀ b o, s.heap.get? b = some o → h.get? b = some o) → Shared.TypeIs { s with heap := h } (.ref z) "list" := fun h k => ⟨_, k _ _ oz, rfl⟩
  have k1 : ∀ b o, s.heap.get? b = some o → (s.heap.push { cls := .type "list_iterator", data := .fields #[.ref l, .int 0 0] }).get? b = some o := fun b o e => Heap.get?_push_of_some _ e
  refine wpAny_bind (wpAny_pure ?_)
  simp only [List.forIn_cons, List.forIn_nil]
  refine wpAny_bind (wpAny_bind (wpAny_bind (wpAny_isInstance (T := "list") (b := false) (tz _ k1) F.sub_list_str ?_)))
  simp only [Bool.false_eq_true, if_false]
  refine wpAny_pure (wpAny_bind (wpAny_bind (wpAny_isInstance (T := "list") (b := false) (tz _ k1) F.sub_list_bytes ?_)))
  simp only [Bool.false_eq_true, if_false]
  refine wpAny_pure (wpAny_bind (wpAny_bind (wpAny_isInstance (T := "list") (b := false) (tz _ k1) F.sub_list_bytearray ?_)))
  simp only [Bool.false_eq_true, if_false]
  refine wpAny_pure (wpAny_pure ?_)
  refine wpAny_bind (wpAny_newList ?_)
  have lz : ∀ {b o}, s.heap.get? b = some o → b < s.heap.objs.size := fun e => Heap.lt_size e
  have sI : (s.heap.push { cls := .type "list_iterator", data := .fields #[.ref l, .int 0 0] }).objs.size = s.heap.objs.size + 1 := Heap.size_push ..
  have ll : l < s.heap.objs.size := by obtain ⟨_, e, _⟩ := ol; exact lz e
  have k2 : ∀ b o, s.heap.get? b = some o → ((s.heap.push { cls := .type "list_iterator", data := .fields #[.ref l, .int 0 0] }).push (lOb [.ref z] 0)).get? b = some o := fun b o e => Heap.get?_push_of_some _ (k1 b o e)
  have oI : ((s.heap.push { cls := .type "list_iterator", data := .fields #[.ref l, .int 0 0] }).push (lOb [.ref z] 0)).IsListIter s.heap.objs.size l 0 := ⟨_, Heap.get?_push_of_some _ (Heap.get?_push_size _ rfl), rfl, rfl⟩
  refine wpAny_pure ⟨plainId_quiet F.plain_sum_loop _, sumL_loop (I := s.heap.objs.size) (l := l) (S := (s.heap.push { cls := .type "list_iterator", data := .fields #[.ref l, .int 0 0] }).objs.size) (items := items) (L := L) (by simpa using hh) (Nat.ne_of_lt ll)
    (by rw [sI]; exact Nat.succ_ne_self _) (by rw [sI]; exact Nat.ne_of_gt (Nat.lt_succ_of_lt ll)) hlen (L.length - 0) 0 _ z 0 n0 [] rfl (Nat.zero_le _) oI (ol.at fun o e => k2 _ o e) (Heap.get?_push_size _ rfl) (Nat.ne_of_lt (lz oz)) (by rw [sI]; exact Nat.ne_of_lt (Nat.lt_succ_of_lt (lz oz)))
    (k2 _ _ oz) (fun j ys hj => ?_) (by simpa using sz) fun h' tk T c kk oT fr => ?_⟩
  · obtain ⟨b, n, e1, e2⟩ := os j ys hj
    exact ⟨b, n, e1, Nat.ne_of_lt (lz e2), by rw [sI]; exact Nat.ne_of_lt (Nat.lt_succ_of_lt (lz e2)), k2 _ _ e2⟩
  · refine h h' tk T c (fun b o e => kk b o (Nat.ne_of_lt (lz e)) (by rw [sI]; exact Nat.ne_of_lt (Nat.lt_succ_of_lt (lz e))) (k2 b o e)) oT ?_
    rcases fr with ⟨e, _⟩ | fr
    · exact absurd (List.length_eq_zero_iff.mp e.symm) hL
    · cases e : s.heap.get? T with
      | none => rfl
      | some o => exact absurd ((k2 T o e).symm.trans fr) (fun z => by cases z)
end

end Raw

section
variable {α β : Type} {X : Cx} {W : WX} {Ca : Cn} {g : G} {e a b c : Expr} {es : List Expr} {pos : Pos}
/-! ### sorted(set(xs)) -/
def rSetI (K : PySem.W.Frag) (w : World) : List V → Hp → VK → Prop := fun vs H Q => ∃ (a : Addr) (ns : List Int), vs = [V.ref a] ∧ SqL K H a (ns.map V.int) ∧ ns.length < 4000 ∧
  ∀ p, H p = none → Q (.ref p) (upd H p (SetO w p (fun j => decide (j ∈ ns)) (sortU ns).length))
theorem setR_size {w : World} {h : Heap} {p : Addr} {ns : List Int} {c : Nat} (R : SetR w h p (fun j => decide (j ∈ ns)) c) : c = (sortU ns).length := by
  obtain ⟨o, es, ep, t, _, _, _, _, nd, mem, _, _, sz, _⟩ := R
  have n2 : (sortU ns).Nodup := (sortU_sorted ns).imp fun h => Int.ne_of_lt h
  have pm : (es.toList.map L2.keyOf).Perm (sortU ns) := (List.perm_ext_iff_of_nodup nd n2).mpr fun k => by
    rw [← mem k, mem_sortU]
    simp
  have z := pm.length_eq
  rw [List.length_map, Array.length_toList, sz] at z
  exact z
theorem cr_setI (hc : X.calm = true) : CallR X (.type "set") (rSetI X.K X.w) := by
  intro pins s σ H vs us Q I r h
  obtain ⟨a, ns, rfl, hs, small, q⟩ := h
  obtain ⟨its, rv, hl, hz⟩ := I.list hs
  rw [Vals.ref1 r]
  refine Raw.set_ints ns (I.ok.hd hc) hl.isList (by simpa using rv.ints) (by unfold scanBound; omega) fun h' tk c R k => ?_
  obtain rfl := setR_size R
  have hp : H s.heap.objs.size = none := I.hok.fresh (Nat.le_refl _)
  exact ⟨.ref _, _, I.laid (t' := tk) k (Nat.le_refl _) (setO_new R), rfl, q _ hp⟩
theorem sd_sortedSet {hfs : S → Res (List Hd)} {p p2 q : Pos} (hc : X.calm = true) (pl : plainX a = true) (g1 : Gl X "sorted") (m1 : X.mg "sorted" = none) (g2 : Gl X "set") (m2 : X.mg "set" = none) (ha : PHs X Ca W [a] hfs) :
    PEv X Ca W (.Call (.Name "sorted" p) [.Call (.Name "set" p2) [a] [] q] [] pos) fun s => (hfs s).bind fun hs s => Res.of ((s.args hs).bind fun as => bfun g s.μ .sortedSet as) s := by
  have st : plainXs [a] = true := by unfold plainXs; rw [List.all_cons, pl]; rfl
  have i1 := pe_callTy (pos := q) (p := p2) (cr_setI hc) g2 m2 (by decide +kernel) ha (by decide) (by decide) (star_cons pl) (star_any (es := []) rfl)
  have i2 := pe_callB (pos := pos) (p := p) (cr_sortedSet hc) g1 m1 (by decide +kernel) (pa_cons i1 pa_nil (star_cons rfl)) (by decide) (by decide) (star_cons rfl) (star_any rfl)
  refine PE.imp i2 fun σ H Q ⟨Pr, F, ρ, s, S, w⟩ => ?_
  refine ⟨Pr, F, ρ, s, S, (Ans.bind (Rl := RHs Ca Pr σ) w).mono ?_⟩
  rintro vs H1 ⟨hs, s1, F1, ρ1, gr, S1, r1, w1⟩
  obtain ⟨z, ez, w2⟩ := Ans.of w1
  cases ea : s1.args hs with
  | none => rw [ea] at ez; cases ez
  | some ps =>
    rw [ea, Option.bind_some] at ez
    have r := args_of S1 r1 ea
    rcases ps with _ | ⟨⟨d0, d⟩, _ | ⟨⟨d1, d2⟩, rest⟩⟩ <;> (try (simp only [bfun, reduceCtorEq] at ez; done))
    cases d <;> simp only [bfun, reduceCtorEq, Option.some.injEq] at ez
    rename_i xs
    obtain ⟨v, rfl, _, r2⟩ := pair1 r
    obtain ⟨l, vs, rfl, h, rl⟩ := r2.lst
    cases ei : Iv.ints xs with
    | none => rw [ei] at ez; cases ez
    | some ns =>
      rw [ei, Option.bind_some] at ez
      split at ez
      · rename_i hz
        simp only [Option.some.injEq] at ez; subst ez
        obtain ⟨rfl, _⟩ := rl.ints ei
        refine ⟨l, ns, rfl, SqL.of h, hz.2, fun p1 hp1 => ⟨p1, _, _, rfl, upd_same, hz.1, fun ms p2 so mem len hp2 => ?_⟩⟩
        obtain rfl : ms = sortU ns := sortedU_unique so (sortU_sorted ns) fun k => by rw [mem, mem_sortU]; simp
        have S2 := S1.new (o := SetO X.w p1 (fun j => decide (j ∈ ns)) (sortU ns).length) hp1
        obtain ⟨S3, g3, t⟩ := S2.newL hp2 (RepL.ofInts (sortU ns))
        exact w2 _ _ _ _ ((Gr.upd (S1.fresh_F hp1)).trans g3) S3 t
      · cases ez

/-! ### sum(lists, []) -/
def rSumL (K : PySem.W.Frag) : List V → Hp → VK → Prop := fun vs H Q => ∃ (a z : Addr) (ls : List Addr) (L : List (List V)), vs = [V.ref a, V.ref z] ∧ H a = some (.lst (ls.map V.ref)) ∧ H z = some (.lst []) ∧ ls.length = L.length ∧ L ≠ [] ∧
  (∀ (j : Nat) (b : Addr) (ys : List V), ls[j]? = some b → L[j]? = some ys → H b = some (.lst ys)) ∧ L.flatten.length ≤ sizeLine ∧ ∀ p, H p = none → Q (.ref p) (upd H p (.lst L.flatten))
theorem vals_refs : ∀ {ls : List Addr} {us : List Value}, Vals (ls.map V.ref) us → us = ls.map Value.ref
  | [], _, .nil => rfl
  | b :: ls, _, .cons r t => by
    cases r
    rw [vals_refs t]; rfl
theorem cr_sumL (hc : X.calm = true) : CallR X (.builtin "sum") (rSumL X.K) := by
  intro pins s σ H vs us Q I r h
  obtain ⟨a, z, ls, L, rfl, ha, hz, len, ne, mem, sz, q⟩ := h
  obtain ⟨u1, u2, rfl, rfl, rfl⟩ := vals2 r
  obtain ⟨_, its, n, rv, ol⟩ := I.hok a _ ha
  obtain ⟨_, zs, nz, rz, oz⟩ := I.hok z _ hz
  obtain rfl := vals_refs rv
  cases rz
  -- what each list holds in the heap
  have each : ∀ (j : Nat) (b : Addr) (ys : List V), ls[j]? = some b → L[j]? = some ys → ∃ us n, Vals ys us ∧ s.heap.get? b = some (Raw.lOb us n) := fun j b ys h1 h2 => by
    obtain ⟨_, us, n, rr, oo⟩ := I.hok b _ (mem j b ys h1 h2)
    exact ⟨us, n, rr, oo⟩
  have all : ∀ (ls : List Addr) (L : List (List V)), ls.length = L.length → (∀ (j : Nat) (b : Addr) (ys : List V), ls[j]? = some b → L[j]? = some ys → ∃ us n, Vals ys us ∧ s.heap.get? b = some (Raw.lOb us n)) →
      ∃ LU : List (List Value), LU.length = L.length ∧ Vals L.flatten LU.flatten ∧ ∀ (j : Nat) (us : List Value), LU[j]? = some us → ∃ b n, (ls.map Value.ref)[j]? = some (Value.ref b) ∧ s.heap.get? b = some (Raw.lOb us n) := by
    intro ls
    induction ls with
    | nil =>
      intro L e _
      obtain rfl : L = [] := List.length_eq_zero_iff.mp e.symm
      exact ⟨[], rfl, .nil, fun j us h => by simp at h⟩
    | cons b ls ih =>
      intro L e f
      cases L with
      | nil => simp at e
      | cons ys L =>
        obtain ⟨us, n, rr, oo⟩ := f 0 b ys rfl rfl
        obtain ⟨LU, e1, e2, e3⟩ := ih L (by simpa using e) fun j b ys h1 h2 => f (j + 1) b ys (by simpa using h1) (by simpa using h2)
        refine ⟨us :: LU, by simp [e1], by rw [List.flatten_cons, List.flatten_cons]; exact rr.append e2, fun j vs h => ?_⟩
        cases j with
        | zero =>
          obtain rfl : us = vs := by simpa using h
          exact ⟨b, n, rfl, oo⟩
        | succ j =>
          obtain ⟨b', n', q1, q2⟩ := e3 j vs (by simpa using h)
          exact ⟨b', n', by simpa using q1, q2⟩
  obtain ⟨LU, e1, e2, e3⟩ := all ls L len each
  have szU : LU.flatten.length ≤ sizeLine := by rw [← e2.length]; exact sz
  refine Raw.sum_lists (L := LU) (n0 := nz) (I.ok.hd hc) (⟨_, ol, rfl, n, rfl⟩ : s.heap.IsList a (ls.map Value.ref).toArray) (by simp [e1, len]) (fun z => ne (List.length_eq_zero_iff.mp (by rw [← e1, z]; rfl))) oz (fun j ys hj => by simpa using e3 j ys hj) szU fun h' tk T c k oT fr => ?_
  have hT : H T = none := HOk.gone I.hok fr
  exact ⟨.ref T, _, I.laidN (t' := tk) k fr hT (show ObjOk X.prog X.w (upd H T (.lst L.flatten)) h' T (.lst L.flatten) from ⟨sz, _, c, e2, oT⟩), rfl, q T hT⟩
theorem lists_of {F : Addr → Prop} {ρ : List Addr} {H : Hp} : ∀ {xs : List D} {vs : List V} {l : List D}, RepL Ca F ρ H xs vs → lists xs = some l → ∃ (ls : List Addr) (L : List (List V)), vs = ls.map V.ref ∧ ls.length = L.length ∧ xs.length = L.length ∧
    (∀ (j : Nat) (b : Addr) (ys : List V), ls[j]? = some b → L[j]? = some ys → H b = some (.lst ys)) ∧ RepL Ca F ρ H l L.flatten
  | [], vs, l, h, e => by
    simp only [RepL] at h; subst h
    simp only [lists, Option.some.injEq] at e; subst e
    exact ⟨[], [], rfl, rfl, rfl, fun j b ys h => by simp at h, .nil⟩
  | x :: xs, vs, l, h, e => by
    simp only [RepL] at h
    obtain ⟨v, r, rfl, rx, rl⟩ := h
    cases x <;> simp only [lists, reduceCtorEq] at e
    rename_i ys
    cases e2 : lists xs with
    | none => rw [e2] at e; cases e
    | some m =>
      rw [e2, Option.map_some, Option.some.injEq] at e; subst e
      obtain ⟨ls, L, rfl, h1, h2, h3, h4⟩ := lists_of rl e2
      simp only [Rep] at rx
      obtain ⟨b, us, rfl, _, hb, ru⟩ := rx
      refine ⟨b :: ls, us :: L, rfl, by simp [h1], by simp [h2], fun j b' ys' q1 q2 => ?_, by rw [List.flatten_cons]; exact ru.app h4⟩
      cases j with
      | zero =>
        obtain rfl : b = b' := by simpa using q1
        obtain rfl : us = ys' := by simpa using q2
        exact hb
      | succ j => exact h3 j b' ys' (by simpa using q1) (by simpa using q2)
theorem sd_sumL {hf : S → Res Hd} {p q : Pos} (hc : X.calm = true) (pl : plainX a = true) (g1 : Gl X "sum") (m1 : X.mg "sum" = none) (ha : PHv X Ca W a hf) :
    PEv X Ca W (.Call (.Name "sum" p) [a, .List [] q] [] pos) fun s => ((hf s).bind fun h s => .ok [h] s).bind fun hs s => Res.of ((s.args hs).bind fun as => bfun g s.μ .sumL as) s := by
  have i1 := pe_callB (pos := pos) (p := p) (cr_sumL hc) g1 m1 (by decide +kernel) (pa_cons ha (pa_cons (pe_lst (pos := q) pa_nil) pa_nil (star_cons rfl)) (star_cons pl)) (by decide) (by decide) (star_cons pl) (star_any (es := [.List [] q]) rfl)
  refine PE.imp i1 fun σ H Q ⟨Pr, F, ρ, s, S, w⟩ => ?_
  dsimp only at w
  rw [Res.assoc] at w
  refine ⟨Pr, F, ρ, s, S, (Ans.bind (Rl := RH Ca Pr σ) w).mono ?_⟩
  rintro v H1 ⟨h, s1, F1, ρ1, gr, S1, r1, w1⟩
  refine ⟨by simp, fun z hz => ?_⟩
  obtain ⟨x, ez, w2⟩ := Ans.of (show Ans Ca W Pr σ (RV Ca Pr σ) F1 ρ1 H1 (Res.of ((s1.args [h]).bind fun as => bfun g s1.μ .sumL as) s1) Q from w1)
  obtain ⟨S2, g2, _⟩ := S1.newL hz RepL.nil
  cases ea : s1.args [h] with
  | none => rw [ea] at ez; cases ez
  | some ps =>
    rw [ea, Option.bind_some] at ez
    have r := args_of S2 (.cons (HdR.mono g2 r1) .nil) ea
    rcases ps with _ | ⟨⟨d0, d⟩, _ | ⟨⟨d1, d2⟩, rest⟩⟩ <;> (try (simp only [bfun, reduceCtorEq] at ez; done))
    cases d <;> simp only [bfun, reduceCtorEq, Option.some.injEq] at ez
    rename_i xs
    obtain ⟨v, e, _, r2⟩ := pair1 r
    cases e
    obtain ⟨l, vs, rfl, hl, rl⟩ := r2.lst
    cases ei : lists xs with
    | none => rw [ei] at ez; cases ez
    | some m =>
      rw [ei, Option.bind_some] at ez
      split at ez
      · rename_i hsz
        simp only [Option.some.injEq] at ez; subst ez
        obtain ⟨ls, L, rfl, h1, h2, h3, h4⟩ := lists_of rl ei
        have ne : L ≠ [] := fun e => by
          subst e
          have : xs = [] := List.length_eq_zero_iff.mp h2
          rw [this] at hsz; exact absurd hsz.2 (by simp)
        refine ⟨l, z, ls, L, rfl, hl, upd_same, h1, ne, h3, h4.small hsz.1, fun p hp => ?_⟩
        obtain ⟨S3, g3, t⟩ := S2.newL hp h4
        exact w2 _ _ _ _ (g2.trans g3) S3 t
      · cases ez

/-! ### isinstance -/
def rIsX (K : PySem.W.Frag) : List V → Hp → VK → Prop := fun xs H Q => ∃ (a D : Addr) (c : V) (u : Value) (b : Bool), xs = [.ref a, c] ∧ H a = some (ExcAt D a) ∧ ExcC K D ∧ ClsV c u ∧ PySem.W.kitOne K (.ref D) u = some b ∧ Q (.bl b) H
def rIsXT (K : PySem.W.Frag) : List V → Hp → VK → Prop := fun xs H Q => ∃ (a D tp : Addr) (cs : List V) (us : List Value) (b : Bool), xs = [.ref a, .ref tp] ∧ H a = some (ExcAt D a) ∧ ExcC K D ∧ H tp = some (.tup cs) ∧ Paired ClsV cs us ∧ PySem.W.kitAny K (.ref D) us = some b ∧ Q (.bl b) H
theorem exc_inst {pins : List (Addr × Obj)} {σ : L2.St} {H : Hp} {s : Shared} {a D : Addr} (I : Inv X pins σ H s) (ha : H a = some (ExcAt D a)) : ∃ oe, PySem.W.InstAt s.heap a oe D none := by
  obtain ⟨⟨oe, hget, hz, vs, hv⟩, _⟩ := I.hok a _ ha
  refine ⟨oe, ?_⟩
  obtain ⟨oc, od, oda, osl⟩ := oe
  obtain ⟨h1, h2⟩ := hz
  dsimp only at h1 h2 hv
  subst h1 h2 hv
  exact ⟨hget, rfl, rfl, trivial⟩
theorem cr_isX : CallR X (.builtin "isinstance") (rIsX X.K) := by
  intro pins s σ H xs us Q I r h
  obtain ⟨a, D, c, u, b, rfl, ha, C, k, e, q⟩ := h
  obtain ⟨u1, u2, rfl, rfl, r2⟩ := vals2 r
  obtain rfl := k.eq r2
  obtain ⟨oe, J⟩ := exc_inst I ha
  exact PySem.W.kia_one (PySem.W.handS_kitx_exc C.hg C.hk C.hs C.hd C.ha C.hn C.ht C.hm) I.kIn J e (fun z => nomatch z) fun tk => ⟨.bl b, H, I.tok tk, rfl, q⟩
theorem cr_isXT : CallR X (.builtin "isinstance") (rIsXT X.K) := by
  intro pins s σ H xs us Q I r h
  obtain ⟨a, D, tp, cs, ws, b, rfl, ha, C, hT, k, e, q⟩ := h
  obtain ⟨u1, u2, rfl, rfl, rfl⟩ := vals2 r
  obtain ⟨oe, J⟩ := exc_inst I ha
  obtain ⟨_, its, rv, o, h1, h2, n, h3⟩ := (show ObjOk X.prog X.w H s.heap tp (.tup cs) from I.hok tp _ hT)
  obtain rfl := ClsV.all k rv
  obtain ⟨oc, od, dt, sl⟩ := o
  simp only at h2 h3
  subst h2 h3
  exact PySem.W.kia_tup (PySem.W.handS_kitx_exc C.hg C.hk C.hs C.hd C.ha C.hn C.ht C.hm) I.kIn J h1 e (fun z => nomatch z) fun tk => ⟨.bl b, H, I.tok tk, rfl, q⟩
/-- the type of a value, as isinstance sees it -/
theorem ty_of {K : PySem.W.Frag} (w : Wld K Ca g) {Pr : Hp} {F : Addr → Prop} {ρ : List Addr} {s : Iv.S} {σ : L2.St} {H : Hp} (S : Sta Ca Pr F ρ s σ H) {d : D} {v : V} {t : String ⊕ Nat} (r : Con Ca F ρ H d v) (e : tyName g s.μ d = some t) :
    TyX K H v (tyV Ca t) ∨ ∃ a c, v = .ref a ∧ t = .inr c ∧ H a = some (ExcAt (Ca c) a) ∧ ExcC K (Ca c) := by
  cases d <;> simp only [tyName, reduceCtorEq, Option.some.injEq] at e
  · subst e
    have r := r.rep fun _ z => z
    simp only [Rep] at r; subst r; exact .inl (.base .non)
  · subst e
    rw [r.bl]; exact .inl (.base (.bl _))
  · subst e
    rw [r.int]; exact .inl (.base (.int _))
  · subst e
    rw [r.str]; exact .inl (.base (.str _))
  · subst e
    obtain ⟨a, vs, rfl, h, _⟩ := r.tup
    exact .inl (.base (.tup h))
  · subst e
    obtain ⟨a, vs, rfl, h, _⟩ := r.lst
    exact .inl (.base (.lst h))
  · subst e
    obtain ⟨a, vs, rfl, h, _⟩ := r.dK
    rcases h with h | ⟨o, h⟩
    · exact .inl (.base (.dK h))
    · exact .inl (.fDict h)
  · rename_i n
    have r := r.rep fun _ z => z
    simp only [Rep] at r
    obtain ⟨a, rfl, hρ⟩ := r
    split at e
    · rename_i xs hx
      simp only [Option.some.injEq] at e; subst e
      obtain ⟨vs, h, _⟩ := S.bx n _ a hx hρ
      exact .inl (.base (.lst h))
    · rename_i xs hx
      simp only [Option.some.injEq] at e; subst e
      obtain ⟨vs, h, _⟩ := S.bx n _ a hx hρ
      exact .inl (.base (.dK h))
    · rename_i c fs hx
      split at e
      · rename_i hi
        simp only [Option.some.injEq] at e; subst e
        obtain ⟨dx, ws, h, _⟩ := S.bx n _ a hx hρ
        obtain ⟨i1, i2, i3, i4, i5⟩ := w.ins c hi
        exact .inl (.base (.ins h i1 i2 i3 i4 i5))
      · cases e
    · cases e
  · rename_i c
    split at e
    · rename_i k hk
      split at e
      · cases e
      · rename_i hi
        simp only [Option.some.injEq] at e; subst e
        have r := r.rep fun _ z => z
        simp only [Rep] at r
        obtain ⟨a, rfl, _, h⟩ := r
        exact .inr ⟨a, c, rfl, rfl, h, w.exc c k hk (by simpa using hi)⟩
    · cases e
  · rename_i d
    subst e
    have r := r.rep fun _ z => z
    simp only [Rep] at r
    obtain ⟨p, _, rfl⟩ := r
    exact .inl (.base (.str _))
theorem cls_of {K : PySem.W.Frag} (w : Wld K Ca g) {F : Addr → Prop} {ρ : List Addr} {H : Hp} {t : String ⊕ Nat} {d : D} {v : V} {b : Bool} (r : Con Ca F ρ H d v) (e : isTy g t d = some b) : ClsV v (dV Ca d) ∧ PySem.W.kitOne K (tyV Ca t) (dV Ca d) = some b := by
  refine ⟨?_, w.kit e⟩
  cases d <;> simp only [isTy, reduceCtorEq] at e
  · have r := r.rep fun _ z => z
    simp only [Rep] at r; subst r; exact .ty _
  · have r := r.rep fun _ z => z
    simp only [Rep] at r; subst r; exact .own _
theorem any_of {K : PySem.W.Frag} (w : Wld K Ca g) {F : Addr → Prop} {ρ : List Addr} {H : Hp} {t : String ⊕ Nat} {b : Bool} : ∀ {cs : List D} {vs : List V}, RepL Ca F ρ H cs vs → isAny g t cs = some b → (∀ c ∈ cs, ∃ b', isTy g t c = some b') → Paired ClsV vs (cs.map (dV Ca)) ∧ PySem.W.kitAny K (tyV Ca t) (cs.map (dV Ca)) = some b
  | [], vs, l, e, _ => by
    simp only [RepL] at l; subst l
    simp only [isAny, Option.some.injEq] at e; subst e
    exact ⟨.nil, rfl⟩
  | c :: cs, vs, l, e, al => by
    simp only [RepL] at l
    obtain ⟨v, r, rfl, rc, rl⟩ := l
    obtain ⟨b', hb⟩ := al c List.mem_cons_self
    obtain ⟨k1, k2⟩ := cls_of w (.inl rc) hb
    have al2 : ∀ c ∈ cs, ∃ b', isTy g t c = some b' := fun c hc => al c (List.mem_cons_of_mem _ hc)
    have pr : ∀ {cs : List D} {vs : List V}, RepL Ca F ρ H cs vs → (∀ c ∈ cs, ∃ b', isTy g t c = some b') → Paired ClsV vs (cs.map (dV Ca)) := by
      intro cs
      induction cs with
      | nil => intro vs l _; simp only [RepL] at l; subst l; exact .nil
      | cons c cs ih =>
        intro vs l al
        simp only [RepL] at l
        obtain ⟨v, r, rfl, rc, rl⟩ := l
        obtain ⟨b', hb⟩ := al c List.mem_cons_self
        exact .cons (cls_of w (.inl rc) hb).1 (ih rl fun c hc => al c (List.mem_cons_of_mem _ hc))
    refine ⟨.cons k1 (pr rl al2), ?_⟩
    rw [List.map_cons]
    unfold PySem.W.kitAny
    rw [k2]
    simp only [isAny, hb] at e
    cases b' with
    | true => simpa using e
    | false => exact (any_of w rl e al2).2
theorem meets_isinst (w : Wld X.K Ca g) : MeetsB Ca W g .isinst (fun xs H Q => (rIsi X.K xs H Q ∨ rIsiT X.K xs H Q) ∨ (rIsX X.K xs H Q ∨ rIsXT X.K xs H Q)) := by
  intro Pr F ρ s σ H ps vs z Q S r e q
  rcases ps with _ | ⟨⟨x0, x1⟩, _ | ⟨⟨c, c1⟩, _ | ⟨pp, rest⟩⟩⟩ <;> (try (simp only [bfun, reduceCtorEq] at e; done))
  obtain ⟨v, u, rfl, ⟨r1, _⟩, ⟨r2, _⟩⟩ := pair2 r
  by_cases ht : ∃ cs, c = .tup cs
  · obtain ⟨cs, rfl⟩ := ht
    have e : (tyName g s.μ x0).bind (fun t => if cs.all (fun c => (isTy g t c).isSome) then (isAny g t cs).map fun b => ((false, D.bl b) : Bool × D) else none) = some z := e
    cases e1 : tyName g s.μ x0 with
    | none => rw [e1] at e; cases e
    | some t =>
      rw [e1, Option.bind_some] at e
      split at e
      · rename_i al
        cases e2 : isAny g t cs with
        | none => rw [e2] at e; cases e
        | some b =>
          rw [e2, Option.map_some, Option.some.injEq] at e; subst e
          obtain ⟨tp, us, rfl, h, l⟩ := r2.tup
          have al' : ∀ c ∈ cs, ∃ b', isTy g t c = some b' := fun c hc => Option.isSome_iff_exists.mp (List.all_eq_true.mp al c hc)
          obtain ⟨k1, k2⟩ := any_of w l e2 al'
          rcases ty_of w S r1 e1 with ty | ⟨a, D, rfl, rfl, hx, C⟩
          · exact .inl (.inr ⟨v, tp, us, _, _, b, rfl, h, k1, ty, k2, q.fin S (tmp_of (by simp only [Rep]))⟩)
          · exact .inr (.inr ⟨a, _, tp, us, _, b, rfl, hx, C, h, k1, k2, q.fin S (tmp_of (by simp only [Rep]))⟩)
      · cases e
  · have e' : (tyName g s.μ x0).bind (fun t => (isTy g t c).map fun b => ((false, D.bl b) : Bool × D)) = some z := by
      cases c <;> first | exact e | exact absurd ⟨_, rfl⟩ ht
    cases e1 : tyName g s.μ x0 with
    | none => rw [e1] at e'; cases e'
    | some t =>
      rw [e1, Option.bind_some] at e'
      cases e2 : isTy g t c with
      | none => rw [e2] at e'; cases e'
      | some b =>
        rw [e2, Option.map_some, Option.some.injEq] at e'; subst e'
        obtain ⟨k1, k2⟩ := cls_of w r2 e2
        rcases ty_of w S r1 e1 with ty | ⟨a, D, rfl, rfl, hx, C⟩
        · exact .inl (.inl ⟨v, u, _, _, b, rfl, k1, ty, k2, q.fin S (tmp_of (by simp only [Rep]))⟩)
        · exact .inr (.inl ⟨a, _, u, _, b, rfl, hx, C, k1, k2, q.fin S (tmp_of (by simp only [Rep]))⟩)
theorem cr_isinst : CallR X (.builtin "isinstance") (fun xs H Q => (rIsi X.K xs H Q ∨ rIsiT X.K xs H Q) ∨ (rIsX X.K xs H Q ∨ rIsXT X.K xs H Q)) := CallR.or (CallR.or call_isi call_isiT) (CallR.or cr_isX cr_isXT)
end
end Iv
end
section
set_option Elab.async false
set_option linter.all false
/-! repr; methods of lists and dicts; dict displays. My own work. -/
namespace Iv
open PySem L2
open PySem (Str)

section
variable {α β : Type} {X : Cx} {W : WX} {Ca : Cn} {g : G} {e a b c : Expr} {es : List Expr} {pos : Pos}
/-! ### repr -/
theorem pow2_10 : ∀ k : Nat, 2 ^ k ≤ 10 ^ k := fun k => Nat.pow_le_pow_left (by decide) k
theorem int_short (i : Int) : (PyData.shown (.int i)).length ≤ i.natAbs.log2 + 3 := by
  have h1 : i.natAbs < 10 ^ (i.natAbs.log2 + 1) := Nat.lt_of_lt_of_le Nat.lt_log2_self (pow2_10 _)
  have h2 := int_text_length_le10 (a := i) (Nat.succ_pos _) h1
  show (Str.ofString (toString i)).length ≤ _
  rw [ofString_length]; omega
/-- what repr asks of a tree and its text -/
structure Tells (h : Heap) (n : Nat) (d : D) (u : Value) (p : PyData) : Prop where
  py : toPy d = some p
  rd : ∃ as, Reads h u p as
  dp : p.depth ≤ n
  nd : p.hasDict = false
  sh : smallI n d = true → p.showable = true
  sz : p.shown.length ≤ szR n d
structure TellsL (h : Heap) (n : Nat) (ds : List D) (us : List Value) (ps : List PyData) : Prop where
  py : toPyL ds = some ps
  rd : ∃ as, ReadsAll h us ps as
  dp : PyData.depthAll ps ≤ n
  nd : PyData.hasDictAll ps = false
  sh : ds.all (smallI n) = true → PyData.showableAll ps = true
  sz : ((PyData.shownAll ps).map (·.length)).sum + 2 * ps.length ≤ (ds.map fun x => szR n x + 2).sum
theorem tells_list {h : Heap} {F : Addr → Prop} {ρ : List Addr} {H : Hp} {n : Nat} (one : ∀ (d : D) (v : V) (u : Value), okD n d = true → Rep Ca F ρ H d v → RelV v u → ∃ p, Tells h n d u p) :
    ∀ (ds : List D) (vs : List V) (us : List Value), ds.all (okD n) = true → RepL Ca F ρ H ds vs → Vals vs us → ∃ ps, TellsL h n ds us ps
  | [], vs, us, _, l, r => by
    simp only [RepL] at l; subst l
    cases r
    exact ⟨[], rfl, ⟨_, .nil⟩, by simp [PyData.depthAll], by simp [PyData.hasDictAll], fun _ => by simp [PyData.showableAll], by simp [PyData.shownAll]⟩
  | d :: ds, vs, us, ok, l, r => by
    simp only [RepL] at l
    obtain ⟨v, t, rfl, rd, rl⟩ := l
    rw [List.all_cons, Bool.and_eq_true] at ok
    cases r with
    | cons r1 r2 =>
      obtain ⟨p, P⟩ := one d v _ ok.1 rd r1
      obtain ⟨ps, PL⟩ := tells_list one ds t _ ok.2 rl r2
      obtain ⟨as, h1⟩ := P.rd
      obtain ⟨bs, h2⟩ := PL.rd
      refine ⟨p :: ps, by simp only [toPyL, P.py, PL.py], ⟨_, .cons h1 h2⟩, ?_, ?_, fun z => ?_, ?_⟩
      · simp only [PyData.depthAll]; exact Nat.max_le.mpr ⟨P.dp, PL.dp⟩
      · simp only [PyData.hasDictAll, P.nd, PL.nd, Bool.or_self]
      · rw [List.all_cons, Bool.and_eq_true] at z
        simp only [PyData.showableAll, P.sh z.1, PL.sh z.2, Bool.and_self]
      · have a1 := P.sz
        have a2 := PL.sz
        simp only [PyData.shownAll, List.map_cons, List.sum_cons, List.length_cons] at a2 ⊢
        omega
theorem tells {pins : List (Addr × Obj)} {σ : L2.St} {H : Hp} {s : Shared} {F : Addr → Prop} {ρ : List Addr} (I : Inv X pins σ H s) : ∀ (n : Nat) (d : D) (v : V) (u : Value), okD n d = true → Rep Ca F ρ H d v → RelV v u → ∃ p, Tells s.heap n d u p := by
  intro n
  induction n with
  | zero =>
    intro d v u ok r rv
    cases d <;> simp only [okD, Bool.false_eq_true] at ok <;> simp only [Rep] at r
    · subst r; cases rv
      exact ⟨.none, rfl, ⟨_, .none⟩, by simp [PyData.depth], rfl, fun _ => rfl, show (PyData.shown .none).length ≤ 4 from by decide⟩
    · rename_i b
      subst r; cases rv
      exact ⟨.bool b, rfl, ⟨_, .bool b⟩, by simp [PyData.depth], rfl, fun _ => rfl, show (PyData.shown (.bool b)).length ≤ 5 from by cases b <;> decide⟩
    · rename_i i
      subst r; obtain ⟨t, rfl⟩ := rv
      exact ⟨.int i, rfl, ⟨_, .int i t⟩, by simp [PyData.depth], rfl, fun z => z, int_short i⟩
    · rename_i x
      subst r; obtain ⟨t, rfl⟩ := rv
      refine ⟨.str x, rfl, ⟨_, .str x t⟩, by simp [PyData.depth], rfl, fun _ => rfl, StrLaws.reprText_len x fun c hc => ?_⟩
      have := (Array.all_eq_true_iff_forall_mem.mp ok) c (Array.mem_toList_iff.mp hc)
      have : c < 1114112 := by simpa using this
      exact Nat.lt_trans this (by decide)
  | succ n ih =>
    intro d v u ok r rv
    cases d <;> simp only [okD, Bool.false_eq_true] at ok <;> simp only [Rep] at r
    · subst r; cases rv
      exact ⟨.none, rfl, ⟨_, .none⟩, by simp [PyData.depth], rfl, fun _ => rfl, show (PyData.shown .none).length ≤ 4 from by decide⟩
    · rename_i b
      subst r; cases rv
      exact ⟨.bool b, rfl, ⟨_, .bool b⟩, by simp [PyData.depth], rfl, fun _ => rfl, show (PyData.shown (.bool b)).length ≤ 5 from by cases b <;> decide⟩
    · rename_i i
      subst r; obtain ⟨t, rfl⟩ := rv
      exact ⟨.int i, rfl, ⟨_, .int i t⟩, by simp [PyData.depth], rfl, fun z => z, int_short i⟩
    · rename_i x
      subst r; obtain ⟨t, rfl⟩ := rv
      refine ⟨.str x, rfl, ⟨_, .str x t⟩, by simp [PyData.depth], rfl, fun _ => rfl, StrLaws.reprText_len x fun c hc => ?_⟩
      have := (Array.all_eq_true_iff_forall_mem.mp ok) c (Array.mem_toList_iff.mp hc)
      have : c < 1114112 := by simpa using this
      exact Nat.lt_trans this (by decide)
    · rename_i xs
      obtain ⟨a, vs, rfl, _, ha, l⟩ := r
      cases rv
      obtain ⟨_, its, rr, o, h1, h2, m, h3⟩ := (show ObjOk X.prog X.w H s.heap a (.tup vs) from I.hok a _ ha)
      obtain ⟨ps, PL⟩ := tells_list (fun d v u => ih d v u) xs vs its ok l rr
      obtain ⟨as, q⟩ := PL.rd
      refine ⟨.tuple ps, by simp only [toPy, PL.py, Option.map_some], ⟨_, .tuple h1 h2 h3 (by simpa using q)⟩, ?_, ?_, fun z => ?_, ?_⟩
      · simp only [PyData.depth]; have := PL.dp; omega
      · simp only [PyData.hasDict]; exact PL.nd
      · simp only [PyData.showable]; exact PL.sh (by simpa only [smallI] using z)
      · have a1 := tupleText_len_le (PyData.shownAll ps)
        have a2 := PyData.shownAll_length ps
        have a3 := PL.sz
        simp only [PyData.shown, szR]
        omega
    · rename_i xs
      obtain ⟨a, vs, rfl, _, ha, l⟩ := r
      cases rv
      obtain ⟨_, its, m, rr, h1⟩ := (show ObjOk X.prog X.w H s.heap a (.lst vs) from I.hok a _ ha)
      obtain ⟨ps, PL⟩ := tells_list (fun d v u => ih d v u) xs vs its ok l rr
      obtain ⟨as, q⟩ := PL.rd
      refine ⟨.list ps, by simp only [toPy, PL.py, Option.map_some], ⟨_, .list h1 rfl rfl (by simpa using q)⟩, ?_, ?_, fun z => ?_, ?_⟩
      · simp only [PyData.depth]; have := PL.dp; omega
      · simp only [PyData.hasDict]; exact PL.nd
      · simp only [PyData.showable]; exact PL.sh (by simpa only [smallI] using z)
      · have a1 := listText_len_le (PyData.shownAll ps)
        have a2 := PyData.shownAll_length ps
        have a3 := PL.sz
        simp only [PyData.shown, szR]
        omega
theorem py_list {n : Nat} (one : ∀ d : D, okD n d = true → ∃ p, toPy d = some p) : ∀ ds : List D, ds.all (okD n) = true → ∃ ps, toPyL ds = some ps
  | [], _ => ⟨[], rfl⟩
  | d :: ds, h => by
    rw [List.all_cons, Bool.and_eq_true] at h
    obtain ⟨p, e⟩ := one d h.1
    obtain ⟨ps, e2⟩ := py_list one ds h.2
    exact ⟨p :: ps, by simp only [toPyL, e, e2]⟩
theorem py_ok : ∀ (n : Nat) (d : D), okD n d = true → ∃ p, toPy d = some p := by
  intro n
  induction n with
  | zero => intro d ok; cases d <;> simp only [okD, Bool.false_eq_true] at ok <;> exact ⟨_, rfl⟩
  | succ n ih =>
    intro d ok
    cases d <;> simp only [okD, Bool.false_eq_true] at ok
    case tup xs => obtain ⟨ps, e⟩ := py_list ih xs ok; exact ⟨.tuple ps, by simp only [toPy, e, Option.map_some]⟩
    case lst xs => obtain ⟨ps, e⟩ := py_list ih xs ok; exact ⟨.list ps, by simp only [toPy, e, Option.map_some]⟩
    all_goals exact ⟨_, rfl⟩
/-- repr(x) of lists and tuples of data -/
def rRepr (X : Cx) (Ca : Cn) : List V → Hp → VK → Prop := fun xs H Q => ∃ (F : Addr → Prop) (ρ : List Addr) (d : D) (v : V) (p : PyData), xs = [v] ∧ Rep Ca F ρ H d v ∧ (seqOf d).isSome = true ∧ okD 60 d = true ∧ smallI 60 d = true ∧ szR 60 d ≤ sizeL ∧ toPy d = some p ∧ Q (.str p.shown) H
theorem cr_repr (gd : Gd X W) : CallR X (.builtin "repr") (rRepr X Ca) := by
  intro pins s σ H xs us Q I r h
  obtain ⟨F, ρ, d, v, p, rfl, rd, sq, ok, sm, sz, ep, q⟩ := h
  obtain ⟨u, rfl, ru⟩ := vals1 r
  obtain ⟨p', T⟩ := tells I 60 d v u ok rd ru
  obtain rfl : p' = p := by have := T.py; rw [ep] at this; exact (Option.some.inj this).symm
  obtain ⟨as, R⟩ := T.rd
  have hu := gd.un
  have dp := T.dp
  obtain ⟨a, rfl⟩ : ∃ a, u = Value.ref a := by
    cases d <;> simp only [seqOf, Option.isSome_none, Bool.false_eq_true] at sq <;> simp only [Rep] at rd
    all_goals (obtain ⟨a, vs, rfl, _⟩ := rd; cases ru; exact ⟨a, rfl⟩)
  exact repr_of_reads' R (T.sh sm) (PyData.noDict_hsm T.nd) gd.gu (by omega) (fun _ _ e => e) (fun h' u tk k => ⟨.str p'.shown, H, I.kept (t' := tk) k, ⟨_, rfl⟩, q⟩) (Nat.le_trans T.sz sz)
theorem meets_repr : MeetsB Ca W g .repr (rRepr X Ca) := by
  intro Pr F ρ s σ H ps vs z Q S r e q
  rcases ps with _ | ⟨⟨d0, d⟩, _ | ⟨⟨d1, d2⟩, rest⟩⟩ <;> (try (simp only [bfun, reduceCtorEq] at e; done))
  obtain ⟨v, rfl, _, r2⟩ := pair1 r
  have e : (if ((seqOf d).isSome && okD 60 d && smallI 60 d && decide (szR 60 d ≤ sizeL)) = true then some ((false, D.rep d) : Bool × D) else none) = some z := e
  split at e
  · rename_i hc
    simp only [Option.some.injEq] at e; subst e
    simp only [Bool.and_eq_true, decide_eq_true_eq] at hc
    obtain ⟨p, hp⟩ := py_ok 60 d hc.1.1.2
    have g0 : Gr F ρ H (fun _ => True) ρ H := Gr.wid fun _ _ => trivial
    have rd : Rep Ca (fun _ => True) ρ H d v := by
      rcases r2 with r2 | ⟨a, rfl, r2⟩
      · exact Rep.mono g0 _ _ r2
      · exact r2.rep (fun _ _ => trivial) trivial
    exact ⟨_, ρ, d, v, p, rfl, rd, hc.1.1.1, hc.1.1.2, hc.1.2, hc.2, hp, q.fin S (tmp_of (by simp only [Rep]; exact ⟨p, hp, rfl⟩))⟩
  · cases e

/-! ### methods -/
theorem base_of {o : Expr} {m : Str} {env : Env} (h : baseOk o = true) : attributeBase o m env (eval o env) = eval o env := by
  unfold attributeBase
  split
  · simp [baseOk] at h
  · rfl
theorem HdR.nF {Pr : Hp} {F : Addr → Prop} {ρ : List Addr} {s s' : Iv.S} {σ : L2.St} {H : Hp} {h : Hd} {a : Addr} {d' : D} (S : Sta Ca Pr F ρ s σ H) (r : HdR Ca σ F ρ H h (.ref a)) (e : s.put h d' = some s') : ¬ F a := by
  cases h with
  | val d => simp [Iv.S.put] at e
  | slot i =>
    simp only [Iv.S.put] at e
    split at e
    · rename_i d0 hx
      obtain ⟨b, hb, _, nF, _⟩ := S.own hx
      have hb' : σ[i]? = some (some (.ref a)) := r.1
      rw [hb'] at hb
      obtain rfl : a = b := by simpa using hb
      exact nF
    · cases e
  | box n =>
    simp only [Iv.S.put] at e
    split at e
    · rename_i d0 hx
      obtain ⟨b, eb, hρ⟩ := r
      obtain rfl : a = b := by simpa using eb
      exact S.bF n _ a hx hρ rfl
    · cases e
theorem ixN_seq {n : Nat} {i : Int} : Iv.ixN n i = seqIndex? i n := by
  unfold Iv.ixN seqIndex?
  by_cases h0 : 0 ≤ i
  · have h1 : ¬ i < 0 := by omega
    simp only [h0, h1, if_true, if_false]
    by_cases h2 : i < n
    · simp [h2]
    · simp [h2]
  · have h1 : i < 0 := by omega
    simp only [h0, h1, if_true, if_false]
    by_cases h2 : -(n : Int) ≤ i
    · have a1 : 0 ≤ i + n := by omega
      have a2 : i + n < n := by omega
      simp [h2, a1, a2]
    · have a1 : ¬ 0 ≤ i + n := by omega
      simp [h2, a1]
/-- a method that reads or changes its object, by what it does -/
theorem bm_core {m : BM} {r : V → List V → Hp → VK → Prop} {h : Hd} {x : V} {vs : List V} {xs : List D} {Pr : Hp} {F : Addr → Prop} {ρ : List Addr} {s : Iv.S} {σ : L2.St} {H : Hp} {Q : VK} (S : Sta Ca Pr F ρ s σ H) (rx : HdR Ca σ F ρ H h x) (rl : RepL Ca F ρ H xs vs)
    (hr : ∀ (c : D) (v : D) (c' : Option D), bmeth m c xs = some (v, c') → Con Ca F ρ H c x →
      (c' = none → ∀ w, Rep Ca F ρ H v w → Q w H) →
      (∀ d', c' = some d' → ∃ a, x = .ref a ∧ ¬ F a ∧ ∀ (o : HO) w, Cont Ca F ρ (upd H a o) d' a → Rep Ca F ρ (upd H a o) v w → Q w (upd H a o)) → r x vs H Q)
    (q : Ans Ca W Pr σ (RV Ca Pr σ) F ρ H ((Res.of ((s.cont h).bind fun c => bmeth m c xs) s).bind fun r s => match r.2 with
        | none => .ok (false, r.1) s
        | some c' => (Res.of (s.put h c') s).bind fun s' _ => .ok (false, r.1) s') Q) : r x vs H Q := by
  cases ec : s.cont h with
  | none => rw [ec] at q; exact q.elim
  | some c =>
    rw [ec, Option.bind_some] at q
    cases eb : bmeth m c xs with
    | none => rw [eb] at q; exact q.elim
    | some p =>
      rw [eb] at q
      obtain ⟨v, c'⟩ := p
      refine hr c v c' eb (rx.con S ec) (fun e w rw' => ?_) fun d' e => ?_
      · subst e
        exact Ans.fin (show Ans Ca W Pr σ (RV Ca Pr σ) F ρ H (.ok (false, v) s) Q from q) S (tmp_of rw')
      · subst e
        have q2 : Ans Ca W Pr σ (RV Ca Pr σ) F ρ H ((Res.of (s.put h d') s).bind fun s' _ => .ok (false, v) s') Q := q
        cases ep : s.put h d' with
        | none => rw [ep] at q2; exact q2.elim
        | some s' =>
          rw [ep] at q2
          have ra : ∃ a, x = .ref a := by
            cases h with
            | slot i => exact rx.2
            | box n => obtain ⟨a, e, _⟩ := rx; exact ⟨a, e⟩
            | val d => simp [Iv.S.put] at ep
          obtain ⟨a, rfl⟩ := ra
          refine ⟨a, rfl, HdR.nF S rx ep, fun o w hc rw' => ?_⟩
          obtain ⟨S2, g2⟩ := HdR.put S rx ep hc
          exact (show Ans Ca W Pr σ (RV Ca Pr σ) F ρ H (.ok (false, v) s') Q from q2) F ρ _ w g2 S2 (tmp_of rw')

theorem bm_kind {m : BM} {T : String} {h : Hd} {x : V} {Pr : Hp} {F : Addr → Prop} {ρ : List Addr} {s : Iv.S} {σ : L2.St} {H : Hp} (S : Sta Ca Pr F ρ s σ H) (rx : HdR Ca σ F ρ H h x) (hm : m ≠ .get) (e : bmOk m (s.cont h) = true) : L2.tyV X.K "list" x H := by
  cases ec : s.cont h with
  | none => rw [ec] at e; cases m <;> cases e
  | some c =>
    rw [ec] at e
    cases c <;> cases m <;> simp only [bmOk, Bool.false_eq_true] at e <;> try exact absurd rfl hm
    all_goals
      obtain ⟨a, vs, rfl, q, _⟩ := (rx.con S ec).lst
      exact .inl ⟨rfl, vs, SqL.of q⟩
/-- what a method's rule must tell -/
def MeetsM (Ca : Cn) (W : WX) (m : BM) (r : V → List V → Hp → VK → Prop) : Prop :=
  ∀ (Pr : Hp) (F : Addr → Prop) (ρ : List Addr) (s : Iv.S) (σ : L2.St) (H : Hp) (h : Hd) (x : V) (xs : List D) (vs : List V) (Q : VK), Sta Ca Pr F ρ s σ H → HdR Ca σ F ρ H h x → RepL Ca F ρ H xs vs →
      Ans Ca W Pr σ (RV Ca Pr σ) F ρ H ((Res.of ((s.cont h).bind fun c => bmeth m c xs) s).bind fun r s => match r.2 with
        | none => .ok (false, r.1) s
        | some c' => (Res.of (s.put h c') s).bind fun s' _ => .ok (false, r.1) s') Q → r x vs H Q
def bmRun (m : BM) (hf : S → Res Hd) (fs : S → Res (List D)) (s : S) : Res (Bool × D) := (hf s).bind fun h s => if bmOk m (s.cont h) = false then .no else (fs s).bind fun xs s =>
      (Res.of ((s.cont h).bind fun c => bmeth m c xs) s).bind fun r s => match r.2 with
        | none => .ok (false, r.1) s
        | some c' => (Res.of (s.put h c') s).bind fun s' _ => .ok (false, r.1) s'
theorem sd_bm {m : BM} {name : Str} {id : String} {r : V → List V → Hp → VK → Prop} {apos : Pos} {hf : S → Res Hd} {fs : S → Res (List D)} (hm : m ≠ .get) (slot : Slot "list" name id) (hty : typeOf (.builtin id) = pure (.type "method_descriptor")) (mt : MtR X id r)
    (core : MeetsM Ca W m r) (ho : PHv X Ca W a hf) (ha : PAv X Ca W (e :: es) fs) (hb : baseOk a = true) (hl : (apos.endLine == pos.line) = true) (hp : plainXs (e :: es) = true) (hn : (e :: es).length < 20) :
    PEv X Ca W (.Call (.Attribute a name apos) (e :: es) [] pos) (bmRun m hf fs) := by
  have h1 : plainX e = true ∧ plainXs es = true := by unfold plainXs at hp ⊢; rw [List.all_cons, Bool.and_eq_true] at hp; exact hp
  refine PE.imp (pe_bm PySem.F.plainAttrs_list slot hty mt ho ha (base_of hb) (star_few hp hn) hl (star_cons h1.1) (star_any h1.2)) fun σ H Q ⟨Pr, F, ρ, s, S, q⟩ => ?_
  refine ⟨Pr, F, ρ, s, S, (Ans.bind (Rl := RH Ca Pr σ) (show Ans Ca W Pr σ (RV Ca Pr σ) F ρ H ((hf s).bind _) Q from q)).mono ?_⟩
  rintro x H1 ⟨h, s1, F1, ρ1, g1, S1, rx, q1⟩
  split at q1
  · exact q1.elim
  · rename_i hk
    refine ⟨bm_kind (X := X) (T := "list") S1 rx hm (by simpa using hk), Pr, F1, ρ1, s1, S1, (Ans.bind (Rl := RL Ca Pr σ) q1).mono ?_⟩
    rintro vs H2 ⟨xs, s2, F2, ρ2, g2, S2, rl, q2⟩
    exact core Pr F2 ρ2 s2 σ H2 h x xs vs Q S2 (HdR.mono g2 rx) rl q2
theorem sd_bm0 {m : BM} {name : Str} {id : String} {r : V → List V → Hp → VK → Prop} {apos : Pos} {hf : S → Res Hd} (hm : m ≠ .get) (slot : Slot "list" name id) (hty : typeOf (.builtin id) = pure (.type "method_descriptor")) (mt : MtR X id r)
    (core : MeetsM Ca W m r) (ho : PHv X Ca W a hf) (hb : baseOk a = true) (hl : (apos.endLine == pos.line) = true) :
    PEv X Ca W (.Call (.Attribute a name apos) [] [] pos) (bmRun m hf fun s => .ok [] s) := by
  refine PE.imp (pe_bm0 PySem.F.plainAttrs_list slot hty mt ho (base_of hb) hl) fun σ H Q ⟨Pr, F, ρ, s, S, q⟩ => ?_
  refine ⟨Pr, F, ρ, s, S, (Ans.bind (Rl := RH Ca Pr σ) (show Ans Ca W Pr σ (RV Ca Pr σ) F ρ H ((hf s).bind _) Q from q)).mono ?_⟩
  rintro x H1 ⟨h, s1, F1, ρ1, g1, S1, rx, q1⟩
  split at q1
  · exact q1.elim
  · rename_i hk
    exact ⟨bm_kind (X := X) (T := "list") S1 rx hm (by simpa using hk), core Pr F1 ρ1 s1 σ H1 h x [] [] Q S1 rx RepL.nil q1⟩
theorem upd_rep {F : Addr → Prop} {ρ : List Addr} {H : Hp} {a : Addr} {o : HO} (nF : ¬ F a) {xs : List D} {vs : List V} (l : RepL Ca F ρ H xs vs) : RepL Ca F ρ (upd H a o) xs vs := RepL.mono (Gr.upd nF) _ _ l
theorem meets_append : MeetsM Ca W .append rAppend := by
  intro Pr F ρ s σ H h x xs vs Q S rx rl q
  refine bm_core S rx rl (fun c v c' eb con h1 h2 => ?_) q
  cases c <;> rcases xs with _ | ⟨y, _ | ⟨y2, ys⟩⟩ <;> simp only [bmeth, reduceCtorEq] at eb
  rename_i cs
  split at eb
  · rename_i hz
    simp only [Option.some.injEq, Prod.mk.injEq] at eb
    obtain ⟨rfl, rfl⟩ := eb
    obtain ⟨a', us, e, ha, lc⟩ := con.lst
    obtain ⟨a, rfl, nF, fin⟩ := h2 _ rfl
    cases e
    obtain ⟨w, rfl, rw'⟩ := (show ∃ w, vs = [w] ∧ Rep Ca F ρ H y w by simp only [RepL] at rl; obtain ⟨w, r, rfl, h, rfl⟩ := rl; exact ⟨w, rfl, h⟩)
    exact ⟨_, us, w, rfl, rfl, ha, by rw [← lc.len]; exact hz, fin _ .non ⟨_, upd_same, upd_rep nF (lc.app (.one rw'))⟩ (by simp only [Rep])⟩
  · cases eb
theorem meets_pop : MeetsM Ca W .pop rPop := by
  intro Pr F ρ s σ H h x xs vs Q S rx rl q
  refine bm_core S rx rl (fun c v c' eb con h1 h2 => ?_) q
  cases c <;> rcases xs with _ | ⟨y, ys⟩ <;> simp only [bmeth, reduceCtorEq] at eb
  rename_i cs
  obtain ⟨d, ed, e2⟩ := Option.map_eq_some_iff.mp eb
  simp only [Prod.mk.injEq] at e2
  obtain ⟨rfl, rfl⟩ := e2
  obtain ⟨a', us, e, ha, lc⟩ := con.lst
  obtain ⟨a, rfl, nF, fin⟩ := h2 _ rfl
  cases e
  obtain ⟨w, ew, rw'⟩ := lc.get ed
  simp only [RepL] at rl
  subst rl
  exact ⟨_, us, w, rfl, rfl, ha, by rw [← lc.len]; exact ew, fin _ _ ⟨_, upd_same, upd_rep nF lc.dropLast⟩ (Rep.mono (Gr.upd nF) _ _ rw')⟩
theorem meets_popAt : MeetsM Ca W .popAt rPopAt := by
  intro Pr F ρ s σ H h x xs vs Q S rx rl q
  refine bm_core S rx rl (fun c v c' eb con h1 h2 => ?_) q
  cases c <;> rcases xs with _ | ⟨y, _ | ⟨y2, ys⟩⟩ <;> try (simp only [bmeth, reduceCtorEq] at eb; done)
  cases y <;> simp only [bmeth, reduceCtorEq] at eb
  rename_i cs i
  split at eb
  · rename_i hz
    cases ej : Iv.ixN cs.length i with
    | none => rw [ej] at eb; cases eb
    | some j =>
      rw [ej, Option.bind_some] at eb
      obtain ⟨d, ed, e2⟩ := Option.map_eq_some_iff.mp eb
      simp only [Prod.mk.injEq] at e2
      obtain ⟨rfl, rfl⟩ := e2
      obtain ⟨a', us, e, ha, lc⟩ := con.lst
      obtain ⟨a, rfl, nF, fin⟩ := h2 _ rfl
      cases e
      obtain ⟨w, ew, rw'⟩ := lc.get ed
      obtain rfl : vs = [.int i] := by simp only [RepL] at rl; obtain ⟨w, r, rfl, h, rfl⟩ := rl; simp only [Rep] at h; rw [h]
      exact ⟨_, us, i, j, w, rfl, rfl, ha, hz.1, hz.2, by rw [← ixN_seq, ← lc.len]; exact ej, ew, fin _ _ ⟨_, upd_same, upd_rep nF (lc.erase j)⟩ (Rep.mono (Gr.upd nF) _ _ rw')⟩
  · cases eb
/-! ### d.get(k, x) -/
theorem sd_get {apos : Pos} {hf : S → Res Hd} {fb fc : S → Res (Bool × D)} (gd : Gd X W) (ho : PHv X Ca W a hf) (h1 : PEv X Ca W b fb) (h2 : PEv X Ca W c fc) (hb : baseOk a = true) (hl : (apos.endLine == pos.line) = true) (p1 : plainX b = true) (p2 : plainX c = true) :
    PEv X Ca W (.Call (.Attribute a "get" apos) [b, c] [] pos) (bmRun .get hf fun s => (fb s).bind fun x s => ((fc s).bind fun y s => (Res.ok [] s).bind fun xs s => .ok (y.2 :: xs) s).bind fun xs s => .ok (x.2 :: xs) s) := by
  have pl : plainXs [b, c] = true := by unfold plainXs; simp [p1, p2]
  have m2 : M2 X a "get" apos b c pos := ⟨base_of hb, star_few pl (by simp), hl, by rw [star_all pl]; rfl⟩
  refine PE.imp (pe_dget2 (by have := gd.un; omega) ho h1 h2 m2) fun σ H Q ⟨Pr, F, ρ, s, S, q⟩ => ?_
  refine ⟨Pr, F, ρ, s, S, (Ans.bind (Rl := RH Ca Pr σ) (show Ans Ca W Pr σ (RV Ca Pr σ) F ρ H ((hf s).bind _) Q from q)).mono ?_⟩
  rintro x H1 ⟨h, s1, F1, ρ1, g1, S1, rx, q1⟩
  split at q1
  · exact q1.elim
  · rename_i hk
    have isd : ∃ a, x = .ref a ∧ IsD H1 a := by
      cases ec : s1.cont h with
      | none => rw [ec] at hk; exact absurd rfl hk
      | some d =>
        rw [ec] at hk
        cases d <;> try exact absurd rfl hk
        obtain ⟨a, ws, rfl, hh, _⟩ := (rx.con S1 ec).dK
        exact ⟨a, rfl, .inl ⟨ws, hh⟩⟩
    obtain ⟨a', rfl, isd⟩ := isd
    rw [Res.assoc] at q1
    refine ⟨a', rfl, isd, Pr, F1, ρ1, s1, S1, (Ans.bind (Rl := RV Ca Pr σ) q1).mono ?_⟩
    rintro y H2 ⟨yd, s2, F2, ρ2, g2, S2, t2, q2⟩
    obtain ⟨F3, g3, S3, ry⟩ := S2.freeze t2
    have q2 := q2.start g3
    rw [Res.assoc, Res.assoc] at q2
    refine ⟨Pr, F3, ρ2, s2, S3, (Ans.bind (Rl := RV Ca Pr σ) q2).mono ?_⟩
    rintro z H3 ⟨zd, s3, F4, ρ3, g4, S4, t4, q3⟩
    obtain ⟨F5, g5, S5, rz⟩ := S4.freeze t4
    have q3 := q3.start g5
    have rx5 := HdR.mono (g2.trans (g3.trans (g4.trans g5))) rx
    have ry5 := Rep.mono (g4.trans g5) _ _ ry
    simp only [Res.bind] at q3
    cases ec : s3.cont h with
    | none => rw [ec] at q3; exact q3.elim
    | some cd =>
      rw [ec, Option.bind_some] at q3
      cases cd <;> try exact q3.elim
      rename_i kvs
      simp only [bmeth] at q3
      cases ek : keyOf yd.2 with
      | none => rw [ek] at q3; exact q3.elim
      | some key =>
        rw [ek, Option.map_some] at q3
        obtain ⟨a2, ws, e, hh, l⟩ := (rx5.con S5 ec).dK
        cases e
        refine ⟨valV ws key, .inl ⟨ws, key, hh, keyOf_rep ek ry5, rfl⟩, ?_⟩
        have q4 : Ans Ca W Pr σ (RV Ca Pr σ) F5 ρ3 H3 (.ok (false, (valK kvs key).getD zd.2) s3) Q := q3
        refine q4.fin S5 (tmp_of ?_)
        rcases l.val (k := key) with ⟨n1, n2⟩ | ⟨d', w, n1, n2, r⟩
        · rw [n1, n2]; exact rz
        · rw [n1, n2]; exact r
end
end Iv
end
section
set_option Elab.async false
set_option linter.all false
/-! Values on their way, several at once; boxes; dict displays. My own work. -/
namespace Iv
open PySem L2
open PySem (Str)

section
variable {α β : Type} {X : Cx} {W : WX} {Ca : Cn} {g : G} {e a b c : Expr} {es : List Expr} {pos : Pos}

/-! ### less is protected -/
section
variable {Pr Pr' : Hp} {F : Addr → Prop} {ρ : List Addr} {s : Iv.S} {σ : L2.St} {H : Hp} {x : Bool × D} {v : V}
theorem none_less (le : ∀ a o, Pr a = some o → Pr' a = some o) {a : Addr} (h : Pr' a = none) : Pr a = none := by
  cases e : Pr a with
  | none => rfl
  | some o => rw [le a o e] at h; cases h
theorem Val.less (le : ∀ a o, Pr a = some o → Pr' a = some o) (h : Val Ca Pr' F ρ H x v) : Val Ca Pr F ρ H x v := by
  unfold Val at h ⊢
  split
  · rename_i hx
    rw [if_pos hx] at h
    obtain ⟨a, e, c, f, m, q⟩ := h
    exact ⟨a, e, c, f, m, none_less le q⟩
  · rename_i hx
    rw [if_neg hx] at h; exact h
theorem Sta.less (le : ∀ a o, Pr a = some o → Pr' a = some o) (S : Sta Ca Pr' F ρ s σ H) : Sta Ca Pr F ρ s σ H :=
  ⟨S.len, S.nd, S.fd, S.bx, S.bF, S.rd, fun i x h => let ⟨v, h1, r⟩ := S.sl i x h; ⟨v, h1, r.less le⟩, S.ow, fun a o e => S.pr a o (le a o e), fun a o e => S.pF a o (le a o e), fun a m => none_less le (S.pρ a m), S.ln, S.tb, fun a ps e => let ⟨n1, n2, n3⟩ := S.nt a ps e; ⟨n1, n2, none_less le n3⟩, fun a o e => S.so a o (le a o e)⟩
theorem Tmp.less (le : ∀ a o, Pr a = some o → Pr' a = some o) (h : Tmp Ca Pr' F ρ s σ H x v) : Tmp Ca Pr F ρ s σ H x v := ⟨h.1.less le, h.2⟩
/-- more is protected while a part runs -/
theorem Ans.bindL {γ δ : Type} {Rl : (Addr → Prop) → List Addr → Iv.S → Hp → α → β → Prop} {Rl2 : (Addr → Prop) → List Addr → Iv.S → Hp → γ → δ → Prop} {r : Res α} {k : α → Iv.S → Res γ} {Q2 : δ → Hp → Prop} (le : ∀ a o, Pr a = some o → Pr' a = some o) (h : Ans Ca W Pr σ Rl2 F ρ H (r.bind k) Q2) :
    Ans Ca W Pr' σ Rl F ρ H r (fun v H1 => ∃ x s1 F1 ρ1, Gr F ρ H F1 ρ1 H1 ∧ Sta Ca Pr' F1 ρ1 s1 σ H1 ∧ Rl F1 ρ1 s1 H1 x v ∧ Ans Ca W Pr σ Rl2 F1 ρ1 H1 (k x s1) Q2) := by
  cases r with
  | ok x s => exact fun F' ρ' H' v g S q => ⟨x, s, F', ρ', g, S, q, Ans.start g h⟩
  | ex c s => exact fun F' ρ' H' g S => h F' ρ' H' g (S.less le)
  | no => exact h
/-- a value on its way is protected -/
theorem Sta.guard {d : D} {a : Addr} {o : HO} (S : Sta Ca Pr F ρ s σ H) (t : Tmp Ca Pr F ρ s σ H (true, d) (.ref a)) (ha : H a = some o) : Sta Ca (upd Pr a o) F ρ s σ H := by
  obtain ⟨⟨a', e, c, nF, nρ, np⟩, ns⟩ := t
  cases e
  refine ⟨S.len, S.nd, S.fd, S.bx, S.bF, S.rd, fun i x h => ?_, S.ow, fun b u h => ?_, fun b u h => ?_, fun b m => ?_, S.ln, S.tb, fun b ps e => let ⟨n1, n2, n3⟩ := S.nt b ps e; ⟨n1, n2, by rw [upd_ne fun z => by subst z; exact cont_nt c ps e]; exact n3⟩, fun b u h => ?_⟩
  · obtain ⟨v, h1, r⟩ := S.sl i x h
    refine ⟨v, h1, ?_⟩
    unfold Val at r ⊢
    split
    · rename_i hx
      rw [if_pos hx] at r
      obtain ⟨b, rfl, c', f, m, q⟩ := r
      refine ⟨b, rfl, c', f, m, ?_⟩
      have nb : b ≠ a := fun z => by
        subst z
        obtain ⟨o1, d1⟩ := x
        cases hx
        exact ns rfl i d1 h h1
      rw [upd_ne nb]; exact q
    · rename_i hx
      rw [if_neg hx] at r; exact r
  · by_cases nb : b = a
    · subst nb
      rw [upd_same] at h
      cases h; exact ha
    · rw [upd_ne nb] at h; exact S.pr b u h
  · by_cases nb : b = a
    · subst nb; exact nF
    · rw [upd_ne nb] at h; exact S.pF b u h
  · rw [upd_ne fun z => by subst z; exact nρ m]; exact S.pρ b m
  · by_cases nb : b = a
    · subst nb
      rw [upd_same] at h
      obtain ⟨o', e', so⟩ := cont_soft c
      rw [ha] at e'; cases e'; cases h
      exact so
    · rw [upd_ne nb] at h; exact S.so b u h
theorem guard_le {a : Addr} {o : HO} (h : Pr a = none) : ∀ b u, Pr b = some u → upd Pr a o b = some u := fun b u e => by
  rw [upd_ne fun z => by subst z; rw [h] at e; cases e]; exact e
end

/-- several values on their way -/
def RX (Ca : Cn) : Rel' (List (Bool × D)) (List V) := fun Pr σ F ρ s H xs vs => Paired (Tmp Ca Pr F ρ s σ H) xs vs ∧
  ∀ (i j : Nat) (d e : D) (v : V), xs[i]? = some (true, d) → xs[j]? = some (true, e) → vs[i]? = some v → vs[j]? = some v → i = j
abbrev PXv (X : Cx) (Ca : Cn) (W : WX) (e : List Expr) (f : S → Res (List (Bool × D))) : Prop := PA X e (Run Ca W (RX Ca) f)
theorem rx_nil {Pr : Hp} {σ : L2.St} {F : Addr → Prop} {ρ : List Addr} {s : Iv.S} {H : Hp} : RX Ca Pr σ F ρ s H [] [] := ⟨.nil, fun i j d e v h => by simp at h⟩
/-- one value, then others: the first is kept while they are made -/
theorem then_many {γ : Type} {k : S → Res (List (Bool × D))} {fin : List (Bool × D) → S → Res γ} {Pr : Hp} {σ : L2.St} {F : Addr → Prop} {ρ : List Addr} {s : Iv.S} {H : Hp} {x : Bool × D} {v : V} {δ : Type}
    {Rl : (Addr → Prop) → List Addr → Iv.S → Hp → γ → δ → Prop} {Q : δ → Hp → Prop} {P : List V → Hp → Prop} (S : Sta Ca Pr F ρ s σ H) (t : Tmp Ca Pr F ρ s σ H x v) (q : Ans Ca W Pr σ Rl F ρ H ((k s).bind fun xs s => fin (x :: xs) s) Q)
    (hP : ∀ (xs : List (Bool × D)) (vs : List V) (s' : Iv.S) (F' : Addr → Prop) (ρ' : List Addr) (H' : Hp), Gr F ρ H F' ρ' H' → Sta Ca Pr F' ρ' s' σ H' → RX Ca Pr σ F' ρ' s' H' (x :: xs) (v :: vs) → Ans Ca W Pr σ Rl F' ρ' H' (fin (x :: xs) s') Q → P vs H') :
    Run Ca W (RX Ca) k σ H P := by
  obtain ⟨o, d⟩ := x
  cases o with
  | false =>
    refine ⟨Pr, F, ρ, s, S, (Ans.bind (Rl := RX Ca Pr σ) q).mono ?_⟩
    rintro vs H1 ⟨xs, s1, F1, ρ1, gr, S1, r1, q2⟩
    refine hP xs vs s1 F1 ρ1 H1 gr S1 ⟨.cons (tmp_of (Rep.mono gr _ _ t.1)) r1.1, fun i j d1 e1 u h1 h2 h3 h4 => ?_⟩ q2
    cases i with
    | zero => simp at h1
    | succ i =>
      cases j with
      | zero => simp at h2
      | succ j => exact congrArg (· + 1) (r1.2 i j d1 e1 u (by simpa using h1) (by simpa using h2) (by simpa using h3) (by simpa using h4))
  | true =>
    obtain ⟨a, rfl, c, nF, nρ, np⟩ := t.1
    obtain ⟨o, ha⟩ := c.some
    have le := guard_le (Pr := Pr) (a := a) (o := o) np
    refine ⟨upd Pr a o, F, ρ, s, S.guard t ha, (Ans.bindL (Rl := RX Ca (upd Pr a o) σ) le q).mono ?_⟩
    rintro vs H1 ⟨xs, s1, F1, ρ1, gr, S1, r1, q2⟩
    have pa : upd Pr a o a = some o := upd_same
    have ha1 : H1 a = some o := S1.pr a o pa
    have nF1 : ¬ F1 a := S1.pF a o pa
    have nρ1 : a ∉ ρ1 := fun m => by have := S1.pρ a m; rw [pa] at this; cases this
    have other : ∀ {d' : D} {v : V}, Own Ca (upd Pr a o) F1 ρ1 H1 d' v → v ≠ .ref a := fun w z => by
      obtain ⟨b, e, _, _, _, q⟩ := w
      rw [z] at e; cases e
      rw [pa] at q; cases q
    have t1 : Tmp Ca Pr F1 ρ1 s1 σ H1 (true, d) (.ref a) := by
      refine ⟨⟨a, rfl, c.mono gr (fun u e => by rw [ha] at e; cases e; exact ha1), nF1, nρ1, np⟩, fun _ i d' hi hv => ?_⟩
      obtain ⟨u, hu, r⟩ := S1.sl i _ hi
      rw [hv] at hu
      obtain rfl : V.ref a = u := by simpa using hu
      exact other r rfl
    have own_at : ∀ {xs : List (Bool × D)} {vs : List V}, Paired (Tmp Ca (upd Pr a o) F1 ρ1 s1 σ H1) xs vs → ∀ (j : Nat) (e1 : D) (u : V), xs[j]? = some (true, e1) → vs[j]? = some u → u ≠ .ref a := by
      intro xs vs p
      induction p with
      | nil => intro j e1 u h; simp at h
      | cons r t ih =>
        intro j e1 u h1 h2
        cases j with
        | zero =>
          rw [List.getElem?_cons_zero, Option.some.injEq] at h1 h2
          subst h1; subst h2
          exact other r.1
        | succ j => exact ih j e1 u (by simpa using h1) (by simpa using h2)
    refine hP xs vs s1 F1 ρ1 H1 gr (S1.less le) ⟨.cons t1 (Paired.mapP r1.1 fun x v t => t.less le), fun i j d1 e1 u h1 h2 h3 h4 => ?_⟩ q2
    cases i with
    | zero =>
      cases j with
      | zero => rfl
      | succ j =>
        obtain rfl : V.ref a = u := by simpa using h3
        exact absurd rfl (own_at r1.1 j e1 _ (by simpa using h2) (by simpa using h4))
    | succ i =>
      cases j with
      | zero =>
        obtain rfl : V.ref a = u := by simpa using h4
        exact absurd rfl (own_at r1.1 i d1 _ (by simpa using h1) (by simpa using h3))
      | succ j => exact congrArg (· + 1) (r1.2 i j d1 e1 u (by simpa using h1) (by simpa using h2) (by simpa using h3) (by simpa using h4))
theorem sd_xnil : PXv X Ca W [] fun s => .ok [] s := PA.imp pa_nil fun σ H Q ⟨Pr, F, ρ, s, S, q⟩ => q.fin S rx_nil
theorem sd_xcons {fe : S → Res (Bool × D)} {fs : S → Res (List (Bool × D))} (hp : plainX e = true) (h : PEv X Ca W e fe) (hr : PXv X Ca W es fs) : PXv X Ca W (e :: es) fun s => (fe s).bind fun x s => (fs s).bind fun xs s => .ok (x :: xs) s :=
  PA.imp (pa_cons h hr (star_cons hp)) fun σ H Q ⟨Pr, F, ρ, s, S, q⟩ => by
    refine ⟨Pr, F, ρ, s, S, (Ans.bind (Rl := RV Ca Pr σ) q).mono ?_⟩
    rintro v H1 ⟨x, s1, F1, ρ1, gr, S1, t, q1⟩
    exact then_many (k := fs) (fin := fun xs s => .ok xs s) S1 t q1 fun xs vs s' F' ρ' H' g' S' r' q' => q'.fin S' r'

/-! ### boxes -/
theorem Sta.box1 {Pr : Hp} {F : Addr → Prop} {ρ : List Addr} {s : Iv.S} {σ : L2.St} {H : Hp} {d : D} {a : Addr} (S : Sta Ca Pr F ρ s σ H) (t : Tmp Ca Pr F ρ s σ H (true, d) (.ref a)) :
    Sta Ca Pr F (ρ ++ [a]) { s with μ := s.μ ++ [.val d] } σ H ∧ (ρ ++ [a])[s.μ.length]? = some a := by
  obtain ⟨⟨a', e, c, nF, nρ, np⟩, ns⟩ := t
  cases e
  have g : Gr F ρ H F (ρ ++ [a]) H := Gr.more _
  have at' : (ρ ++ [a])[s.μ.length]? = some a := by
    rw [← S.len, List.getElem?_append_right (Nat.le_refl _), Nat.sub_self]; rfl
  have look : ∀ {n : Nat} {b : Bx} {p : Addr}, (s.μ ++ [Bx.val d])[n]? = some b → (ρ ++ [a])[n]? = some p → (s.μ[n]? = some b ∧ ρ[n]? = some p) ∨ (b = .val d ∧ p = a) := by
    intro n b p h1 h2
    by_cases hn : n < s.μ.length
    · left
      rw [List.getElem?_append_left hn] at h1
      rw [List.getElem?_append_left (by rw [S.len]; exact hn)] at h2
      exact ⟨h1, h2⟩
    · right
      have hm := (List.getElem?_eq_some_iff.mp h1).1
      rw [List.length_append, List.length_singleton] at hm
      obtain rfl : n = s.μ.length := by omega
      rw [at'] at h2
      rw [List.getElem?_append_right (Nat.le_refl _), Nat.sub_self] at h1
      simp at h1 h2
      exact ⟨h1.symm, h2.symm⟩
  refine ⟨⟨?_, ?_, S.fd, fun n b p h1 h2 => ?_, fun n b p h1 h2 nb => ?_, fun p m => ?_, fun i x h => ?_, S.ow, S.pr, S.pF, fun p m => ?_, S.ln, S.tb, fun p ps e => let ⟨n1, n2, n3⟩ := S.nt p ps e; ⟨n1, fun m => (List.mem_append.mp m).elim n2 fun m => by rw [List.mem_singleton] at m; subst m; exact cont_nt c ps e, n3⟩, S.so⟩, at'⟩
  · rw [List.length_append, List.length_append, S.len]; rfl
  · rw [List.nodup_append]
    refine ⟨S.nd, by simp, fun x hx y hy z => ?_⟩
    rw [List.mem_singleton] at hy
    subst hy; subst z; exact nρ hx
  · rcases look h1 h2 with ⟨h1, h2⟩ | ⟨rfl, rfl⟩
    · exact (S.bx n b p h1 h2).mono g fun _ e => e
    · exact c.mono g fun _ e => e
  · rcases look h1 h2 with ⟨h1, h2⟩ | ⟨rfl, rfl⟩
    · exact S.bF n b p h1 h2 nb
    · exact nF
  · rcases List.mem_append.mp m with m | m
    · exact S.rd p m
    · rw [List.mem_singleton] at m; subst m; exact c.some
  · obtain ⟨v, h1, r⟩ := S.sl i x h
    refine ⟨v, h1, ?_⟩
    unfold Val at r ⊢
    split
    · rename_i hx
      rw [if_pos hx] at r
      obtain ⟨b, rfl, c', f, m, q⟩ := r
      refine ⟨b, rfl, c'.mono g (fun _ e => e), f, fun z => ?_, q⟩
      rcases List.mem_append.mp z with z | z
      · exact m z
      · rw [List.mem_singleton] at z; subst z
        obtain ⟨o1, d1⟩ := x
        cases hx
        exact ns rfl i d1 h h1
    · rename_i hx
      rw [if_neg hx] at r
      exact Rep.mono g _ _ r
  · rcases List.mem_append.mp m with m | m
    · exact S.pρ p m
    · rw [List.mem_singleton] at m; subst m; exact np
theorem RX.tail {Pr : Hp} {σ : L2.St} {F : Addr → Prop} {ρ : List Addr} {s : Iv.S} {H : Hp} {x : Bool × D} {xs : List (Bool × D)} {v : V} {vs : List V} (r : RX Ca Pr σ F ρ s H (x :: xs) (v :: vs)) : RX Ca Pr σ F ρ s H xs vs := by
  obtain ⟨p, u⟩ := r
  cases p with
  | cons _ t => exact ⟨t, fun i j d e v h1 h2 h3 h4 => Nat.succ.inj (u (i + 1) (j + 1) d e v (by simpa using h1) (by simpa using h2) (by simpa using h3) (by simpa using h4))⟩
/-- what alone is held becomes boxes -/
theorem box_all {Pr : Hp} {σ : L2.St} {F : Addr → Prop} {H : Hp} : ∀ (xs : List (Bool × D)) (vs : List V) (ρ : List Addr) (s : Iv.S), Sta Ca Pr F ρ s σ H → RX Ca Pr σ F ρ s H xs vs →
    ∃ ρ', Gr F ρ H F ρ' H ∧ Sta Ca Pr F ρ' { s with μ := (boxed xs s.μ).2 } σ H ∧ RepL Ca F ρ' H (boxed xs s.μ).1 vs
  | [], vs, ρ, s, S, r => by
    cases r.1
    exact ⟨ρ, Gr.refl _ _ _, S, .nil⟩
  | (false, d) :: xs, _, ρ, s, S, r => by
    cases h : r.1 with
    | cons t _ =>
      obtain ⟨ρ', g, S', l⟩ := box_all xs _ ρ s S r.tail
      exact ⟨ρ', g, S', .cons (Rep.mono g _ _ t.1) l⟩
  | (true, d) :: xs, _, ρ, s, S, r => by
    cases h : r.1 with
    | @cons _ v _ vs t rest =>
      have t' := t
      obtain ⟨a, rfl, c, nF, nρ, np⟩ := t'.1
      obtain ⟨S1, at'⟩ := S.box1 t
      have g1 : Gr F ρ H F (ρ ++ [a]) H := Gr.more _
      have keep : ∀ {xs : List (Bool × D)} {vs : List V}, Paired (Tmp Ca Pr F ρ s σ H) xs vs → (∀ (j : Nat) (e1 : D) (u : V), xs[j]? = some (true, e1) → vs[j]? = some u → u ≠ .ref a) → Paired (Tmp Ca Pr F (ρ ++ [a]) { s with μ := s.μ ++ [.val d] } σ H) xs vs := by
        intro xs vs p
        induction p with
        | nil => intro _; exact .nil
        | @cons x v _ _ r t ih =>
          intro f
          refine .cons ⟨?_, r.2⟩ (ih fun j e1 u h1 h2 => f (j + 1) e1 u (by simpa using h1) (by simpa using h2))
          have r1 := r.1
          unfold Val at r1 ⊢
          split
          · rename_i hx
            rw [if_pos hx] at r1
            obtain ⟨b, rfl, c', f', m, q⟩ := r1
            refine ⟨b, rfl, c'.mono g1 (fun _ e => e), f', fun z => ?_, q⟩
            rcases List.mem_append.mp z with z | z
            · exact m z
            · rw [List.mem_singleton] at z; subst z
              obtain ⟨o1, d1⟩ := x
              cases hx
              exact f 0 d1 _ rfl rfl rfl
          · rename_i hx
            rw [if_neg hx] at r1
            exact Rep.mono g1 _ _ r1
      have r2 : RX Ca Pr σ F (ρ ++ [a]) { s with μ := s.μ ++ [.val d] } H xs vs := by
        refine ⟨keep rest fun j e1 u h1 h2 z => ?_, r.tail.2⟩
        subst z
        exact absurd (r.2 0 (j + 1) d e1 (.ref a) rfl (by simpa using h1) rfl (by simpa using h2)) (by simp)
      obtain ⟨ρ', g, S', l⟩ := box_all xs vs (ρ ++ [a]) { s with μ := s.μ ++ [.val d] } S1 r2
      refine ⟨ρ', g1.trans g, S', .cons ?_ l⟩
      simp only [Rep]
      exact ⟨a, rfl, g.get at'⟩

/-! ### dict displays -/
theorem RepK.put {F : Addr → Prop} {ρ : List Addr} {H : Hp} {k : Key} {d : D} {v : V} (r : Rep Ca F ρ H d v) {kvs : List (Key × D)} {ws : List (Key × V)} (l : RepK Ca F ρ H kvs ws) : RepK Ca F ρ H (Iv.putK kvs k d) (L2.putK ws k v) := by
  have any_eq : ∀ {kvs : List (Key × D)} {ws : List (Key × V)}, RepK Ca F ρ H kvs ws → (kvs.any fun kv => decide (kv.1 = k)) = (ws.any fun kv => decide (kv.1 = k)) := by
    intro kvs
    induction kvs with
    | nil => intro ws l; simp only [RepK] at l; subst l; rfl
    | cons p kvs ih =>
      intro ws l
      obtain ⟨j, x⟩ := p
      simp only [RepK] at l
      obtain ⟨w, t, rfl, _, rl⟩ := l
      rw [List.any_cons, List.any_cons, ih rl]
  have mp : ∀ {kvs : List (Key × D)} {ws : List (Key × V)}, RepK Ca F ρ H kvs ws → RepK Ca F ρ H (kvs.map fun kv => if kv.1 = k then (kv.1, d) else kv) (ws.map fun kv => if kv.1 = k then (kv.1, v) else kv) := by
    intro kvs
    induction kvs with
    | nil => intro ws l; simp only [RepK] at l; subst l; simp only [List.map_nil, RepK]
    | cons p kvs ih =>
      intro ws l
      obtain ⟨j, x⟩ := p
      simp only [RepK] at l
      obtain ⟨w, t, rfl, rx, rl⟩ := l
      rw [List.map_cons, List.map_cons]
      by_cases e : j = k
      · simp only [e, if_true, RepK]
        exact ⟨v, _, rfl, r, ih rl⟩
      · simp only [e, if_false, RepK]
        exact ⟨w, _, rfl, rx, ih rl⟩
  have ap : ∀ {kvs : List (Key × D)} {ws : List (Key × V)}, RepK Ca F ρ H kvs ws → RepK Ca F ρ H (kvs ++ [(k, d)]) (ws ++ [(k, v)]) := by
    intro kvs
    induction kvs with
    | nil => intro ws l; simp only [RepK] at l; subst l; simp only [List.nil_append, RepK]; exact ⟨v, [], rfl, r, rfl⟩
    | cons p kvs ih =>
      intro ws l
      obtain ⟨j, x⟩ := p
      simp only [RepK] at l
      obtain ⟨w, t, rfl, rx, rl⟩ := l
      simp only [List.cons_append, RepK]
      exact ⟨w, _, rfl, rx, ih rl⟩
  unfold Iv.putK L2.putK
  rw [any_eq l]
  split
  · exact mp l
  · exact ap l
theorem RepK.merge {F : Addr → Prop} {ρ : List Addr} {H : Hp} : ∀ (ks : List Str) (ds : List D) (vs : List V) (kvs : List (Key × D)) (ws : List (Key × V)), RepL Ca F ρ H ds vs → RepK Ca F ρ H kvs ws →
    RepK Ca F ρ H (((ks.map fun k => (Sum.inr k : Key)).zip ds).foldl (fun a p => Iv.putK a p.1 p.2) kvs) (mergeK ws ((ks.map fun k => (Sum.inr k : Key)).zip vs))
  | [], ds, vs, kvs, ws, _, l => l
  | k :: ks, [], vs, kvs, ws, h, l => by simp only [RepL] at h; subst h; exact l
  | k :: ks, d :: ds, vs, kvs, ws, h, l => by
    simp only [RepL] at h
    obtain ⟨v, r, rfl, rd, rl⟩ := h
    simp only [List.map_cons, List.zip_cons_cons, List.foldl_cons, mergeK]
    exact RepK.merge ks ds r _ _ rl (l.put rd)
/-- the pairs of a display -/
inductive DPs (X : Cx) (Ca : Cn) (W : WX) : List (Option Expr) → List Expr → List Str → (S → Res (List (Bool × D))) → Prop where
  | nil : DPs X Ca W [] [] [] fun s => .ok [] s
  | cons {k : Str} {u : Nat → Nat} {n : Nat} {p : Pos} {e : Expr} {ke : Expr} {ks : List (Option Expr)} {es : List Expr} {xs : List Str} {fe : S → Res (Bool × D)} {fs : S → Res (List (Bool × D))} (hk : PE X ke (tC (.str k))) (h : PEv X Ca W e fe) (t : DPs X Ca W ks es xs fs) :
      DPs X Ca W (some ke :: ks) (e :: es) (k :: xs) fun s => (fe s).bind fun x s => (fs s).bind fun xs s => .ok (x :: xs) s
theorem dps_run {pos : Pos} {ks : List (Option Expr)} {es : List Expr} {xs : List Str} {f : S → Res (List (Bool × D))} (h : DPs X Ca W ks es xs f) :
    ∃ trs, PPs X pos ks es trs ∧ ks.length = es.length ∧ xs.length = ks.length ∧ ks.all (·.isSome) = true ∧ ∀ σ H (Q : List V → Hp → Prop) (P : List (V × V) → Hp → Prop), (∀ vs H2, Q vs H2 → P (((xs.map fun k => (Sum.inr k : Key)).zip vs).map fun kv => (kV kv.1, kv.2)) H2) → Run Ca W (RX Ca) f σ H Q → tPairs trs σ H P := by
  induction h with
  | nil => exact ⟨[], pps_nil, rfl, rfl, rfl, fun σ H Q P w ⟨Pr, F, ρ, s, S, q⟩ => w [] H (q.fin S rx_nil)⟩
  | @cons k u n p e ke ks es xs fe fs hk h t ih =>
    obtain ⟨trs, h1, h2, h3, h4, h5⟩ := ih
    refine ⟨(tC (.str k), _) :: trs, pps_cons hk h h1, by simp [h2], by simp [h3], by simp [h4], fun σ H Q P w ⟨Pr, F, ρ, s, S, q⟩ => ?_⟩
    refine ⟨Pr, F, ρ, s, S, (Ans.bind (Rl := RV Ca Pr σ) q).mono ?_⟩
    rintro v H1 ⟨x, s1, F1, ρ1, gr, S1, tv, q1⟩
    exact h5 σ H1 (fun vs H2 => Q (v :: vs) H2) _ (fun vs H2 z => w (v :: vs) H2 z) (then_many (k := fs) (fin := fun xs s => .ok xs s) S1 tv q1 fun xs vs s' F' ρ' H' g' S' r' q' => q'.fin S' r')
/-- what was guarded is filled and is free again -/
theorem Sta.fill {Pr : Hp} {F : Addr → Prop} {ρ : List Addr} {s : Iv.S} {σ : L2.St} {H : Hp} {p : Addr} {o o' : HO} {d : D} (S : Sta Ca (upd Pr p o) F ρ s σ H) (np : Pr p = none) (hc : Cont Ca F ρ (upd H p o') d p) (so : softO o = true := by rfl) :
    Sta Ca Pr F ρ s σ (upd H p o') ∧ Gr F ρ H F ρ (upd H p o') ∧ Tmp Ca Pr F ρ s σ (upd H p o') (true, d) (.ref p) := by
  have pp : upd Pr p o p = some o := upd_same
  have nF : ¬ F p := S.pF p o pp
  have nρ : p ∉ ρ := fun m => by have := S.pρ p m; rw [pp] at this; cases this
  have g : Gr F ρ H F ρ (upd H p o') := Gr.upd nF
  have le := guard_le (Pr := Pr) (a := p) (o := o) np
  have keep : ∀ {b : Addr}, b ≠ p → ∀ u, H b = some u → upd H p o' b = some u := fun nb u e => by rw [upd_ne nb]; exact e
  have own : ∀ {d' : D} {v : V}, Own Ca (upd Pr p o) F ρ H d' v → Own Ca Pr F ρ (upd H p o') d' v ∧ v ≠ .ref p := fun w => by
    obtain ⟨b, rfl, c, f, m, q⟩ := w
    have nb : b ≠ p := fun z => by subst z; rw [pp] at q; cases q
    exact ⟨⟨b, rfl, c.mono g (keep nb), f, m, none_less le q⟩, fun z => by cases z; exact nb rfl⟩
  refine ⟨⟨S.len, S.nd, fun b f => ?_, fun n b q h1 h2 => (S.bx n b q h1 h2).mono g (keep fun z => by subst z; exact nρ (List.mem_of_getElem? h2)), S.bF, fun b m => ?_, fun i x h => ?_, S.ow, fun b u e => ?_, fun b u e => S.pF b u (le b u e), fun b m => none_less le (S.pρ b m), S.ln, tabs_set S.tb (S.pr p _ pp) so, nt_set (fun b ps e => let ⟨n1, n2, n3⟩ := S.nt b ps e; ⟨n1, n2, none_less le n3⟩) (cont_nt hc), fun b u e => S.so b u (le b u e)⟩, g, ⟨⟨p, rfl, hc, nF, nρ, np⟩, fun _ i d' hi hv => ?_⟩⟩
  · obtain ⟨u, e⟩ := S.fd b f
    exact ⟨u, keep (fun z => by subst z; exact nF f) u e⟩
  · obtain ⟨u, e⟩ := S.rd b m
    exact ⟨u, keep (fun z => by subst z; exact nρ m) u e⟩
  · obtain ⟨v, h1, r⟩ := S.sl i x h
    refine ⟨v, h1, ?_⟩
    unfold Val at r ⊢
    split
    · rename_i hx
      rw [if_pos hx] at r
      exact (own r).1
    · rename_i hx
      rw [if_neg hx] at r
      exact Rep.mono g _ _ r
  · exact keep (fun z => by subst z; rw [np] at e; cases e) u (S.pr b u (le b u e))
  · obtain ⟨u, hu, r⟩ := S.sl i _ hi
    rw [hv] at hu
    obtain rfl : V.ref p = u := by simpa using hu
    exact (own r).2 rfl
theorem sd_dct {ks : List (Option Expr)} {xs : List Str} {f : S → Res (List (Bool × D))} (h : DPs X Ca W ks es xs f) (h0 : ks ≠ []) (h15 : ks.length ≤ 15) : PEv X Ca W (.Dict ks es pos) fun s => (f s).bind fun ys s =>
    if xs.length = ys.length ∧ xs.length ≤ 15 then .ok (false, .box (boxed ys s.μ).2.length) { s with μ := (boxed ys s.μ).2 ++ [.val (.dK (((xs.map fun k => (Sum.inr k : Key)).zip (boxed ys s.μ).1).foldl (fun a p => Iv.putK a p.1 p.2) []))] } else .no := by
  obtain ⟨trs, h1, h2, h3, h4, h5⟩ := dps_run (pos := pos) h
  refine PE.imp (pe_disp h1 h4 h2 h0 h15) fun σ H Q ⟨Pr, F, ρ, s, S, q⟩ p hp => ?_
  obtain ⟨S1, g1, t1⟩ := S.born (d := .dK []) hp (S.noslot hp) (o := .dK []) ⟨[], upd_same, by simp only [RepK]⟩
  have np := S.fresh_Pr hp
  have le := guard_le (Pr := Pr) (a := p) (o := .dK []) np
  refine h5 σ _ _ _ (fun vs H2 z => z) ⟨upd Pr p (.dK []), F, ρ, s, S1.guard t1 upd_same, (Ans.bindL (Rl := RX Ca (upd Pr p (.dK [])) σ) le (q.start g1)).mono ?_⟩
  rintro vs H2 ⟨ys, s1, F1, ρ1, gr, S2, r2, q2⟩
  split at q2
  · rename_i hl
    obtain ⟨ρ', g3, S3, l⟩ := box_all ys vs ρ1 s1 S2 r2
    have lz : (((xs.map fun k => (Sum.inr k : Key)).zip vs)).length ≤ 15 := by
      rw [List.length_zip, List.length_map]; exact Nat.le_trans (Nat.min_le_left _ _) hl.2
    refine ⟨S2.pr p _ upd_same, _, rfl, lz, ?_⟩
    have nF : ¬ F1 p := S2.pF p _ upd_same
    have gu : ∀ o : HO, Gr F1 ρ' H2 F1 ρ' (upd H2 p o) := fun o => Gr.upd nF
    obtain ⟨S4, g4, t4⟩ := S3.fill (o' := .dK (mergeK [] ((xs.map fun k => (Sum.inr k : Key)).zip vs))) (d := .dK (((xs.map fun k => (Sum.inr k : Key)).zip (boxed ys s1.μ).1).foldl (fun a p => Iv.putK a p.1 p.2) [])) np
      ⟨_, upd_same, RepK.merge xs _ vs [] [] (RepL.mono (gu _) _ _ l) (by simp only [RepK])⟩
    obtain ⟨S5, at5⟩ := S4.box1 t4
    refine q2 F1 (ρ' ++ [p]) _ (.ref p) (g3.trans (g4.trans (Gr.more _))) S5 (tmp_of ?_)
    simp only [Rep]
    exact ⟨p, rfl, at5⟩
  · exact q2.elim
theorem sd_neg {fa : S → Res (Bool × D)} (h : PEv X Ca W a fa) : PEv X Ca W (.UnaryOp .USub a pos) fun s => (fa s).bind fun x s => match x.2 with | .int i => .ok (false, .int (-i)) s | _ => .no := PE.imp (pe_un un_neg h) fun σ H Q ⟨Pr, F, ρ, s, S, q⟩ => by
  refine ⟨Pr, F, ρ, s, S, (Ans.bind (Rl := RV Ca Pr σ) q).mono ?_⟩
  rintro v H1 ⟨⟨o, d⟩, s1, F1, ρ1, g, S1, t, q1⟩
  obtain ⟨F2, g2, S2, r⟩ := S1.freeze t
  have q2 := q1.start g2
  cases d <;> try exact q2.elim
  rename_i i
  simp only [Rep] at r
  exact ⟨i, r, q2.fin S2 (tmp_of (by simp only [Rep]))⟩
end
end Iv
end
section
set_option Elab.async false
set_option linter.all false
/-! Walks and comprehensions. My own work. -/
namespace Iv
open PySem L2
open PySem (Str)

section
variable {α β : Type} {X : Cx} {W : WX} {Ca : Cn} {g : G} {e a b c tg : Expr} {es : List Expr} {pos : Pos}

/-! ### what is walked -/
/-- the iterator J gives these values, whatever else may happen -/
def Feeds (J : It) (F : Addr → Prop) (ρ : List Addr) (H : Hp) (vs : List V) : Prop :=
  ∀ F' ρ' H', Gr F ρ H F' ρ' H' → (∀ i, vs.length ≤ i → J.stop i H') ∧ (∀ i, i < vs.length → J.go i H') ∧ ∀ i x H2, J.yld i H' x H2 → H2 = H' ∧ (i < vs.length → vs[i]? = some x)
def RI (Ca : Cn) : Rel' (List D) It := fun _ _ F ρ _ H xs J => ∃ vs, RepL Ca F ρ H xs vs ∧ Feeds J F ρ H vs
theorem Feeds.mono {J : It} {F F' : Addr → Prop} {ρ ρ' : List Addr} {H H' : Hp} {vs : List V} (gr : Gr F ρ H F' ρ' H') (f : Feeds J F ρ H vs) : Feeds J F' ρ' H' vs := fun F2 ρ2 H2 g2 => f F2 ρ2 H2 (gr.trans g2)
theorem rd_lst {F F' : Addr → Prop} {ρ ρ' : List Addr} {H H' : Hp} {a : Addr} {vs : List V} (g : Gr F ρ H F' ρ' H') (fa : F a) (h : Rd H a (.lst vs)) : Rd H' a (.lst vs) := by
  rcases h with h | ⟨o, h⟩
  · exact .inl (g.l a _ fa h rfl)
  · exact .inr ⟨o, g.l a _ fa h rfl⟩
theorem rd_uniq {H : Hp} {a : Addr} {xs ys : List V} (h : Rd H a (.lst xs)) (q : Rd H a (.lst ys)) : xs = ys := by
  rcases h with h | ⟨o, h⟩ <;> rcases q with q | ⟨o', q⟩ <;> rw [h] at q <;> cases q <;> rfl
theorem feeds_tup {F : Addr → Prop} {ρ : List Addr} {H : Hp} {a : Addr} {vs : List V} (fa : F a) (h : H a = some (.tup vs)) : Feeds (Itt X.K a) F ρ H vs := fun F' ρ' H' gr => by
  have q : SqT X.K H' a vs := SqT.of (gr.l a _ fa h rfl)
  exact ⟨fun i hi => ⟨vs, q, hi⟩, fun i hi => ⟨vs, vs[i], q, List.getElem?_eq_getElem hi⟩, fun i x H2 ⟨e, y⟩ => ⟨e, fun _ => y vs q⟩⟩
theorem feeds_rng {F : Addr → Prop} {ρ : List Addr} {H : Hp} {lo : Int} {n : Nat} : Feeds (Itr lo n) F ρ H ((List.range n).map fun (i : Nat) => V.int (lo + (i : Int))) := fun F' ρ' H' gr => by
  refine ⟨fun i hi => ?_, fun i hi => ?_, fun i x H2 ⟨e, y⟩ => ⟨e, fun hi => ?_⟩⟩
  · show n ≤ i; simpa using hi
  · show i < n; simpa using hi
  · have hi : i < n := by simpa using hi
    subst y
    simp [hi]
theorem RepL.ofRng {F : Addr → Prop} {ρ : List Addr} {H : Hp} {lo : Int} : ∀ l : List Nat, RepL Ca F ρ H (l.map fun (i : Nat) => D.int (lo + (i : Int))) (l.map fun (i : Nat) => V.int (lo + (i : Int)))
  | [] => .nil
  | i :: l => .cons (by simp only [Rep]) (RepL.ofRng l)
theorem PI.or {iter : Expr} {t u : TI} (h : PI X tg iter t) (q : PI X tg iter u) : PI X tg iter (fun σ H R => t σ H R ∨ u σ H R) := ⟨fun pins s σ H R I z => z.elim (h.run pins s σ H R I) (q.run pins s σ H R I)⟩
theorem PI.imp {iter : Expr} {t t' : TI} (h : PI X tg iter t) (w : ∀ σ H Q, t' σ H Q → t σ H Q) : PI X tg iter t' := ⟨fun pins s σ H Q I q => h.run pins s σ H Q I (w σ H Q q)⟩
abbrev PIv (X : Cx) (Ca : Cn) (W : WX) (tg iter : Expr) (f : S → Res (List D)) : Prop := PI X tg iter (Run Ca W (RI Ca) f)
theorem sd_iseq {fe : S → Res (Bool × D)} (h : PEv X Ca W e fe) : PIv X Ca W tg e fun s => ((fe s).bind fun x s => .ok [x.2] s).bind fun xs s => Res.of (items .seq xs) s := by
  refine PI.imp (PI.or (pi_list h) (pi_tup h)) fun σ H Q ⟨Pr, F, ρ, s, S, q⟩ => ?_
  dsimp only at q
  rw [Res.assoc] at q
  have main : ∀ (P : V → Hp → Prop), (∀ v H1 x s1 F1 ρ1, Gr F ρ H F1 ρ1 H1 → Sta Ca Pr F1 ρ1 s1 σ H1 → Rep Ca F1 ρ1 H1 x v → Ans Ca W Pr σ (RI Ca Pr σ) F1 ρ1 H1 (Res.of (items .seq [x]) s1) Q → (∃ o, fe s = .ok (o, x) s1) → P v H1) → Run Ca W (RV Ca) fe σ H P := fun P hP => by
    refine ⟨Pr, F, ρ, s, S, ?_⟩
    cases hf : fe s with
    | ok x s1 =>
      rw [hf] at q
      intro F1 ρ1 H1 v gr S1 t
      obtain ⟨F2, g2, S2, r⟩ := S1.freeze t
      exact hP v H1 x.2 s1 F2 ρ1 (gr.trans g2) S2 r (Ans.start (gr.trans g2) q) ⟨x.1, hf⟩
    | ex c s1 => rw [hf] at q; exact q
    | no => rw [hf] at q; exact q
  by_cases ht : ∃ o xs s1, fe s = .ok (o, .tup xs) s1
  · right
    obtain ⟨o, xs, s1', hf⟩ := ht
    refine main _ fun v H1 x s1 F1 ρ1 gr S1 r q1 ⟨o', e⟩ => ?_
    rw [hf] at e
    cases e
    simp only [Rep] at r
    obtain ⟨a, vs, rfl, fa, ha, l⟩ := r
    exact ⟨a, rfl, ⟨vs, SqT.of ha⟩, Ans.fin (show Ans Ca W Pr σ (RI Ca Pr σ) F1 ρ1 H1 (.ok xs s1') Q from q1) S1 ⟨vs, l, feeds_tup fa ha⟩⟩
  · left
    refine main _ fun v H1 x s1 F1 ρ1 gr S1 r q1 ⟨o', e⟩ => ?_
    cases x <;> try exact q1.elim
    · exact absurd ⟨_, _, _, e⟩ ht
    · rename_i xs _
      simp only [Rep] at r
      obtain ⟨a, vs, rfl, fa, ha, l⟩ := r
      exact ⟨a, rfl, ⟨vs, SqL.of ha⟩, Ans.fin (show Ans Ca W Pr σ (RI Ca Pr σ) F1 ρ1 H1 (.ok xs s1) Q from q1) S1 ⟨vs, l, fun F' ρ' H' gr => by
        have q : SqL X.K H' a vs := .inl (rd_lst gr fa (.inl ha))
        exact ⟨fun i hi => ⟨vs, q, hi⟩, fun i hi => ⟨vs, vs[i], q, List.getElem?_eq_getElem hi⟩, fun i x H2 ⟨e, y⟩ => ⟨e, fun _ => y vs q⟩⟩⟩⟩
    · rename_i xs _
      simp only [Rep] at r
      obtain ⟨a, vs, o, rfl, fa, ha, l⟩ := r
      exact ⟨a, rfl, ⟨vs, .inl (.inr ⟨o, ha⟩)⟩, Ans.fin (show Ans Ca W Pr σ (RI Ca Pr σ) F1 ρ1 H1 (.ok xs s1) Q from q1) S1 ⟨vs, l, fun F' ρ' H' gr => by
        have q : SqL X.K H' a vs := .inl (rd_lst gr fa (.inr ⟨o, ha⟩))
        exact ⟨fun i hi => ⟨vs, q, hi⟩, fun i hi => ⟨vs, vs[i], q, List.getElem?_eq_getElem hi⟩, fun i x H2 ⟨e, y⟩ => ⟨e, fun _ => y vs q⟩⟩⟩⟩
theorem rng_ok {j : Int} (h : rngOk j = true) : -(2 ^ 62) ≤ j ∧ j < 2 ^ 62 := by
  unfold rngOk at h
  simp only [Bool.and_eq_true, decide_eq_true_eq] at h
  have e : (2 : Int) ^ 62 = 4611686018427387904 := by decide
  omega
theorem sd_irng1 {fs : S → Res (List D)} {p : Pos} (hg : Gl X "range") (hm : X.mg "range" = none) (pl : plainX a = true) (h : PAv X Ca W [a] fs) : PIv X Ca W tg (.Call (.Name "range" p) [a] [] pos) fun s => (fs s).bind fun xs s => Res.of (items .rng1 xs) s := by
  have pl' : plainXs [a] = true := by unfold plainXs; simp [pl]
  refine PI.imp (pi_range1 hg hm h (star_all pl')) fun σ H Q ⟨Pr, F, ρ, s, S, q⟩ => ?_
  refine ⟨Pr, F, ρ, s, S, (Ans.bind (Rl := RL Ca Pr σ) q).mono ?_⟩
  rintro vs H1 ⟨xs, s1, F1, ρ1, gr, S1, l, q1⟩
  rcases xs with _ | ⟨x, _ | ⟨y, ys⟩⟩ <;> try exact q1.elim
  · cases x <;> try exact q1.elim
    rename_i j
    obtain ⟨z, ez, q2⟩ := Ans.of q1
    have ez : (if rngOk j then some ((List.range j.toNat).map fun (i : Nat) => D.int (0 + (i : Int))) else none) = some z := ez
    split at ez
    · rename_i hj
      simp only [Option.some.injEq] at ez; subst ez
      have l : RepL Ca F1 ρ1 H1 _ vs := l
      simp only [RepL] at l
      obtain ⟨w, r, rfl, rw', rfl⟩ := l
      simp only [Rep] at rw'
      subst rw'
      exact ⟨j, rfl, (rng_ok hj).1, (rng_ok hj).2, q2.fin S1 ⟨_, RepL.ofRng _, feeds_rng⟩⟩
    · cases ez
  · cases x <;> exact q1.elim
theorem sd_irng2 {fs : S → Res (List D)} {p : Pos} (hg : Gl X "range") (hm : X.mg "range" = none) (pl : plainX a = true) (pl2 : plainX b = true) (h : PAv X Ca W [a, b] fs) : PIv X Ca W tg (.Call (.Name "range" p) [a, b] [] pos) fun s => (fs s).bind fun xs s => Res.of (items .rng2 xs) s := by
  have pl' : plainXs [a, b] = true := by unfold plainXs; simp [pl, pl2]
  have pl3 : plainXs [b] = true := by unfold plainXs; simp [pl2]
  refine PI.imp (pi_range2 hg hm h (star_all pl') (star_all pl3)) fun σ H Q ⟨Pr, F, ρ, s, S, q⟩ => ?_
  refine ⟨Pr, F, ρ, s, S, (Ans.bind (Rl := RL Ca Pr σ) q).mono ?_⟩
  rintro vs H1 ⟨xs, s1, F1, ρ1, gr, S1, l, q1⟩
  rcases xs with _ | ⟨x, _ | ⟨y, _ | ⟨z, zs⟩⟩⟩
  · exact q1.elim
  · cases x <;> exact q1.elim
  · cases x <;> try (exact q1.elim)
    cases y <;> try (exact q1.elim)
    rename_i i j
    obtain ⟨z, ez, q2⟩ := Ans.of q1
    have ez : (if (rngOk i && rngOk j) = true then some ((List.range (j - i).toNat).map fun (k : Nat) => D.int (i + (k : Int))) else none) = some z := ez
    split at ez
    · rename_i hj
      rw [Bool.and_eq_true] at hj
      simp only [Option.some.injEq] at ez; subst ez
      have l : RepL Ca F1 ρ1 H1 _ vs := l
      simp only [RepL] at l
      obtain ⟨w, r, rfl, rw', w2, r2, rfl, rw2, rfl⟩ := l
      simp only [Rep] at rw' rw2
      subst rw'; subst rw2
      exact ⟨i, j, rfl, ⟨(rng_ok hj.1).1, (rng_ok hj.1).2, (rng_ok hj.2).1, (rng_ok hj.2).2⟩, q2.fin S1 ⟨_, RepL.ofRng _, feeds_rng⟩⟩
    · cases ez
  · cases x <;> try (exact q1.elim)
    cases y <;> exact q1.elim
end
end Iv
end
section
set_option Elab.async false
set_option linter.all false
/-! Comprehensions. My own work. -/
namespace Iv
open PySem L2
open PySem (Str)

section
variable {α β γ δ : Type} {X : Cx} {W Wn : WX} {Ca : Cn} {g : G} {pos : Pos}
/-- no exception leaves a comprehension -/
def noEx {α : Type} : Res α → Res α
  | .ex _ _ => .no
  | r => r
theorem noEx_bind (r : Res α) (k : α → S → Res β) : noEx (r.bind k) = (noEx r).bind fun x s => noEx (k x s) := by cases r <;> rfl
theorem Ans.inner {r : Res α} {Pr Pr' : Hp} {σ σ' : L2.St} {F : Addr → Prop} {ρ : List Addr} {H : Hp} {Rl : (Addr → Prop) → List Addr → S → Hp → α → β → Prop} {Rl2 : (Addr → Prop) → List Addr → S → Hp → γ → δ → Prop} {k : α → S → Res γ} {Q2 : δ → Hp → Prop} (h : Ans Ca W Pr σ Rl2 F ρ H ((noEx r).bind k) Q2) :
    Ans Ca Wn Pr' σ' Rl F ρ H r (fun v H1 => ∃ x s1 F1 ρ1, Gr F ρ H F1 ρ1 H1 ∧ Sta Ca Pr' F1 ρ1 s1 σ' H1 ∧ Rl F1 ρ1 s1 H1 x v ∧ Ans Ca W Pr σ Rl2 F1 ρ1 H1 (k x s1) Q2) := by
  cases r with
  | ok x s => exact fun F' ρ' H' v g S q => ⟨x, s, F', ρ', g, S, q, Ans.start g h⟩
  | ex c s => exact False.elim h
  | no => exact h
/-- slots: a value that stands still is stored -/
theorem Sta.store {Pr : Hp} {F : Addr → Prop} {ρ : List Addr} {s : Iv.S} {σ : L2.St} {H : Hp} {d : D} {v : V} (S : Sta Ca Pr F ρ s σ H) (i : Nat) (r : Rep Ca F ρ H d v) : Sta Ca Pr F ρ { s with σ := s.σ.set i (some (false, d)) } (σ.set i (some v)) H := by
  refine ⟨S.len, S.nd, S.fd, S.bx, S.bF, S.rd, fun j x h => ?_, fun j k d1 d2 u h1 h2 h3 h4 => ?_, S.pr, S.pF, S.pρ, by simpa using S.ln, S.tb, S.nt, S.so⟩
  · by_cases e : i = j
    · subst e
      have lt : i < s.σ.length := by
        have := (List.getElem?_eq_some_iff.mp h).1
        simpa using this
      have h : (s.σ.set i (some (false, d)))[i]? = some (some x) := h
      rw [List.getElem?_set_self lt] at h
      obtain rfl : (false, d) = x := by simpa using h
      exact ⟨v, by rw [List.getElem?_set_self (Nat.lt_of_lt_of_le lt S.ln)], r⟩
    · have h : (s.σ.set i (some (false, d)))[j]? = some (some x) := h
      rw [List.getElem?_set_ne e] at h
      obtain ⟨u, h1, q⟩ := S.sl j x h
      exact ⟨u, by rw [List.getElem?_set_ne e]; exact h1, q⟩
  · have own : ∀ (m : Nat) (e : D), (s.σ.set i (some (false, d)))[m]? = some (some (true, e)) → i ≠ m ∧ s.σ[m]? = some (some (true, e)) := fun m e hm => by
      by_cases em : i = m
      · subst em
        have lt : i < s.σ.length := by have := (List.getElem?_eq_some_iff.mp hm).1; simpa using this
        rw [List.getElem?_set_self lt] at hm; cases hm
      · rw [List.getElem?_set_ne em] at hm; exact ⟨em, hm⟩
    obtain ⟨n1, a1⟩ := own j d1 h1
    obtain ⟨n2, a2⟩ := own k d2 h2
    rw [List.getElem?_set_ne n1] at h3
    rw [List.getElem?_set_ne n2] at h4
    exact S.ow j k d1 d2 u a1 a2 h3 h4
theorem wipe_len (σ : List (Option (Bool × D))) : ∀ vs : List Nat, (Iv.wipe σ vs).length = σ.length
  | [] => rfl
  | v :: vs => by unfold Iv.wipe; rw [List.length_set, wipe_len σ vs]
theorem wipe_at {σ : List (Option (Bool × D))} {i : Nat} {x : Bool × D} : ∀ {vs : List Nat}, (Iv.wipe σ vs)[i]? = some (some x) → σ[i]? = some (some x) ∧ i ∉ vs
  | [], h => ⟨h, by simp⟩
  | v :: vs, h => by
    unfold Iv.wipe at h
    by_cases hi : v = i
    · subst hi
      by_cases hv : v < (Iv.wipe σ vs).length
      · rw [List.getElem?_set_self hv] at h; cases h
      · rw [List.getElem?_eq_none (by simpa using hv)] at h; cases h
    · rw [List.getElem?_set_ne hi] at h
      obtain ⟨h1, h2⟩ := wipe_at h
      exact ⟨h1, by simp only [List.mem_cons, not_or]; exact ⟨fun e => hi e.symm, h2⟩⟩
theorem wipe_out {σ : L2.St} {i : Nat} : ∀ {vs : List Nat}, i ∉ vs → (L2.wipe σ vs)[i]? = σ[i]?
  | [], _ => rfl
  | v :: vs, h => by
    unfold L2.wipe
    rw [List.getElem?_set_ne (fun e => h (by rw [e]; exact List.mem_cons_self))]
    exact wipe_out fun m => h (List.mem_cons_of_mem _ m)
/-- other slots, where those that are known are among the old ones or stand still -/
theorem Sta.slots {Pr : Hp} {F : Addr → Prop} {ρ : List Addr} {s s' : Iv.S} {σ σ' : L2.St} {H : Hp} (S : Sta Ca Pr F ρ s σ H) (hμ : s'.μ = s.μ) (ln : s'.σ.length ≤ σ'.length)
    (h : ∀ (i : Nat) (x : Bool × D), s'.σ[i]? = some (some x) → (s.σ[i]? = some (some x) ∧ σ'[i]? = σ[i]?) ∨ (x.1 = false ∧ ∃ v, σ'[i]? = some (some v) ∧ Rep Ca F ρ H x.2 v)) : Sta Ca Pr F ρ s' σ' H := by
  refine ⟨by rw [hμ]; exact S.len, S.nd, S.fd, by rw [hμ]; exact S.bx, by rw [hμ]; exact S.bF, S.rd, fun i x e => ?_, fun j k d1 d2 u h1 h2 h3 h4 => ?_, S.pr, S.pF, S.pρ, ln, S.tb, S.nt, S.so⟩
  · rcases h i x e with ⟨a, b⟩ | ⟨a, v, b, r⟩
    · obtain ⟨v, h1, r⟩ := S.sl i x a
      exact ⟨v, by rw [b]; exact h1, r⟩
    · refine ⟨v, b, ?_⟩
      unfold Val
      rw [a, if_neg (by decide)]; exact r
  · rcases h j _ h1 with ⟨a1, b1⟩ | ⟨z, _⟩
    · rcases h k _ h2 with ⟨a2, b2⟩ | ⟨z, _⟩
      · exact S.ow j k d1 d2 u a1 a2 (by rw [← b1]; exact h3) (by rw [← b2]; exact h4)
      · cases z
    · cases z
theorem back_len (σ τ : List (Option (Bool × D))) : ∀ vs : List Nat, (Iv.back σ τ vs).length = τ.length
  | [] => rfl
  | v :: vs => by unfold Iv.back; rw [List.length_set, back_len σ τ vs]
theorem back_at {σ τ : List (Option (Bool × D))} {i : Nat} {x : Bool × D} : ∀ {vs : List Nat}, (Iv.back σ τ vs)[i]? = some (some x) → (τ[i]? = some (some x) ∧ i ∉ vs) ∨ (x.1 = false ∧ i ∈ vs ∧ σ[i]? = some (some x))
  | [], h => .inl ⟨h, by simp⟩
  | v :: vs, h => by
    unfold Iv.back at h
    by_cases hi : v = i
    · subst hi
      right
      by_cases hv : v < (Iv.back σ τ vs).length
      · rw [List.getElem?_set_self hv] at h
        simp only [Option.some.injEq] at h
        split at h
        · rename_i d hd
          simp only [Option.some.injEq] at h; subst h
          exact ⟨rfl, List.mem_cons_self, hd⟩
        · cases h
      · rw [List.getElem?_eq_none (by simpa using hv)] at h; cases h
    · rw [List.getElem?_set_ne hi] at h
      rcases back_at h with ⟨h1, h2⟩ | ⟨h1, h2, h3⟩
      · exact .inl ⟨h1, by simp only [List.mem_cons, not_or]; exact ⟨fun e => hi e.symm, h2⟩⟩
      · exact .inr ⟨h1, List.mem_cons_of_mem _ h2, h3⟩

/-- what one turn does -/
def lcBody (ft : S → Res Bool) (fe : S → Res (Bool × D)) (s : S) (acc : List D) : Res (List D) :=
  (ft s).bind fun b s => if b then (fe s).bind fun x s => if acc.length < sizeL then .ok (acc ++ [x.2]) s else .no else .ok acc s
def lcEnd (s : S) (own : List Nat) (acc : List D) (s1 : S) : Res (Bool × D) := .ok (true, .lst acc) { s1 with σ := back s.σ s1.σ own }
theorem lc_form (r : Res (List D)) (s : S) (own : List Nat) : (match r with
      | .ok acc s1 => .ok (true, .lst acc) { s1 with σ := back s.σ s1.σ own }
      | _ => .no : Res (Bool × D)) = (noEx r).bind (lcEnd s own) := by cases r <;> rfl
theorem upd_id {H : Hp} {a : Addr} {o : HO} (h : H a = some o) : upd H a o = H := by
  funext b
  by_cases e : b = a
  · subst e; rw [upd_same, h]
  · rw [upd_ne e]
/-- the state between two turns; K: what is still to be done -/
def LcAt (Ca : Cn) (Pr : Hp) (σ : L2.St) (own : List Nat) (dl : Addr) (F0 : Addr → Prop) (ρ0 : List Addr) (H0 : Hp) (K : (Addr → Prop) → List Addr → Hp → S → List D → Prop) (H : Hp) : Prop :=
  ∃ F ρ sT accD accV, Gr F0 ρ0 H0 F ρ H ∧ Sta Ca (upd Pr dl (.lst accV)) F ρ { sT with σ := Iv.wipe sT.σ own } (L2.wipe σ own) H ∧ RepL Ca F ρ H accD accV ∧ sT.σ.length ≤ σ.length ∧ K F ρ H sT accD
theorem turns_W {Pr : Hp} {σ : L2.St} {own : List Nat} {t : Nat} {dl : Addr} {F0 : Addr → Prop} {ρ0 : List Addr} {H0 H1 : Hp} {J : It} {l : List D} {vs : List V} {Fin : Hp → Prop} {Body : L2.St → Hp → (Hp → Prop) → Prop} (ht : t ∈ own)
    (K : Nat → (Addr → Prop) → List Addr → Hp → S → List D → Prop) (rl : RepL Ca F0 ρ0 H0 l vs) (fd : Feeds J F0 ρ0 H0 vs) (h0 : LcAt Ca Pr σ own dl F0 ρ0 H0 (K 0) H1)
    (step : ∀ (i : Nat) (d : D) (x : V) F ρ H sT accD accV, l.drop i = d :: l.drop (i + 1) → Gr F0 ρ0 H0 F ρ H → Sta Ca (upd Pr dl (.lst accV)) F ρ { sT with σ := (Iv.wipe sT.σ own).set t (some (false, d)) } ((L2.wipe σ own).set t (some x)) H → RepL Ca F ρ H accD accV → K i F ρ H sT accD →
      Body ((L2.wipe σ own).set t (some x)) H (LcAt Ca Pr σ own dl F0 ρ0 H0 (K (i + 1))))
    (last : ∀ F ρ H sT accD accV, Gr F0 ρ0 H0 F ρ H → Sta Ca (upd Pr dl (.lst accV)) F ρ { sT with σ := Iv.wipe sT.σ own } (L2.wipe σ own) H → RepL Ca F ρ H accD accV → sT.σ.length ≤ σ.length → K l.length F ρ H sT accD → Fin H) :
    ∃ W : Nat → Nat → Hp → Prop, (∃ m, W 0 m H1) ∧ ∀ i m H, W i m H → (J.stop i H ∧ Fin H) ∨ (J.go i H ∧ ∃ Nx : Hp → Prop, (∀ H', Nx H' → ∃ m', m' < m ∧ W (i + 1) m' H') ∧ ∀ x H', J.yld i H x H' → gName t x (L2.wipe σ own) H' fun σ2 H2 => L2.wipe σ2 own = L2.wipe σ own ∧ Body σ2 H2 Nx) := by
  refine ⟨fun i m H => m = vs.length - i ∧ i ≤ vs.length ∧ LcAt Ca Pr σ own dl F0 ρ0 H0 (K i) H, ⟨vs.length, by simp, Nat.zero_le _, h0⟩, ?_⟩
  rintro i m H ⟨rfl, hi, F, ρ, sT, accD, accV, gr, S, la, lnT, k⟩
  obtain ⟨f1, f2, f3⟩ := fd F ρ H gr
  by_cases lt : i < vs.length
  · refine .inr ⟨f2 i lt, LcAt Ca Pr σ own dl F0 ρ0 H0 (K (i + 1)), fun H' p => ⟨vs.length - (i + 1), by omega, rfl, lt, p⟩, fun x H' y => ?_⟩
    obtain ⟨eH, hy⟩ := f3 i x H' y
    subst eH
    have hx := hy lt
    have ltl : i < l.length := by rw [rl.len]; exact lt
    obtain ⟨w, hw, rw'⟩ := rl.get (List.getElem?_eq_getElem ltl)
    obtain rfl : w = x := by rw [hx] at hw; exact (Option.some.inj hw).symm
    refine ⟨?_, step i l[i] w F ρ H' sT accD accV (List.drop_eq_getElem_cons ltl) gr (S.store t (Rep.mono gr _ _ rw')) la k⟩
    have key : ∀ (vs : List Nat) (τ : L2.St), t ∈ vs → L2.wipe ((τ).set t (some w)) vs = L2.wipe τ vs := by
      intro vs
      induction vs with
      | nil => intro τ h; cases h
      | cons v vs ih =>
        intro τ h
        unfold L2.wipe
        by_cases e : v = t
        · subst e
          by_cases hm : v ∈ vs
          · rw [ih τ hm]
          · have : ∀ (vs : List Nat) (τ : L2.St), v ∉ vs → L2.wipe (τ.set v (some w)) vs = (L2.wipe τ vs).set v (some w) := by
              intro vs
              induction vs with
              | nil => intro τ _; rfl
              | cons u us ih2 =>
                intro τ h
                unfold L2.wipe
                rw [ih2 τ fun z => h (List.mem_cons_of_mem _ z), List.set_comm _ _ (fun z => h (by rw [z]; exact List.mem_cons_self))]
            rw [this vs τ hm, List.set_set]
        · rw [ih τ (by rcases List.mem_cons.mp h with z | z; exact absurd z.symm e; exact z)]
    rw [key own (L2.wipe σ own) ht]
    have idem : ∀ (vs us : List Nat) (τ : L2.St), (∀ v ∈ vs, v ∈ us) → L2.wipe (L2.wipe τ us) vs = L2.wipe τ us := by
      intro vs
      induction vs with
      | nil => intro us τ _; rfl
      | cons v vs ih =>
        intro us τ h
        show List.set (L2.wipe (L2.wipe τ us) vs) v none = L2.wipe τ us
        rw [ih us τ fun z hz => h z (List.mem_cons_of_mem _ hz)]
        have : ∀ (us : List Nat) (τ : L2.St), v ∈ us → (L2.wipe τ us).set v none = L2.wipe τ us := by
          intro us
          induction us with
          | nil => intro τ h; cases h
          | cons u us ih2 =>
            intro τ h
            unfold L2.wipe
            by_cases e : u = v
            · subst e; rw [List.set_set]
            · rw [List.set_comm _ _ e, ih2 τ (by rcases List.mem_cons.mp h with z | z; exact absurd z.symm e; exact z)]
        exact this us τ (h v List.mem_cons_self)
    exact idem own own σ fun v hv => hv
  · obtain rfl : i = vs.length := by omega
    refine .inl ⟨f1 _ (Nat.le_refl _), last F ρ H sT accD accV gr S la lnT ?_⟩
    rw [rl.len]; exact k
/-- between two turns the own names are forgotten -/
theorem Sta.wiped {Pr : Hp} {F : Addr → Prop} {ρ : List Addr} {s : Iv.S} {σ σ2 : L2.St} {H : Hp} {own : List Nat} (S : Sta Ca Pr F ρ s σ2 H) (hl : σ2.length = σ.length) (h : ∀ i, i ∉ own → σ2[i]? = σ[i]?) : Sta Ca Pr F ρ { s with σ := Iv.wipe s.σ own } (L2.wipe σ own) H := by
  refine S.slots rfl (by rw [wipe_len, L2.wipe_length]; rw [← hl]; exact S.ln) fun i x e => ?_
  obtain ⟨h1, h2⟩ := wipe_at e
  exact .inl ⟨h1, by rw [wipe_out h2, h i h2]⟩
theorem set_len {σ : L2.St} {own : List Nat} {t : Nat} {x : Option V} : ((L2.wipe σ own).set t x).length = σ.length := by rw [List.length_set, L2.wipe_length]
theorem set_out {σ : L2.St} {own : List Nat} {t : Nat} {x : Option V} (ht : t ∈ own) : ∀ i, i ∉ own → ((L2.wipe σ own).set t x)[i]? = σ[i]? := fun i hi => by
  rw [List.getElem?_set_ne (fun e => hi (by rw [← e]; exact ht)), wipe_out hi]
/-- tests, then an element or none -/
theorem lc_turn {Pr Pr' : Hp} {σ σ2 σf : L2.St} {own : List Nat} {dl : Addr} {F0 F : Addr → Prop} {ρ0 ρ : List Addr} {H0 H : Hp} {s : S} {accD : List D} {accV : List V} {ft : S → Res Bool} {fe : S → Res (Bool × D)} {γ δ : Type}
    {Rl : (Addr → Prop) → List Addr → S → Hp → γ → δ → Prop} {Q : δ → Hp → Prop} {rest : List D → S → Res γ} (np : Pr dl = none) (gr : Gr F0 ρ0 H0 F ρ H) (hl : σ2.length = σ.length) (ho : ∀ i, i ∉ own → σ2[i]? = σ[i]?)
    (S : Sta Ca (upd Pr dl (.lst accV)) F ρ s σ2 H) (la : RepL Ca F ρ H accD accV) (q : Ans Ca W Pr' σf Rl F ρ H ((noEx (lcBody ft fe s accD)).bind rest) Q) :
    Run Ca Wn RB ft σ2 H fun b H3 => if b = true then Run Ca Wn (RV Ca) fe σ2 H3 fun y H4 => ∃ acc, H4 dl = some (.lst acc) ∧ acc.length < sizeLine ∧ LcAt Ca Pr σ own dl F0 ρ0 H0 (fun F ρ H sT acc => Ans Ca W Pr' σf Rl F ρ H (rest acc sT) Q) (upd H4 dl (.lst (acc ++ [y])))
      else LcAt Ca Pr σ own dl F0 ρ0 H0 (fun F ρ H sT acc => Ans Ca W Pr' σf Rl F ρ H (rest acc sT) Q) H3 := by
  unfold lcBody at q
  rw [noEx_bind, Res.assoc] at q
  refine ⟨_, F, ρ, s, S, (Ans.inner (Rl := RB (upd Pr dl (.lst accV)) σ2) q).mono ?_⟩
  rintro b H3 ⟨_, s4, F4, ρ4, g4, S4, rfl, q4⟩
  cases b with
  | false =>
    rw [if_neg (by decide)]
    rw [if_neg (by decide)] at q4
    exact ⟨F4, ρ4, s4, accD, accV, gr.trans g4, S4.wiped hl ho, RepL.mono g4 _ _ la, by rw [← hl]; exact S4.ln, q4⟩
  | true =>
    rw [if_pos rfl]
    rw [if_pos rfl, noEx_bind, Res.assoc] at q4
    refine ⟨_, F4, ρ4, s4, S4, (Ans.inner (Rl := RV Ca (upd Pr dl (.lst accV)) σ2) q4).mono ?_⟩
    rintro y H5 ⟨z, s5, F5, ρ5, g5, S5, t5, q5⟩
    obtain ⟨F6, g6, S6, rz⟩ := S5.freeze t5
    have la6 := RepL.mono (g4.trans (g5.trans g6)) _ _ la
    split at q5
    · rename_i hz
      refine ⟨accV, S6.pr dl _ upd_same, by rw [← la6.len]; exact hz, ?_⟩
      have nF : ¬ F6 dl := S6.pF dl _ upd_same
      have gu : Gr F6 ρ5 H5 F6 ρ5 (upd H5 dl (.lst (accV ++ [y]))) := Gr.upd nF
      have la7 : RepL Ca F6 ρ5 (upd H5 dl (.lst (accV ++ [y]))) (accD ++ [z.2]) (accV ++ [y]) := RepL.mono gu _ _ (la6.app (.one rz))
      obtain ⟨S7, g7, t7⟩ := S6.fill (o' := .lst (accV ++ [y])) (d := .lst (accD ++ [z.2])) np ⟨_, upd_same, la7⟩
      have S8 := S7.guard t7 (o := .lst (accV ++ [y])) upd_same
      exact ⟨F6, ρ5, s5, accD ++ [z.2], accV ++ [y], gr.trans (g4.trans (g5.trans (g6.trans g7))), S8.wiped hl ho, la7, by rw [← hl]; exact S8.ln, Ans.start (g6.trans g7) (show Ans Ca W Pr' σf Rl F5 ρ5 H5 (rest (accD ++ [z.2]) s5) Q from q5)⟩
    · exact q5.elim
/-- the new list is there, and nobody holds it -/
theorem lc_done {Pr : Hp} {F0 F : Addr → Prop} {ρ0 ρ : List Addr} {H0 H : Hp} {s0 sT : S} {σ : L2.St} {own : List Nat} {dl : Addr} {accD : List D} {accV : List V} {Q : VK} (np : Pr dl = none) (S0 : Sta Ca Pr F0 ρ0 s0 σ H0) (gr : Gr F0 ρ0 H0 F ρ H)
    (S : Sta Ca (upd Pr dl (.lst accV)) F ρ { sT with σ := Iv.wipe sT.σ own } (L2.wipe σ own) H) (la : RepL Ca F ρ H accD accV) (ln : sT.σ.length ≤ σ.length) (q : Ans Ca W Pr σ (RV Ca Pr σ) F ρ H (lcEnd s0 own accD sT) Q) : Q (.ref dl) H := by
  have hd : H dl = some (.lst accV) := S.pr dl _ upd_same
  obtain ⟨S1, g1, t1⟩ := S.fill (o' := .lst accV) (d := .lst accD) np ⟨accV, upd_same, by rw [upd_id hd]; exact la⟩
  rw [upd_id hd] at S1 t1
  have S2 : Sta Ca Pr F ρ { sT with σ := Iv.back s0.σ sT.σ own } σ H := by
    refine S1.slots rfl (by rw [back_len]; exact ln) fun i x e => ?_
    rcases back_at e with ⟨h1, h2⟩ | ⟨h1, h2, h3⟩
    · refine .inl ⟨?_, (wipe_out h2).symm⟩
      have wo : ∀ {vs : List Nat}, i ∉ vs → (Iv.wipe sT.σ vs)[i]? = sT.σ[i]? := by
        intro vs
        induction vs with
        | nil => intro _; rfl
        | cons v vs ih =>
          intro h
          unfold Iv.wipe
          rw [List.getElem?_set_ne (fun e => h (by rw [e]; exact List.mem_cons_self))]
          exact ih fun m => h (List.mem_cons_of_mem _ m)
      show (Iv.wipe sT.σ own)[i]? = _
      rw [wo h2]; exact h1
    · obtain ⟨o, d⟩ := x
      cases h1
      obtain ⟨v, hv, r⟩ := S0.std h3
      exact .inr ⟨rfl, v, hv, Rep.mono gr _ _ r⟩
  refine (show Ans Ca W Pr σ (RV Ca Pr σ) F ρ H (.ok (true, .lst accD) _) Q from q).fin S2 ⟨t1.1, fun _ i d hi hv => ?_⟩
  rcases back_at hi with ⟨h1, h2⟩ | ⟨h1, _⟩
  · refine t1.2 rfl i d ?_ (by rw [wipe_out h2]; exact hv)
    have wo : ∀ {vs : List Nat}, i ∉ vs → (Iv.wipe sT.σ vs)[i]? = sT.σ[i]? := by
      intro vs
      induction vs with
      | nil => intro _; rfl
      | cons v vs ih =>
        intro h
        unfold Iv.wipe
        rw [List.getElem?_set_ne (fun e => h (by rw [e]; exact List.mem_cons_self))]
        exact ih fun m => h (List.mem_cons_of_mem _ m)
    show (Iv.wipe sT.σ own)[i]? = _
    rw [wo h2]; exact h1
  · cases h1
/-- the new list begins -/
theorem lc_begin {Pr : Hp} {F : Addr → Prop} {ρ : List Addr} {H : Hp} {s : S} {σ : L2.St} {own : List Nat} {dl : Addr} {K : (Addr → Prop) → List Addr → Hp → S → List D → Prop} (S : Sta Ca Pr F ρ s σ H) (hd : H dl = none) (k : Gr F ρ H F ρ (upd H dl (.lst [])) → K F ρ (upd H dl (.lst [])) s []) :
    LcAt Ca Pr σ own dl F ρ H K (upd H dl (.lst [])) := by
  obtain ⟨S1, g1, t1⟩ := S.newL hd RepL.nil
  have S2 := S1.guard t1 (o := .lst []) upd_same
  exact ⟨F, ρ, s, [], [], g1, S2.wiped rfl fun _ _ => rfl, .nil, S.ln, k g1⟩
/-- the turns of [e for x in it if c] -/
theorem lc_run {i : Nat} {fi : S → Res (List D)} {ft : S → Res Bool} {fe : S → Res (Bool × D)} {σ : L2.St} {H : Hp} {Q : VK} (h : Run Ca W (RV Ca) (fun s => (fi s).bind fun l s => (noEx (turns i [i] (lcBody ft fe) l s [])).bind (lcEnd s [i])) σ H Q) :
    tLc (Run Ca W (RI Ca) fi) (gName i) (Run Ca Wn RB ft) (Run Ca Wn (RV Ca) fe) [i] σ H Q := by
  obtain ⟨Pr, F, ρ, s, S, q⟩ := h
  refine ⟨Pr, F, ρ, s, S, (Ans.bind (Rl := RI Ca Pr σ) q).mono ?_⟩
  rintro J H1 ⟨l, s1, F1, ρ1, gr, S1, ⟨vs, rl, feeds⟩, q1⟩ dl hd
  have np := S1.fresh_Pr hd
  refine turns_W (Ca := Ca) (Pr := Pr) (own := [i]) (F0 := F1) (ρ0 := ρ1) (H0 := H1) (l := l) (Body := fun σ2 H2 Nx => Run Ca Wn RB ft σ2 H2 fun b H3 => if b = true then Run Ca Wn (RV Ca) fe σ2 H3 fun y H4 => ∃ acc, H4 dl = some (.lst acc) ∧ acc.length < sizeLine ∧ Nx (upd H4 dl (.lst (acc ++ [y]))) else Nx H3) List.mem_cons_self
    (fun j F ρ H sT acc => Ans Ca W Pr σ (RV Ca Pr σ) F ρ H ((noEx (turns i [i] (lcBody ft fe) (l.drop j) sT acc)).bind (lcEnd s1 [i])) Q) rl feeds (lc_begin S1 hd fun g1 => q1.start g1) ?_ ?_
  · intro j d v F2 ρ2 H2 sT accD accV hdrop g2 S2 la k
    rw [hdrop] at k
    have k' : Ans Ca W Pr σ (RV Ca Pr σ) F2 ρ2 H2 ((noEx (lcBody ft fe { sT with σ := (Iv.wipe sT.σ [i]).set i (some (false, d)) } accD)).bind fun acc s => (noEx (turns i [i] (lcBody ft fe) (l.drop (j + 1)) s acc)).bind (lcEnd s1 [i])) Q := by
      have e : turns i [i] (lcBody ft fe) (d :: l.drop (j + 1)) sT accD = (lcBody ft fe { sT with σ := (Iv.wipe sT.σ [i]).set i (some (false, d)) } accD).bind fun acc s => turns i [i] (lcBody ft fe) (l.drop (j + 1)) s acc := rfl
      rw [e, noEx_bind, Res.assoc] at k
      exact k
    exact lc_turn (own := [i]) np g2 set_len (set_out List.mem_cons_self) S2 la k'
  · intro F2 ρ2 H2 sT accD accV g2 S2 la ln k
    rw [List.drop_length] at k
    exact lc_done np S1 g2 S2 la ln (show Ans Ca W Pr σ (RV Ca Pr σ) F2 ρ2 H2 (lcEnd s1 [i] accD sT) Q from k)
/-- the turns of [e for x in it for y in it1 if c] -/
theorem lc2_run {i j : Nat} {fi fi1 : S → Res (List D)} {ft : S → Res Bool} {fe : S → Res (Bool × D)} {σ : L2.St} {H : Hp} {Q : VK}
    (h : Run Ca W (RV Ca) (fun s => (fi s).bind fun l s => (noEx (turns i [i, j] (fun s acc => (fi1 s).bind fun m s => turns j [j] (lcBody ft fe) m s acc) l s [])).bind (lcEnd s [i, j])) σ H Q) :
    tLc2 (Run Ca W (RI Ca) fi) (gName i) tYes (Run Ca Wn (RI Ca) fi1) (gName j) (Run Ca Wn RB ft) (Run Ca Wn (RV Ca) fe) [i, j] [j] σ H Q := by
  obtain ⟨Pr, F, ρ, s, S, q⟩ := h
  refine ⟨Pr, F, ρ, s, S, (Ans.bind (Rl := RI Ca Pr σ) q).mono ?_⟩
  rintro J H1 ⟨l, s1, F1, ρ1, gr, S1, ⟨vs, rl, feeds⟩, q1⟩ dl hd
  have np := S1.fresh_Pr hd
  have mi : i ∈ [i, j] := List.mem_cons_self
  refine turns_W (Ca := Ca) (Pr := Pr) (own := [i, j]) (F0 := F1) (ρ0 := ρ1) (H0 := H1) (l := l) (Body := fun σ2 H2 Nx => tYes σ2 H2 fun b H3 => if b = true then Run Ca Wn (RI Ca) fi1 σ2 H3 fun J1 H4 => ∃ W1 : Nat → Nat → Hp → Prop, (∃ m, W1 0 m H4) ∧ ∀ j1 k H, W1 j1 k H →
      (J1.stop j1 H ∧ Nx H) ∨ (J1.go j1 H ∧ ∃ Nx1 : Hp → Prop, (∀ H', Nx1 H' → ∃ k', k' < k ∧ W1 (j1 + 1) k' H') ∧ ∀ x H', J1.yld j1 H x H' → gName j x (L2.wipe σ2 [j]) H' fun σ3 H5 => L2.wipe σ3 [j] = L2.wipe σ2 [j] ∧ Run Ca Wn RB ft σ3 H5 fun b H6 =>
        if b = true then Run Ca Wn (RV Ca) fe σ3 H6 fun y H7 => ∃ acc, H7 dl = some (.lst acc) ∧ acc.length < sizeLine ∧ Nx1 (upd H7 dl (.lst (acc ++ [y]))) else Nx1 H6) else Nx H3) mi
    (fun j1 F ρ H sT acc => Ans Ca W Pr σ (RV Ca Pr σ) F ρ H ((noEx (turns i [i, j] (fun s acc => (fi1 s).bind fun m s => turns j [j] (lcBody ft fe) m s acc) (l.drop j1) sT acc)).bind (lcEnd s1 [i, j])) Q) rl feeds (lc_begin S1 hd fun g1 => q1.start g1) ?_ ?_
  · intro j1 d v F2 ρ2 H2 sT accD accV hdrop g2 S2 la k
    rw [hdrop] at k
    have k' : Ans Ca W Pr σ (RV Ca Pr σ) F2 ρ2 H2 ((noEx (fi1 { sT with σ := (Iv.wipe sT.σ [i, j]).set i (some (false, d)) })).bind fun m s => (noEx (turns j [j] (lcBody ft fe) m s accD)).bind fun acc s => (noEx (turns i [i, j] (fun s acc => (fi1 s).bind fun m s => turns j [j] (lcBody ft fe) m s acc) (l.drop (j1 + 1)) s acc)).bind (lcEnd s1 [i, j])) Q := by
      have e : turns i [i, j] (fun s acc => (fi1 s).bind fun m s => turns j [j] (lcBody ft fe) m s acc) (d :: l.drop (j1 + 1)) sT accD = ((fi1 { sT with σ := (Iv.wipe sT.σ [i, j]).set i (some (false, d)) }).bind fun m s => turns j [j] (lcBody ft fe) m s accD).bind fun acc s => turns i [i, j] (fun s acc => (fi1 s).bind fun m s => turns j [j] (lcBody ft fe) m s acc) (l.drop (j1 + 1)) s acc := rfl
      rw [e, noEx_bind, noEx_bind, Res.assoc, Res.assoc] at k
      exact k
    dsimp only [tYes]
    rw [if_pos rfl]
    refine ⟨_, F2, ρ2, _, S2, (Ans.inner (Rl := RI Ca (upd Pr dl (.lst accV)) ((L2.wipe σ [i, j]).set i (some v))) k').mono ?_⟩
    rintro J1 H4 ⟨m, s4, F4, ρ4, g4, S4, ⟨ws, rl4, feeds4⟩, q4⟩
    generalize hσ2 : (L2.wipe σ [i, j]).set i (some v) = σ2 at S4 ⊢
    have l2 : σ2.length = σ.length := by rw [← hσ2]; exact set_len
    have o2 : ∀ n, n ∉ [i, j] → σ2[n]? = σ[n]? := fun n hn => by rw [← hσ2]; exact set_out mi n hn
    have mj : j ∈ [j] := List.mem_cons_self
    refine turns_W (Ca := Ca) (Pr := Pr) (own := [j]) (σ := σ2) (dl := dl) (F0 := F4) (ρ0 := ρ4) (H0 := H4) (l := m) (Body := fun σ3 H5 Nx1 => Run Ca Wn RB ft σ3 H5 fun b H6 =>
        if b = true then Run Ca Wn (RV Ca) fe σ3 H6 fun y H7 => ∃ acc, H7 dl = some (.lst acc) ∧ acc.length < sizeLine ∧ Nx1 (upd H7 dl (.lst (acc ++ [y]))) else Nx1 H6) mj
      (fun j2 F ρ H sT acc => Ans Ca W Pr σ (RV Ca Pr σ) F ρ H ((noEx (turns j [j] (lcBody ft fe) (m.drop j2) sT acc)).bind fun acc s => (noEx (turns i [i, j] (fun s acc => (fi1 s).bind fun m s => turns j [j] (lcBody ft fe) m s acc) (l.drop (j1 + 1)) s acc)).bind (lcEnd s1 [i, j])) Q) rl4 feeds4
      ⟨F4, ρ4, s4, accD, accV, Gr.refl _ _ _, S4.wiped rfl fun _ _ => rfl, RepL.mono g4 _ _ la, S4.ln, q4⟩ ?_ ?_
    · intro j2 d2 v2 F5 ρ5 H5 sT5 accD5 accV5 hdrop5 g5 S5 la5 k5
      rw [hdrop5] at k5
      have k6 : Ans Ca W Pr σ (RV Ca Pr σ) F5 ρ5 H5 ((noEx (lcBody ft fe { sT5 with σ := (Iv.wipe sT5.σ [j]).set j (some (false, d2)) } accD5)).bind fun acc s => (noEx (turns j [j] (lcBody ft fe) (m.drop (j2 + 1)) s acc)).bind fun acc s => (noEx (turns i [i, j] (fun s acc => (fi1 s).bind fun m s => turns j [j] (lcBody ft fe) m s acc) (l.drop (j1 + 1)) s acc)).bind (lcEnd s1 [i, j])) Q := by
        have e : turns j [j] (lcBody ft fe) (d2 :: m.drop (j2 + 1)) sT5 accD5 = (lcBody ft fe { sT5 with σ := (Iv.wipe sT5.σ [j]).set j (some (false, d2)) } accD5).bind fun acc s => turns j [j] (lcBody ft fe) (m.drop (j2 + 1)) s acc := rfl
        rw [e, noEx_bind, Res.assoc] at k5
        exact k5
      exact lc_turn (own := [j]) np g5 set_len (set_out mj) S5 la5 k6
    · intro F5 ρ5 H5 sT5 accD5 accV5 g5 S5 la5 ln5 k5
      rw [List.drop_length] at k5
      refine ⟨F5, ρ5, sT5, accD5, accV5, g2.trans (g4.trans g5), ?_, la5, by rw [← l2]; exact ln5, k5⟩
      refine S5.slots rfl (by rw [wipe_len, L2.wipe_length, ← l2]; exact ln5) fun n x e => ?_
      obtain ⟨h1, h2⟩ := wipe_at e
      have nj : n ∉ [j] := fun z => h2 (List.mem_cons_of_mem _ z)
      have e1 : (Iv.wipe sT5.σ [j])[n]? = sT5.σ[n]? := List.getElem?_set_ne fun z => nj (by rw [z]; exact List.mem_cons_self)
      exact .inl ⟨e1.trans h1, by rw [wipe_out h2, wipe_out nj, o2 n h2]⟩
  · intro F2 ρ2 H2 sT accD accV g2 S2 la ln k
    rw [List.drop_length] at k
    exact lc_done np S1 g2 S2 la ln (show Ans Ca W Pr σ (RV Ca Pr σ) F2 ρ2 H2 (lcEnd s1 [i, j] accD sT) Q from k)
end
end Iv
end
section
set_option Elab.async false
set_option linter.all false
/-! Statements. My own work. -/
namespace Iv
open PySem L2
open PySem (Str)

section
variable {α β : Type} {X : Cx} {W : WX} {Ca : Cn} {g : G} {e a b c tg : Expr} {es : List Expr} {pos : Pos}

/-- what is asked of a statement's end -/
def AnsS (Ca : Cn) (W : WX) (Pr : Hp) (F : Addr → Prop) (ρ : List Addr) (H : Hp) (r : Out) (T : Ends) : Prop := match r with
  | .nx s => ∀ F' ρ' σ' H', Gr F ρ H F' ρ' H' → Sta Ca Pr F' ρ' s σ' H' → T.nx σ' H'
  | .rt o d s => ∀ F' ρ' σ' H' v, Gr F ρ H F' ρ' H' → Sta Ca Pr F' ρ' s σ' H' → Tmp Ca Pr F' ρ' s σ' H' (o, d) v → T.rt v H'
  | .bk s => ∀ F' ρ' σ' H', Gr F ρ H F' ρ' H' → Sta Ca Pr F' ρ' s σ' H' → T.bk σ' H'
  | .ct s => ∀ F' ρ' σ' H', Gr F ρ H F' ρ' H' → Sta Ca Pr F' ρ' s σ' H' → T.ct σ' H'
  | .ex c s => ∀ F' ρ' σ' H', Gr F ρ H F' ρ' H' → Sta Ca Pr F' ρ' s σ' H' → W (.ref (Ca c)) none σ' H'
  | .no => False
def RunS (Ca : Cn) (W : WX) (f : S → Out) : TS := fun T σ H => ∃ Pr F ρ s, Sta Ca Pr F ρ s σ H ∧ AnsS Ca W Pr F ρ H (f s) T
section
variable {Pr : Hp} {F F1 : Addr → Prop} {ρ ρ1 : List Addr} {H H1 : Hp} {σ : L2.St} {T T' : Ends} {r : Out}
theorem AnsS.start (gr : Gr F ρ H F1 ρ1 H1) (h : AnsS Ca W Pr F ρ H r T) : AnsS Ca W Pr F1 ρ1 H1 r T := by
  cases r with
  | nx s => exact fun F' ρ' σ' H' g' => h F' ρ' σ' H' (gr.trans g')
  | rt o d s => exact fun F' ρ' σ' H' v g' => h F' ρ' σ' H' v (gr.trans g')
  | bk s => exact fun F' ρ' σ' H' g' => h F' ρ' σ' H' (gr.trans g')
  | ct s => exact fun F' ρ' σ' H' g' => h F' ρ' σ' H' (gr.trans g')
  | ex c s => exact fun F' ρ' σ' H' g' => h F' ρ' σ' H' (gr.trans g')
  | no => exact h
theorem AnsS.bind {r : Res α} {k : α → S → Out} {Rl : (Addr → Prop) → List Addr → S → Hp → α → β → Prop} (h : AnsS Ca W Pr F ρ H (r.out k) T) :
    Ans Ca W Pr σ Rl F ρ H r (fun v H1 => ∃ x s1 F1 ρ1, Gr F ρ H F1 ρ1 H1 ∧ Sta Ca Pr F1 ρ1 s1 σ H1 ∧ Rl F1 ρ1 s1 H1 x v ∧ AnsS Ca W Pr F1 ρ1 H1 (k x s1) T) := by
  cases r with
  | ok x s => exact fun F' ρ' H' v g S q => ⟨x, s, F', ρ', g, S, q, AnsS.start g h⟩
  | ex c s => exact fun F' ρ' H' g S => h F' ρ' σ H' g S
  | no => exact h
theorem AnsS.of {o : Option α} {k : α → S → Out} {s : S} (h : AnsS Ca W Pr F ρ H ((Res.of o s).out k) T) : ∃ x, o = some x ∧ AnsS Ca W Pr F ρ H (k x s) T := by
  cases o with
  | none => exact h.elim
  | some x => exact ⟨x, rfl, h⟩
theorem AnsS.then {k : S → Out} (h : AnsS Ca W Pr F ρ H (r.then k) T) : AnsS Ca W Pr F ρ H r { T with nx := fun σ' H' => ∃ s' F' ρ', Gr F ρ H F' ρ' H' ∧ Sta Ca Pr F' ρ' s' σ' H' ∧ AnsS Ca W Pr F' ρ' H' (k s') T } := by
  cases r with
  | nx s => exact fun F' ρ' σ' H' g S => ⟨s, F', ρ', g, S, AnsS.start g h⟩
  | rt o d s => exact h
  | bk s => exact h
  | ct s => exact h
  | ex c s => exact h
  | no => exact h
end
theorem PS.imp {st : Stmt} {t t' : TS} (h : PS X st t) (w : ∀ T σ H, t' T σ H → t T σ H) : PS X st t' := ⟨fun pins s σ H D I q => h.run pins s σ H D I (w D σ H q)⟩
theorem PSs.imp {st : List Stmt} {t t' : TS} (h : PSs X st t) (w : ∀ T σ H, t' T σ H → t T σ H) : PSs X st t' := ⟨fun pins s σ H D I q => h.run pins s σ H D I (w D σ H q)⟩
abbrev PSv (X : Cx) (Ca : Cn) (W : WX) (st : Stmt) (f : S → Out) : Prop := PS X st (RunS Ca W f)
abbrev PSsv (X : Cx) (Ca : Cn) (W : WX) (st : List Stmt) (f : S → Out) : Prop := PSs X st (RunS Ca W f)

/-! ### blocks -/
theorem ss_nil : PSsv X Ca W [] fun s => .nx s := PSs.imp pss_nil fun T σ H ⟨Pr, F, ρ, s, S, q⟩ => q F ρ σ H (Gr.refl _ _ _) S
theorem ss_cons {st : Stmt} {sts : List Stmt} {f fs : S → Out} (h : PSv X Ca W st f) (hs : PSsv X Ca W sts fs) : PSsv X Ca W (st :: sts) fun s => (f s).then fs :=
  PSs.imp (pss_cons h hs) fun T σ H ⟨Pr, F, ρ, s, S, q⟩ => by
    refine ⟨Pr, F, ρ, s, S, ?_⟩
    have q1 := AnsS.then q
    cases hf : f s with
    | nx s1 =>
      rw [hf] at q1
      intro F' ρ' σ' H' gr S1
      obtain ⟨s2, F2, ρ2, g2, S2, q2⟩ := q1 F' ρ' σ' H' gr S1
      exact ⟨Pr, F2, ρ2, s2, S2, q2⟩
    | rt o d s1 => rw [hf] at q1; exact q1
    | bk s1 => rw [hf] at q1; exact q1
    | ct s1 => rw [hf] at q1; exact q1
    | ex c s1 => rw [hf] at q1; exact q1
    | no => rw [hf] at q1; exact q1

/-! ### stores -/
theorem Sta.storeX {Pr : Hp} {F : Addr → Prop} {ρ : List Addr} {s : Iv.S} {σ : L2.St} {H : Hp} {x : Bool × D} {v : V} (S : Sta Ca Pr F ρ s σ H) (i : Nat) (t : Tmp Ca Pr F ρ s σ H x v) : Sta Ca Pr F ρ { s with σ := s.σ.set i (some x) } (σ.set i (some v)) H := by
  refine ⟨S.len, S.nd, S.fd, S.bx, S.bF, S.rd, fun j y h => ?_, fun j k d1 d2 u h1 h2 h3 h4 => ?_, S.pr, S.pF, S.pρ, by simpa using S.ln, S.tb, S.nt, S.so⟩
  · have h : (s.σ.set i (some x))[j]? = some (some y) := h
    by_cases e : i = j
    · subst e
      have lt : i < s.σ.length := by have := (List.getElem?_eq_some_iff.mp h).1; simpa using this
      rw [List.getElem?_set_self lt] at h
      obtain rfl : x = y := by simpa using h
      exact ⟨v, by rw [List.getElem?_set_self (Nat.lt_of_lt_of_le lt S.ln)], t.1⟩
    · rw [List.getElem?_set_ne e] at h
      obtain ⟨u, h1, q⟩ := S.sl j y h
      exact ⟨u, by rw [List.getElem?_set_ne e]; exact h1, q⟩
  · have h1 : (s.σ.set i (some x))[j]? = some (some (true, d1)) := h1
    have h2 : (s.σ.set i (some x))[k]? = some (some (true, d2)) := h2
    have self : ∀ {m : Nat} {e : D} {u : V}, (s.σ.set i (some x))[m]? = some (some (true, e)) → (σ.set i (some v))[m]? = some (some u) → i = m → x = (true, e) ∧ v = u := fun {m e u} hm hu em => by
      subst em
      have lt : i < s.σ.length := by have := (List.getElem?_eq_some_iff.mp hm).1; simpa using this
      rw [List.getElem?_set_self lt] at hm
      rw [List.getElem?_set_self (Nat.lt_of_lt_of_le lt S.ln)] at hu
      exact ⟨by simpa using hm, by simpa using hu⟩
    by_cases ej : i = j
    · by_cases ek : i = k
      · rw [← ej, ek]
      · obtain ⟨rfl, rfl⟩ := self h1 h3 ej
        rw [List.getElem?_set_ne ek] at h2 h4
        exact absurd h4 (t.2 rfl k d2 h2)
    · by_cases ek : i = k
      · obtain ⟨rfl, rfl⟩ := self h2 h4 ek
        rw [List.getElem?_set_ne ej] at h1 h3
        exact absurd h3 (t.2 rfl j d1 h1)
      · rw [List.getElem?_set_ne ej] at h1 h3
        rw [List.getElem?_set_ne ek] at h2 h4
        exact S.ow j k d1 d2 u h1 h2 h3 h4
/-- a plain local or cell name -/
structure Tg (X : Cx) (x : Str) (i : Nat) : Prop where
  ix : X.N[i]? = some x
  loc : Loc X.env.scope x
  fn : X.fn x = true ∨ X.env.scope.names.lookup x = some .local
theorem noSwap {e : Expr} {t : Option Expr} {l : Nat} {env : Env} (h : (match e with | .ListComp .. => false | .SetComp .. => false | .DictComp .. => false | _ => true) = true) : swapsWith e t l env = pure false := by
  unfold swapsWith
  cases e <;> first | rfl | simp at h
def plainV (e : Expr) : Bool := match e with | .ListComp .. => false | .SetComp .. => false | .DictComp .. => false | _ => true
theorem ss_asg {x : Str} {i : Nat} {p : Pos} {fe : S → Res (Bool × D)} (gd : Gd X W) (t : Tg X x i) (h : PEv X Ca W e fe) (pl : plainV e = true) : PSv X Ca W (.Assign [.Name x p] e pos) fun s => (fe s).out fun x s => .nx { s with σ := s.σ.set i (some x) } :=
  PS.imp (ps_set gd.nd t.ix t.loc h (noSwap pl) t.fn) fun T σ H ⟨Pr, F, ρ, s, S, q⟩ => by
    refine ⟨Pr, F, ρ, s, S, (AnsS.bind (σ := σ) (Rl := RV Ca Pr σ) q).mono ?_⟩
    rintro v H1 ⟨y, s1, F1, ρ1, gr, S1, tv, q1⟩
    exact q1 F1 ρ1 _ H1 (Gr.refl _ _ _) (S1.storeX i tv)
/-- name = [..] on one line -/
theorem ss_asgLc {x y : Str} {i k : Nat} {xp yp sp : Pos} {iter elt : Expr} {ifs : List Expr} {scope : Scope} {Wn : WX} {fi : S → Res (List D)} {ft : S → Res Bool} {fe : S → Res (Bool × D)} (gd : Gd X W) (ty : X.N[k]? = some y) (yl : X.env.scope.names.lookup y = some .local) (kd : X.env.scope.kind = .function)
    (ll : (yp.line == pos.line) = true) (sn : (scope.names.any fun (n, k) => n == y && (k == .local || k == .cell)) = false)
    (hi : PIv X Ca W (.Name x xp) iter fi) (ok : BlkOk X.N X.env.scope scope [(x, i)])
    (hg : ∀ (s : Shared) (H : Hp) (C : Addr) (cl : List (Str × Addr)) (fp : List Addr), PG (X.blk s H scope (compEnvC scope cl C X.env) fp) (.Name x xp) (gName i))
    (ht : ∀ (s : Shared) (H : Hp) (C : Addr) (cl : List (Str × Addr)) (fp : List Addr), PTs (X.blk s H scope (compEnvC scope cl C X.env) fp) ifs (Run Ca Wn RB ft))
    (he : ∀ (s : Shared) (H : Hp) (C : Addr) (cl : List (Str × Addr)) (fp : List Addr), PE (X.blk s H scope (compEnvC scope cl C X.env) fp) elt (Run Ca Wn (RV Ca) fe)) (hs : ∀ x, foldedSetIterable iter X.env x = pure x) :
    PSv X Ca W (.Assign [.Name y yp] (.ListComp elt [⟨.Name x xp, iter, ifs, 0⟩] scope pos) sp) fun s => ((fi s).bind fun l s => (noEx (turns i [i] (lcBody ft fe) l s [])).bind (lcEnd s [i])).out fun x s => .nx { s with σ := s.σ.set k (some x) } :=
  PS.imp (ps_setLc gd.hc gd.nd ty yl (sw_true kd yl ll sn) hi ok hg ht he hs) fun T σ H ⟨Pr, F, ρ, s, S, q⟩ => by
    refine lc_run (W := W) ⟨Pr, F, ρ, s, S, (AnsS.bind (σ := σ) (Rl := RV Ca Pr σ) q).mono ?_⟩
    rintro v H1 ⟨y, s1, F1, ρ1, gr, S1, tv, q1⟩
    exact q1 F1 ρ1 _ H1 (Gr.refl _ _ _) (S1.storeX k tv)
theorem ss_asgLc2 {x x2 y : Str} {i j k : Nat} {xp x2p yp sp : Pos} {iter iter1 elt : Expr} {ifs1 : List Expr} {scope : Scope} {Wn : WX} {fi fi1 : S → Res (List D)} {ft : S → Res Bool} {fe : S → Res (Bool × D)} (gd : Gd X W) (ty : X.N[k]? = some y) (yl : X.env.scope.names.lookup y = some .local) (kd : X.env.scope.kind = .function)
    (ll : (yp.line == pos.line) = true) (sn : (scope.names.any fun (n, k) => n == y && (k == .local || k == .cell)) = false)
    (hi : PIv X Ca W (.Name x xp) iter fi) (ok : BlkOk X.N X.env.scope scope [(x, i), (x2, j)])
    (hg : ∀ (s : Shared) (H : Hp) (C : Addr) (cl : List (Str × Addr)) (fp : List Addr), PG (X.blk s H scope (compEnvC scope cl C X.env) fp) (.Name x xp) (gName i))
    (hi1 : ∀ (s : Shared) (H : Hp) (C : Addr) (cl : List (Str × Addr)) (fp : List Addr), PI (X.blk s H scope (compEnvC scope cl C X.env) fp) (.Name x2 x2p) iter1 (Run Ca Wn (RI Ca) fi1))
    (hg1 : ∀ (s : Shared) (H : Hp) (C : Addr) (cl : List (Str × Addr)) (fp : List Addr), PG (X.blk s H scope (compEnvC scope cl C X.env) fp) (.Name x2 x2p) (gName j))
    (ht : ∀ (s : Shared) (H : Hp) (C : Addr) (cl : List (Str × Addr)) (fp : List Addr), PTs (X.blk s H scope (compEnvC scope cl C X.env) fp) ifs1 (Run Ca Wn RB ft))
    (he : ∀ (s : Shared) (H : Hp) (C : Addr) (cl : List (Str × Addr)) (fp : List Addr), PE (X.blk s H scope (compEnvC scope cl C X.env) fp) elt (Run Ca Wn (RV Ca) fe)) (hs : ∀ x, foldedSetIterable iter X.env x = pure x) (hs1 : ∀ env x, foldedSetIterable iter1 env x = pure x) :
    PSv X Ca W (.Assign [.Name y yp] (.ListComp elt [⟨.Name x xp, iter, [], 0⟩, ⟨.Name x2 x2p, iter1, ifs1, 0⟩] scope pos) sp) fun s => ((fi s).bind fun l s => (noEx (turns i [i, j] (fun s acc => (fi1 s).bind fun m s => turns j [j] (lcBody ft fe) m s acc) l s [])).bind (lcEnd s [i, j])).out fun x s => .nx { s with σ := s.σ.set k (some x) } :=
  PS.imp (ps_setLc2 (vs1 := [j]) gd.hc gd.nd ty yl (sw_true kd yl ll sn) hi ok (by simp) hg (fun _ _ _ _ _ => pts_nil) hi1 hg1 ht he hs hs1) fun T σ H ⟨Pr, F, ρ, s, S, q⟩ => by
    refine lc2_run (W := W) ⟨Pr, F, ρ, s, S, (AnsS.bind (σ := σ) (Rl := RV Ca Pr σ) q).mono ?_⟩
    rintro v H1 ⟨y, s1, F1, ρ1, gr, S1, tv, q1⟩
    exact q1 F1 ρ1 _ H1 (Gr.refl _ _ _) (S1.storeX k tv)
theorem sd_lc {x : Str} {i : Nat} {xp : Pos} {iter elt : Expr} {ifs : List Expr} {scope : Scope} {Wn : WX} {fi : S → Res (List D)} {ft : S → Res Bool} {fe : S → Res (Bool × D)} (gd : Gd X W) (hi : PIv X Ca W (.Name x xp) iter fi) (ok : BlkOk X.N X.env.scope scope [(x, i)])
    (hg : ∀ (s : Shared) (H : Hp) (C : Addr) (cl : List (Str × Addr)) (fp : List Addr), PG (X.blk s H scope (compEnvC scope cl C X.env) fp) (.Name x xp) (gName i))
    (ht : ∀ (s : Shared) (H : Hp) (C : Addr) (cl : List (Str × Addr)) (fp : List Addr), PTs (X.blk s H scope (compEnvC scope cl C X.env) fp) ifs (Run Ca Wn RB ft))
    (he : ∀ (s : Shared) (H : Hp) (C : Addr) (cl : List (Str × Addr)) (fp : List Addr), PE (X.blk s H scope (compEnvC scope cl C X.env) fp) elt (Run Ca Wn (RV Ca) fe)) (hs : ∀ x, foldedSetIterable iter X.env x = pure x) :
    PEv X Ca W (.ListComp elt [⟨.Name x xp, iter, ifs, 0⟩] scope pos) fun s => (fi s).bind fun l s => (noEx (turns i [i] (lcBody ft fe) l s [])).bind (lcEnd s [i]) :=
  PE.imp (pe_lc gd.hc gd.nd hi ok hg ht he hs) fun σ H Q h => lc_run h
theorem sd_lc2 {x x2 : Str} {i j : Nat} {xp x2p : Pos} {iter iter1 elt : Expr} {ifs1 : List Expr} {scope : Scope} {Wn : WX} {fi fi1 : S → Res (List D)} {ft : S → Res Bool} {fe : S → Res (Bool × D)} (gd : Gd X W) (hi : PIv X Ca W (.Name x xp) iter fi) (ok : BlkOk X.N X.env.scope scope [(x, i), (x2, j)])
    (hg : ∀ (s : Shared) (H : Hp) (C : Addr) (cl : List (Str × Addr)) (fp : List Addr), PG (X.blk s H scope (compEnvC scope cl C X.env) fp) (.Name x xp) (gName i))
    (hi1 : ∀ (s : Shared) (H : Hp) (C : Addr) (cl : List (Str × Addr)) (fp : List Addr), PI (X.blk s H scope (compEnvC scope cl C X.env) fp) (.Name x2 x2p) iter1 (Run Ca Wn (RI Ca) fi1))
    (hg1 : ∀ (s : Shared) (H : Hp) (C : Addr) (cl : List (Str × Addr)) (fp : List Addr), PG (X.blk s H scope (compEnvC scope cl C X.env) fp) (.Name x2 x2p) (gName j))
    (ht : ∀ (s : Shared) (H : Hp) (C : Addr) (cl : List (Str × Addr)) (fp : List Addr), PTs (X.blk s H scope (compEnvC scope cl C X.env) fp) ifs1 (Run Ca Wn RB ft))
    (he : ∀ (s : Shared) (H : Hp) (C : Addr) (cl : List (Str × Addr)) (fp : List Addr), PE (X.blk s H scope (compEnvC scope cl C X.env) fp) elt (Run Ca Wn (RV Ca) fe)) (hs : ∀ x, foldedSetIterable iter X.env x = pure x) (hs1 : ∀ env x, foldedSetIterable iter1 env x = pure x) :
    PEv X Ca W (.ListComp elt [⟨.Name x xp, iter, [], 0⟩, ⟨.Name x2 x2p, iter1, ifs1, 0⟩] scope pos) fun s => (fi s).bind fun l s => (noEx (turns i [i, j] (fun s acc => (fi1 s).bind fun m s => turns j [j] (lcBody ft fe) m s acc) l s [])).bind (lcEnd s [i, j]) :=
  PE.imp (pe_lc2 (vs1 := [j]) gd.hc gd.nd hi ok (by simp) hg (fun _ _ _ _ _ => pts_nil) hi1 hg1 ht he hs hs1) fun σ H Q h => lc2_run h
end
end Iv
end
section
set_option Elab.async false
set_option linter.all false
/-! More statements. My own work. -/
namespace Iv
open PySem L2
open PySem (Str)

section
variable {α β : Type} {X : Cx} {W : WX} {Ca : Cn} {g : G} {e a b c tg : Expr} {es : List Expr} {pos : Pos}
/-! ### a, b = t -/
inductive Tgs (X : Cx) : List Expr → List Nat → Prop where
  | nil : Tgs X [] []
  | cons {x : Str} {p : Pos} {i : Nat} {ts : List Expr} {is : List Nat} (t : Tg X x i) (r : Tgs X ts is) : Tgs X (.Name x p :: ts) (i :: is)
def gNames : List Nat → TGs
  | [] => gNil
  | i :: is => gCons (gName i) (gNames is)
theorem Tgs.pgs (gd : Gd X W) {ts : List Expr} {is : List Nat} (h : Tgs X ts is) : PGs X ts (gNames is) ∧ (assignEach ts X.env).length = is.length ∧ (assignEach ts X.env).findIdx? (·.1) = none := by
  induction h with
  | nil => exact ⟨pgs_nil, rfl, rfl⟩
  | cons t r ih =>
    obtain ⟨h1, h2, h3⟩ := ih
    refine ⟨pgs_cons (pg_name gd.nd t.ix t.loc t.fn) h1 rfl, ?_, ?_⟩
    · show (assignEach _ X.env).length + 1 = _
      rw [h2]; rfl
    · show List.findIdx? (fun x => x.1) ((false, _) :: assignEach _ X.env) = none
      rw [List.findIdx?_cons, h3]; rfl
theorem names_run {Pr : Hp} {T : L2.St → Hp → Prop} : ∀ (is : List Nat) (ds : List D) (vs : List V) (s s' : Iv.S) (F : Addr → Prop) (ρ : List Addr) (σ : L2.St) (H : Hp), Sta Ca Pr F ρ s σ H → RepL Ca F ρ H ds vs → setSlots s is ds = some s' →
    (∀ σ', Sta Ca Pr F ρ s' σ' H → T σ' H) → gNames is vs σ H T
  | [], [], vs, s, s', F, ρ, σ, H, S, l, e, k => by
    simp only [setSlots, Option.some.injEq] at e; subst e
    simp only [RepL] at l
    exact ⟨l, k σ S⟩
  | i :: is, d :: ds, vs, s, s', F, ρ, σ, H, S, l, e, k => by
    simp only [RepL] at l
    obtain ⟨v, r, rfl, rd, rl⟩ := l
    simp only [setSlots] at e
    exact ⟨v, r, rfl, names_run is ds r _ s' F ρ _ H (S.store i rd) rl e k⟩
  | [], d :: ds, vs, s, s', F, ρ, σ, H, S, l, e, k => by simp [setSlots] at e
  | i :: is, [], vs, s, s', F, ρ, σ, H, S, l, e, k => by simp [setSlots] at e
theorem slots_len : ∀ {is : List Nat} {ds : List D} {s s' : Iv.S}, setSlots s is ds = some s' → is.length = ds.length
  | [], [], _, _, _ => rfl
  | i :: is, d :: ds, s, s', e => by
    simp only [setSlots] at e
    rw [List.length_cons, List.length_cons, slots_len e]
  | [], d :: ds, s, s', e => by simp [setSlots] at e
  | i :: is, [], s, s', e => by simp [setSlots] at e
def notTup (e : Expr) : Bool := match e with | .Tuple .. => false | _ => true
theorem ss_asgT {ts : List Expr} {is : List Nat} {k : Nat} {p : Pos} {fe : S → Res (Bool × D)} (gd : Gd X W) (t : Tgs X ts is) (h : PEv X Ca W e fe) (pl : plainV e = true) (nt : notTup e = true) :
    PSv X Ca W (.Assign [.Tuple ts k p] e pos) fun s => (fe s).out fun x s => match x.2 with
      | .tup ds => (Res.of (setSlots s is ds) s).out fun s' _ => .nx s'
      | _ => .no := by
  obtain ⟨h1, h2, h3⟩ := t.pgs gd
  have sw : swappedStores [.Tuple ts k p] e X.env = pure none := by cases e <;> first | rfl | simp [notTup] at nt
  refine PS.imp (ps_asg h (pg_tup gd.hc h1 h2 h3) (by unfold swapsWithSole; exact noSwap pl) sw) fun T σ H ⟨Pr, F, ρ, s, S, q⟩ => ?_
  refine ⟨Pr, F, ρ, s, S, (AnsS.bind (σ := σ) (Rl := RV Ca Pr σ) q).mono ?_⟩
  rintro v H1 ⟨⟨o, d⟩, s1, F1, ρ1, gr, S1, tv, q1⟩
  obtain ⟨F2, g2, S2, r⟩ := S1.freeze tv
  have q2 := q1.start g2
  cases d <;> try exact q2.elim
  rename_i ds
  simp only [Rep] at r
  obtain ⟨a, vs, rfl, fa, ha, l⟩ := r
  obtain ⟨s', e', q3⟩ := AnsS.of q2
  exact ⟨a, vs, rfl, SqT.of ha, by rw [← l.len, ← slots_len e'], names_run is ds vs s1 s' F2 ρ1 σ H1 S2 l e' fun σ' S' => q3 F2 ρ1 σ' H1 (Gr.refl _ _ _) S'⟩

/-! ### a, b = x, y with local names on one line -/
theorem par_run {Pr : Hp} : ∀ (is : List Nat) (xs : List (Bool × D)) (vs : List V) (s s' : Iv.S) (F : Addr → Prop) (ρ : List Addr) (σ : L2.St) (H : Hp), is.Nodup → Sta Ca Pr F ρ s σ H → RX Ca Pr σ F ρ s H xs vs → setPar s is xs = some s' →
    is.length = vs.length ∧ Sta Ca Pr F ρ s' ((is.zip vs).foldl (fun σ p => σ.set p.1 (some p.2)) σ) H
  | [], [], vs, s, s', F, ρ, σ, H, nd, S, r, e => by
    simp only [setPar, Option.some.injEq] at e; subst e
    cases r.1
    exact ⟨rfl, S⟩
  | i :: is, x :: xs, vs, s, s', F, ρ, σ, H, nd, S, r, e => by
    simp only [setPar] at e
    cases h : r.1 with
    | @cons _ v _ vs t rest =>
      have S1 := S.storeX i t
      have rt := r.tail
      have r2 : RX Ca Pr (σ.set i (some v)) F ρ { s with σ := s.σ.set i (some x) } H xs vs := by
        refine ⟨?_, rt.2⟩
        have own : ∀ (j : Nat) (y : Bool × D) (u : V), xs[j]? = some y → vs[j]? = some u → Tmp Ca Pr F ρ s σ H y u → Tmp Ca Pr F ρ { s with σ := s.σ.set i (some x) } (σ.set i (some v)) H y u := by
          intro j y u hy hu ty
          refine ⟨ty.1, fun hy1 m d hm hv => ?_⟩
          obtain ⟨o, yd⟩ := y
          cases hy1
          have hm : (s.σ.set i (some x))[m]? = some (some (true, d)) := hm
          by_cases em : i = m
          · subst em
            have lt : i < s.σ.length := by have := (List.getElem?_eq_some_iff.mp hm).1; simpa using this
            rw [List.getElem?_set_self lt] at hm
            rw [List.getElem?_set_self (Nat.lt_of_lt_of_le lt S.ln)] at hv
            obtain rfl : x = (true, d) := by simpa using hm
            obtain rfl : v = u := by simpa using hv
            exact absurd (r.2 0 (j + 1) d yd v rfl (by simpa using hy) rfl (by simpa using hu)) (by simp)
          · rw [List.getElem?_set_ne em] at hm hv
            exact ty.2 rfl m d hm hv
        have all : ∀ (xs' : List (Bool × D)) (vs' : List V), Paired (Tmp Ca Pr F ρ s σ H) xs' vs' → (∀ (j : Nat) (y : Bool × D) (u : V), xs'[j]? = some y → vs'[j]? = some u → Tmp Ca Pr F ρ s σ H y u → Tmp Ca Pr F ρ { s with σ := s.σ.set i (some x) } (σ.set i (some v)) H y u) →
            Paired (Tmp Ca Pr F ρ { s with σ := s.σ.set i (some x) } (σ.set i (some v)) H) xs' vs' := by
          intro xs' vs' p
          induction p with
          | nil => intro _; exact .nil
          | cons t' p' ih => intro f; exact .cons (f 0 _ _ rfl rfl t') (ih fun j y u h1 h2 => f (j + 1) y u (by simpa using h1) (by simpa using h2))
        exact all xs vs rest own
      have nd' := (List.nodup_cons.mp nd).2
      obtain ⟨h1, h2⟩ := par_run is xs vs _ s' F ρ (σ.set i (some v)) H nd' S1 r2 e
      exact ⟨by rw [List.length_cons, List.length_cons, h1], h2⟩
  | [], d :: ds, vs, s, s', F, ρ, σ, H, nd, S, l, e => by simp [setPar] at e
  | i :: is, [], vs, s, s', F, ρ, σ, H, nd, S, l, e => by simp [setPar] at e
theorem ss_par2 {i j : Nat} {x y : Str} {px py pt : Pos} {kt k2 pt2} {f : S → Res (List (Bool × D))} (gd : Gd X W) (hi : X.N[i]? = some x) (hj : X.N[j]? = some y) (hij : i ≠ j) (hx : X.env.scope.names.lookup x = some .local) (hy : X.env.scope.names.lookup y = some .local)
    (hw : swappedStores [.Tuple [.Name x px, .Name y py] kt pt] (.Tuple [a, b] k2 pt2) X.env = pure (some [x, y])) (h : PXv X Ca W [a, b] f) :
    PSv X Ca W (.Assign [.Tuple [.Name x px, .Name y py] kt pt] (.Tuple [a, b] k2 pt2) pos) fun s => (f s).out fun xs s => (Res.of (setPar s [i, j] xs) s).out fun s' _ => .nx s' :=
  PS.imp (ps_par gd.hc gd.nd hi hj hij hx hy h hw rfl) fun T σ H ⟨Pr, F, ρ, s, S, q⟩ => by
    refine ⟨Pr, F, ρ, s, S, (AnsS.bind (σ := σ) (Rl := RX Ca Pr σ) q).mono ?_⟩
    rintro vs H1 ⟨xs, s1, F1, ρ1, gr, S1, r, q1⟩
    obtain ⟨s', e', q2⟩ := AnsS.of q1
    obtain ⟨l, S2⟩ := par_run [i, j] xs vs s1 s' F1 ρ1 σ H1 (by simp [hij]) S1 r e'
    rcases vs with _ | ⟨v, _ | ⟨u, _ | ⟨z, zs⟩⟩⟩ <;> simp at l
    exact ⟨v, u, rfl, q2 F1 ρ1 _ H1 (Gr.refl _ _ _) S2⟩
theorem ss_par3 {i j l : Nat} {x y z : Str} {px py pz pt : Pos} {kt k2 pt2} {f : S → Res (List (Bool × D))} (gd : Gd X W) (hi : X.N[i]? = some x) (hj : X.N[j]? = some y) (hl : X.N[l]? = some z) (hij : i ≠ j) (hil : i ≠ l) (hjl : j ≠ l) (hx : X.env.scope.names.lookup x = some .local) (hy : X.env.scope.names.lookup y = some .local) (hz : X.env.scope.names.lookup z = some .local)
    (hw : swappedStores [.Tuple [.Name x px, .Name y py, .Name z pz] kt pt] (.Tuple [a, b, c] k2 pt2) X.env = pure (some [x, y, z])) (h : PXv X Ca W [a, b, c] f) :
    PSv X Ca W (.Assign [.Tuple [.Name x px, .Name y py, .Name z pz] kt pt] (.Tuple [a, b, c] k2 pt2) pos) fun s => (f s).out fun xs s => (Res.of (setPar s [i, j, l] xs) s).out fun s' _ => .nx s' :=
  PS.imp (ps_par3 gd.hc gd.nd hi hj hl hij hil hjl hx hy hz h hw rfl) fun T σ H ⟨Pr, F, ρ, s, S, q⟩ => by
    refine ⟨Pr, F, ρ, s, S, (AnsS.bind (σ := σ) (Rl := RX Ca Pr σ) q).mono ?_⟩
    rintro vs H1 ⟨xs, s1, F1, ρ1, gr, S1, r, q1⟩
    obtain ⟨s', e', q2⟩ := AnsS.of q1
    obtain ⟨l', S2⟩ := par_run [i, j, l] xs vs s1 s' F1 ρ1 σ H1 (by simp [hij, hil, hjl]) S1 r e'
    rcases vs with _ | ⟨v, _ | ⟨u, _ | ⟨z', _ | ⟨zz, zs⟩⟩⟩⟩ <;> simp at l'
    exact ⟨v, u, z', rfl, q2 F1 ρ1 _ H1 (Gr.refl _ _ _) S2⟩

/-! ### a[i] = v -/
theorem sub_asg {o i : Expr} {p : Pos} {env : Env} (hp : plainX i = true) (v : Value) : assign (.Subscript o i p) env v = (do
      let ov ← holding [v] (eval o env)
      let iv ← holding [v, ov] (eval i env)
      standAt p
      holding [v, ov, iv] (setItem ov iv v)
      release [v, ov, iv] []) := by cases i <;> first | rfl | simp [plainX] at hp
theorem PSet.or {r r' : TSet} (h : PSet X r) (h' : PSet X r') : PSet X (fun o i v H Q => r o i v H Q ∨ r' o i v H Q) := fun pins s σ H o i v ov iv u Q I a b c q => q.elim (h pins s σ H o i v ov iv u Q I a b c) (h' pins s σ H o i v ov iv u Q I a b c)
theorem RepT.put {F : Addr → Prop} {ρ : List Addr} {H : Hp} {k : List Key} {d : D} {v : V} (r : Rep Ca F ρ H d v) {kvs : List (List Key × D)} {ws : List (List Key × V)} (l : RepT Ca F ρ H kvs ws) : RepT Ca F ρ H (Iv.putK kvs k d) (L2.putK ws k v) := by
  have any_eq : ∀ {kvs : List (List Key × D)} {ws : List (List Key × V)}, RepT Ca F ρ H kvs ws → (kvs.any fun kv => decide (kv.1 = k)) = (ws.any fun kv => decide (kv.1 = k)) := by
    intro kvs
    induction kvs with
    | nil => intro ws l; simp only [RepT] at l; subst l; rfl
    | cons p kvs ih =>
      intro ws l
      obtain ⟨j, x⟩ := p
      simp only [RepT] at l
      obtain ⟨w, t, rfl, _, rl⟩ := l
      rw [List.any_cons, List.any_cons, ih rl]
  have mp : ∀ {kvs : List (List Key × D)} {ws : List (List Key × V)}, RepT Ca F ρ H kvs ws → RepT Ca F ρ H (kvs.map fun kv => if kv.1 = k then (kv.1, d) else kv) (ws.map fun kv => if kv.1 = k then (kv.1, v) else kv) := by
    intro kvs
    induction kvs with
    | nil => intro ws l; simp only [RepT] at l; subst l; simp only [List.map_nil, RepT]
    | cons p kvs ih =>
      intro ws l
      obtain ⟨j, x⟩ := p
      simp only [RepT] at l
      obtain ⟨w, t, rfl, rx, rl⟩ := l
      rw [List.map_cons, List.map_cons]
      by_cases e : j = k
      · simp only [e, if_true, RepT]
        exact ⟨v, _, rfl, r, ih rl⟩
      · simp only [e, if_false, RepT]
        exact ⟨w, _, rfl, rx, ih rl⟩
  have ap : ∀ {kvs : List (List Key × D)} {ws : List (List Key × V)}, RepT Ca F ρ H kvs ws → RepT Ca F ρ H (kvs ++ [(k, d)]) (ws ++ [(k, v)]) := by
    intro kvs
    induction kvs with
    | nil => intro ws l; simp only [RepT] at l; subst l; simp only [List.nil_append, RepT]; exact ⟨v, [], rfl, r, rfl⟩
    | cons p kvs ih =>
      intro ws l
      obtain ⟨j, x⟩ := p
      simp only [RepT] at l
      obtain ⟨w, t, rfl, rx, rl⟩ := l
      simp only [List.cons_append, RepT]
      exact ⟨w, _, rfl, rx, ih rl⟩
  unfold Iv.putK L2.putK
  rw [any_eq l]
  split
  · exact mp l
  · exact ap l
theorem RepK.len {F : Addr → Prop} {ρ : List Addr} {H : Hp} : ∀ {kvs : List (Key × D)} {ws : List (Key × V)}, RepK Ca F ρ H kvs ws → kvs.length = ws.length
  | [], ws, l => by simp only [RepK] at l; subst l; rfl
  | (k, d) :: r, ws, l => by
    simp only [RepK] at l
    obtain ⟨v, t, rfl, _, rl⟩ := l
    rw [List.length_cons, List.length_cons, rl.len]
theorem RepT.len {F : Addr → Prop} {ρ : List Addr} {H : Hp} : ∀ {kvs : List (List Key × D)} {ws : List (List Key × V)}, RepT Ca F ρ H kvs ws → kvs.length = ws.length
  | [], ws, l => by simp only [RepT] at l; subst l; rfl
  | (k, d) :: r, ws, l => by
    simp only [RepT] at l
    obtain ⟨v, t, rfl, _, rl⟩ := l
    rw [List.length_cons, List.length_cons, rl.len]
/-- what a handle that may be written stands for -/
theorem HdR.cont {Pr : Hp} {F : Addr → Prop} {ρ : List Addr} {s s' : Iv.S} {σ : L2.St} {H : Hp} {h : Hd} {v : V} {d d' : D} (S : Sta Ca Pr F ρ s σ H) (r : HdR Ca σ F ρ H h v) (ec : s.cont h = some d) (ep : s.put h d' = some s') : ∃ a, v = .ref a ∧ Cont Ca F ρ H d a := by
  cases h with
  | val d => simp [Iv.S.put] at ep
  | slot i =>
    simp only [Iv.S.put] at ep
    split at ep
    · rename_i d0 hx
      simp only [Iv.S.cont, hx, Option.some.injEq] at ec; subst ec
      obtain ⟨b, hb, c, _⟩ := S.own hx
      have hb' : σ[i]? = some (some v) := r.1
      rw [hb'] at hb
      exact ⟨b, by simpa using hb, c⟩
    · cases ep
  | box n =>
    simp only [Iv.S.put] at ep
    split at ep
    · rename_i d0 hx
      simp only [Iv.S.cont, hx, Option.some.injEq] at ec; subst ec
      obtain ⟨b, rfl, hρ⟩ := r
      exact ⟨b, rfl, S.bx n _ b hx hρ⟩
    · cases ep
theorem ss_setI {o i v : Expr} {p : Pos} {hf : S → Res Hd} {fi fv : S → Res (Bool × D)} (gd : Gd X W) (ho : PHv X Ca W o hf) (hi : PEv X Ca W i fi) (hv : PEv X Ca W v fv) (pl : plainV v = true) (pi : plainX i = true) :
    PSv X Ca W (.Assign [.Subscript o i p] v pos) fun s => (fv s).out fun v s => (hf s).out fun h s => (fi s).out fun k s =>
      (Res.of ((s.cont h).bind fun c => (putI c k.2 v.2).bind fun c' => s.put h c') s).out fun s' _ => .nx s' := by
  refine PS.imp (ps_asg hv (pg_sub ho hi (PSet.or set_list (set_dict (by have := gd.un; omega))) (sub_asg pi)) (by unfold swapsWithSole; exact noSwap pl) (by cases v <;> rfl) (by rfl)) fun T σ H ⟨Pr, F, ρ, s, S, q⟩ => ?_
  refine ⟨Pr, F, ρ, s, S, (AnsS.bind (σ := σ) (Rl := RV Ca Pr σ) q).mono ?_⟩
  rintro w H1 ⟨x, s1, F1, ρ1, gr, S1, tv, q1⟩
  obtain ⟨F2, g2, S2, rw'⟩ := S1.freeze tv
  refine ⟨Pr, F2, ρ1, s1, S2, (AnsS.bind (σ := σ) (Rl := RH Ca Pr σ) (q1.start g2)).mono ?_⟩
  rintro ov H3 ⟨h, s3, F3, ρ3, g3, S3, rh, q3⟩
  refine ⟨Pr, F3, ρ3, s3, S3, (AnsS.bind (σ := σ) (Rl := RV Ca Pr σ) q3).mono ?_⟩
  rintro iv H4 ⟨k, s4, F4, ρ4, g4, S4, tk, q4⟩
  obtain ⟨F5, g5, S5, rk⟩ := S4.freeze tk
  have q5 := q4.start g5
  have rh5 := HdR.mono (g4.trans g5) rh
  have rw5 := Rep.mono (g3.trans (g4.trans g5)) _ _ rw'
  obtain ⟨s', e, q6⟩ := AnsS.of q5
  cases ec : s4.cont h with
  | none => rw [ec] at e; cases e
  | some c =>
    rw [ec, Option.bind_some] at e
    cases ep : putI c k.2 x.2 with
    | none => rw [ep] at e; cases e
    | some c' =>
      rw [ep, Option.bind_some] at e
      obtain ⟨a, rfl, con⟩ := HdR.cont S5 rh5 ec e
      have nF := HdR.nF S5 rh5 e
      have fin : ∀ u, Cont Ca F5 ρ4 (upd H4 a u) c' a → T.nx σ (upd H4 a u) := fun u hc => by
        obtain ⟨S6, g6⟩ := HdR.put S5 rh5 e hc
        exact q6 F5 ρ4 σ _ g6 S6
      have gu : ∀ u, Gr F5 ρ4 H4 F5 ρ4 (upd H4 a u) := fun u => Gr.upd nF
      generalize k.2 = kd at ep rk
      cases c <;> simp only [putI, reduceCtorEq] at ep
      · rename_i xs
        cases kd <;> simp only [reduceCtorEq] at ep
        rename_i j
        obtain ⟨n, en, e2⟩ := Option.map_eq_some_iff.mp ep
        subst e2
        obtain ⟨vs, ha, l⟩ := con
        simp only [Rep] at rk; subst rk
        exact .inl ⟨a, vs, j, n, rfl, rfl, ha, by rw [← l.len]; exact en, fin _ ⟨_, upd_same, RepL.mono (gu _) _ _ (RepL.set rw5 n l)⟩⟩
      · rename_i kvs
        split at ep
        · rename_i hz
          obtain ⟨key, ek, e2⟩ := Option.map_eq_some_iff.mp ep
          subst e2
          obtain ⟨ws, ha, l⟩ := con
          exact .inr ⟨a, _, rfl, .inl ⟨ws, key, ha, keyOf_rep ek rk, by rw [← l.len]; exact hz, rfl⟩, fin _ ⟨_, upd_same, RepK.mono (gu _) _ _ (l.put rw5)⟩⟩
        · cases ep
      · rename_i kvs
        cases kd <;> simp only [reduceCtorEq] at ep
        rename_i ks
        split at ep
        · rename_i hz
          obtain ⟨key, ek, e2⟩ := Option.map_eq_some_iff.mp ep
          subst e2
          obtain ⟨ws, ha, l⟩ := con
          simp only [Rep] at rk
          obtain ⟨b, vs, rfl, _, hb, lk⟩ := rk
          exact .inr ⟨a, _, rfl, .inr ⟨ws, key, b, ha, rfl, by rw [hb, keysOf_rep ek lk], by rw [← l.len]; exact hz, rfl⟩, fin _ ⟨_, upd_same, RepT.mono (gu _) _ _ (l.put rw5)⟩⟩
        · cases ep

/-! ### o.f = v, i op= e, e, return, if -/
/-- an instance's field is written -/
theorem Sta.fld {Pr : Hp} {F : Addr → Prop} {ρ : List Addr} {s : Iv.S} {σ : L2.St} {H : Hp} {n c : Nat} {a dx : Addr} {fs fs' : List (Str × D)} {ws' : List (Str × V)} (S : Sta Ca Pr F ρ s σ H) (hx : s.μ[n]? = some (.ins c fs)) (hρ : ρ[n]? = some a)
    (l : Gr F ρ H F ρ (upd H a (.ins (Ca c) dx ws')) → RepF Ca F ρ (upd H a (.ins (Ca c) dx ws')) fs' ws') : Sta Ca Pr F ρ { s with μ := s.μ.set n (.ins c fs') } σ (upd H a (.ins (Ca c) dx ws')) ∧ Gr F ρ H F ρ (upd H a (.ins (Ca c) dx ws')) := by
  have nF := S.bF n _ a hx hρ rfl
  have np := S.pρ a (List.mem_of_getElem? hρ)
  have gr : Gr F ρ H F ρ (upd H a (.ins (Ca c) dx ws')) := Gr.upd nF
  have keep : ∀ {b : Addr}, b ≠ a → ∀ u, H b = some u → upd H a (.ins (Ca c) dx ws') b = some u := fun nb u e => by rw [upd_ne nb]; exact e
  refine ⟨⟨by rw [List.length_set]; exact S.len, S.nd, fun b f => ?_, fun m b q h1 h2 => ?_, fun m b q h1 h2 h3 => ?_, fun b m => ?_, fun j x hj => ?_, S.ow, fun b u hb => ?_, S.pF, S.pρ, S.ln, tabs_set S.tb (S.bx n _ a hx hρ).choose_spec.choose_spec.1 rfl, nt_set S.nt (soft_nt upd_same rfl), S.so⟩, gr⟩
  · obtain ⟨u, e⟩ := S.fd b f
    exact ⟨u, keep (fun z => nF (z ▸ f)) u e⟩
  · by_cases hnm : n = m
    · subst hnm
      rw [hρ] at h2; obtain rfl : a = q := by simpa using h2
      rw [List.getElem?_set_self (List.getElem?_eq_some_iff.mp hx).1] at h1
      obtain rfl : Bx.ins c fs' = b := by simpa using h1
      exact ⟨dx, ws', upd_same, l gr⟩
    · rw [List.getElem?_set_ne hnm] at h1
      refine (S.bx m b q h1 h2).mono gr (keep fun z => hnm ?_)
      subst z
      exact nd_ix S.nd hρ h2
  · by_cases hnm : n = m
    · subst hnm
      rw [hρ] at h2; obtain rfl : a = q := by simpa using h2
      exact nF
    · rw [List.getElem?_set_ne hnm] at h1
      exact S.bF m b q h1 h2 h3
  · by_cases hb : b = a
    · subst hb; exact ⟨_, upd_same⟩
    · obtain ⟨u, e⟩ := S.rd b m
      exact ⟨u, keep hb u e⟩
  · obtain ⟨w, h1, q⟩ := S.sl j x hj
    refine ⟨w, h1, ?_⟩
    unfold Val at q ⊢
    split
    · rename_i hx1
      rw [if_pos hx1] at q
      obtain ⟨b, rfl, c', f', m', p'⟩ := q
      have nb : b ≠ a := fun z => m' (z ▸ List.mem_of_getElem? hρ)
      exact ⟨b, rfl, c'.mono gr (keep nb), f', m', p'⟩
    · rename_i hx1
      rw [if_neg hx1] at q
      exact Rep.mono gr _ _ q
  · exact keep (fun z => by rw [z, np] at hb; cases hb) u (S.pr b u hb)
theorem ss_setF {o v : Expr} {f : Str} {p : Pos} {fo fv : S → Res (Bool × D)} (wf : ∀ c f, hasFld g c f = true → Cls X.K (Ca c) ∧ NoAttr X.K (Ca c) f) (ho : PEv X Ca W o fo) (hv : PEv X Ca W v fv) :
    PSv X Ca W (.Assign [.Attribute o f p] v pos) fun s => (fv s).out fun v s => (fo s).out fun x s => match x.2 with
      | .box n => match s.μ[n]? with
        | some (.ins c fs) => if fs.length < 1000 ∧ hasFld g c f = true then .nx { s with μ := s.μ.set n (.ins c (Iv.putF f v.2 fs)) } else .no
        | _ => .no
      | _ => .no := by
  refine PS.imp (ps_fld ho hv (by unfold swapsWith; cases v <;> rfl)) fun T σ H ⟨Pr, F, ρ, s, S, q⟩ => ?_
  refine ⟨Pr, F, ρ, s, S, (AnsS.bind (σ := σ) (Rl := RV Ca Pr σ) q).mono ?_⟩
  rintro w H1 ⟨x, s1, F1, ρ1, gr, S1, tv, q1⟩
  obtain ⟨F2, g2, S2, rw'⟩ := S1.freeze tv
  refine ⟨Pr, F2, ρ1, s1, S2, (AnsS.bind (σ := σ) (Rl := RV Ca Pr σ) (q1.start g2)).mono ?_⟩
  rintro ov H3 ⟨⟨oo, od⟩, s3, F3, ρ3, g3, S3, to, q3⟩
  obtain ⟨F4, g4, S4, ro⟩ := S3.freeze to
  have q4 := q3.start g4
  cases od <;> try exact q4.elim
  rename_i n
  simp only [Rep] at ro
  obtain ⟨a, rfl, hρ⟩ := ro
  dsimp only at q4
  split at q4
  · rename_i c fs hx
    split at q4
    · rename_i hc
      obtain ⟨dx, ws, ha, l⟩ := S4.bx n _ a hx hρ
      obtain ⟨k1, k2⟩ := wf c f hc.2
      refine ⟨a, Ca c, dx, ws, rfl, ha, k1, k2, by rw [← RepF.len l]; exact hc.1, ?_⟩
      obtain ⟨S5, g5⟩ := S4.fld (dx := dx) (fs' := Iv.putF f x.2 fs) (ws' := L2.putF f w ws) hx hρ fun gr => RepF.mono gr _ _ (RepF.put (Rep.mono (g3.trans g4) _ _ rw') l)
      exact q4 F4 ρ3 σ _ g5 S5
    · exact q4.elim
  · exact q4.elim
theorem AnsS.var {i : Nat} {k : Bool × D → S → Out} {Pr : Hp} {F : Addr → Prop} {ρ : List Addr} {H : Hp} {σ : L2.St} {s : Iv.S} {T : Ends} (S : Sta Ca Pr F ρ s σ H) (q : AnsS Ca W Pr F ρ H ((rVar false i s).out k) T) :
    ∃ d v F1 s1, Gr F ρ H F1 ρ H ∧ Sta Ca Pr F1 ρ s1 σ H ∧ σ[i]? = some (some v) ∧ Rep Ca F1 ρ H d v ∧ AnsS Ca W Pr F1 ρ H (k (false, d) s1) T := by
  unfold rVar at q
  split at q
  · rename_i d hx
    obtain ⟨v, hv, r⟩ := S.std hx
    exact ⟨d, v, F, s, Gr.refl _ _ _, S, hv, r, q⟩
  · rename_i d hx
    rw [if_neg (by decide)] at q
    obtain ⟨F', v, gr, S', hv, r⟩ := S.stillSlot hx
    exact ⟨d, v, F', _, gr, S', hv, r, q.start gr⟩
  · exact q.elim
theorem ss_aug {x : Str} {i : Nat} {p : Pos} {op : Operator} {o : Op} {fi : Int → Int → Int} {fe : S → Res (Bool × D)} (gd : Gd X W) (t : Tg X x i) (ip : PIp X op (ipI fi)) (ho : ∀ x y z, augOp o x y = some z → ∃ i j, x = .int i ∧ y = .int j ∧ z = .int (fi i j)) (h : PEv X Ca W e fe) :
    PSv X Ca W (.AugAssign (.Name x p) op e pos) fun s => (rVar false i s).out fun _ s => (fe s).out fun y s => (rVar false i s).out fun x s => (Res.of (augOp o x.2 y.2) s).out fun z s => .nx { s with σ := s.σ.set i (some (false, z)) } :=
  PS.imp (ps_aug gd.nd t.ix t.loc h ip t.fn) fun T σ H ⟨Pr, F, ρ, s, S, q⟩ => by
    obtain ⟨d, v, F1, s1, g1, S1, hv, _, q1⟩ := AnsS.var S q
    refine ⟨v, hv, Pr, F1, ρ, s1, S1, (AnsS.bind (σ := σ) (Rl := RV Ca Pr σ) q1).mono ?_⟩
    rintro u H2 ⟨y, s2, F2, ρ2, g2, S2, ty, q2⟩
    obtain ⟨F3, g3, S3, ry⟩ := S2.freeze ty
    obtain ⟨d', v', F4, s4, g4, S4, hv', r', q4⟩ := AnsS.var S3 (q2.start g3)
    obtain rfl : v = v' := by rw [hv] at hv'; simpa using hv'
    obtain ⟨z, ez, q5⟩ := AnsS.of q4
    obtain ⟨a, b, e1, e2, rfl⟩ := ho _ _ _ ez
    have e1 : d' = .int a := e1
    subst e1
    have ry' := Rep.mono g4 _ _ ry
    rw [e2] at ry'
    simp only [Rep] at r' ry'
    exact ⟨a, b, r', ry', q5 F4 ρ2 _ H2 (Gr.refl _ _ _) (S4.storeX i (tmp_of (by simp only [Rep])))⟩
theorem aug_add : ∀ x y z, augOp .add x y = some z → ∃ i j, x = .int i ∧ y = .int j ∧ z = .int (i + j) := by
  intro x y z e
  cases x <;> cases y <;> simp only [augOp, reduceCtorEq, Option.some.injEq] at e
  exact ⟨_, _, rfl, rfl, e.symm⟩
theorem aug_sub : ∀ x y z, augOp .sub x y = some z → ∃ i j, x = .int i ∧ y = .int j ∧ z = .int (i - j) := by
  intro x y z e
  cases x <;> cases y <;> simp only [augOp, reduceCtorEq, Option.some.injEq] at e
  exact ⟨_, _, rfl, rfl, e.symm⟩
theorem ss_exp {fe : S → Res (Bool × D)} (h : PEv X Ca W e fe) (pl : plainV e = true) : PSv X Ca W (.Expr e pos) fun s => (fe s).out fun _ s => .nx s :=
  PS.imp (ps_expr h (noSwap pl)) fun T σ H ⟨Pr, F, ρ, s, S, q⟩ => by
    refine ⟨Pr, F, ρ, s, S, (AnsS.bind (σ := σ) (Rl := RV Ca Pr σ) q).mono ?_⟩
    rintro v H1 ⟨y, s1, F1, ρ1, gr, S1, tv, q1⟩
    exact q1 F1 ρ1 σ H1 (Gr.refl _ _ _) S1
theorem ss_ret {fe : S → Res (Bool × D)} (h : PEv X Ca W e fe) : PSv X Ca W (.Return (some e) pos) fun s => (fe s).out fun x s => .rt x.1 x.2 s :=
  PS.imp (ps_ret h) fun T σ H ⟨Pr, F, ρ, s, S, q⟩ => by
    refine ⟨Pr, F, ρ, s, S, (AnsS.bind (σ := σ) (Rl := RV Ca Pr σ) q).mono ?_⟩
    rintro v H1 ⟨y, s1, F1, ρ1, gr, S1, tv, q1⟩
    exact q1 F1 ρ1 σ H1 v (Gr.refl _ _ _) S1 tv
theorem ss_brk : PSv X Ca W (.Break pos) fun s => .bk s := PS.imp ps_break fun T σ H ⟨Pr, F, ρ, s, S, q⟩ => q F ρ σ H (Gr.refl _ _ _) S
theorem ss_cont : PSv X Ca W (.Continue pos) fun s => .ct s := PS.imp ps_continue fun T σ H ⟨Pr, F, ρ, s, S, q⟩ => q F ρ σ H (Gr.refl _ _ _) S
theorem ss_ite {sa sb : List Stmt} {ft : S → Res Bool} {fa fb : S → Out} (hc : PTv X Ca W c ft) (ha : PSsv X Ca W sa fa) (hb : PSsv X Ca W sb fb) : PSv X Ca W (.If c sa sb pos) fun s => (ft s).out fun t s => if t then fa s else fb s :=
  PS.imp (ps_if hc ha hb) fun T σ H ⟨Pr, F, ρ, s, S, q⟩ => by
    refine ⟨Pr, F, ρ, s, S, (AnsS.bind (σ := σ) (Rl := RB Pr σ) q).mono ?_⟩
    rintro b H1 ⟨_, s1, F1, ρ1, gr, S1, rfl, q1⟩
    cases b with
    | true => exact ⟨Pr, F1, ρ1, s1, S1, q1⟩
    | false => exact ⟨Pr, F1, ρ1, s1, S1, q1⟩
theorem ss_raise {c : Nat} (gd : Gd X W) (he : PMk X e fun _ H Q => Q (.ref (Ca c)) none H) : PSv X Ca W (.Raise (some e) none pos) fun s => .ex c s :=
  PS.imp (ps_raise gd.hc gd.tk he) fun T σ H ⟨Pr, F, ρ, s, S, q⟩ => q F ρ σ H (Gr.refl _ _ _) S

/-! ### while, for -/
/-- the rest of a while loop -/
theorem while_run {c : Expr} {body : List Stmt} {ft : S → Res Bool} {fb : S → Out} {N : Nat} {T : Ends} {σ : L2.St} {H : Hp} (h : RunS Ca W (whileL ft fb N) T σ H) : tWhile (Run Ca W RB ft) (RunS Ca W fb) T σ H := by
  obtain ⟨Pr, F, ρ, s, S, q⟩ := h
  refine ⟨fun m σ H => ∃ F ρ s, Sta Ca Pr F ρ s σ H ∧ AnsS Ca W Pr F ρ H (whileL ft fb m s) T, ⟨N, F, ρ, s, S, q⟩, ?_⟩
  rintro m σ1 H1 ⟨F1, ρ1, s1, S1, q1⟩
  cases m with
  | zero => exact q1.elim
  | succ m =>
    unfold whileL at q1
    refine ⟨Pr, F1, ρ1, s1, S1, (AnsS.bind (σ := σ1) (Rl := RB Pr σ1) q1).mono ?_⟩
    rintro b H2 ⟨_, s2, F2, ρ2, g2, S2, rfl, q2⟩
    cases b with
    | false => exact q2 F2 ρ2 σ1 H2 (Gr.refl _ _ _) S2
    | true =>
      rw [if_pos rfl]
      refine ⟨fun σ' H' => ∃ F ρ s, Sta Ca Pr F ρ s σ' H' ∧ AnsS Ca W Pr F ρ H' (whileL ft fb m s) T, fun σ' H' z => ⟨m, Nat.lt_succ_self m, z⟩, Pr, F2, ρ2, s2, S2, ?_⟩
      rw [if_pos rfl] at q2
      cases hf : fb s2 with
      | nx s3 => rw [hf] at q2; exact fun F' ρ' σ' H' gr S' => ⟨F', ρ', s3, S', AnsS.start gr q2⟩
      | ct s3 => rw [hf] at q2; exact fun F' ρ' σ' H' gr S' => ⟨F', ρ', s3, S', AnsS.start gr q2⟩
      | bk s3 => rw [hf] at q2; exact q2
      | rt o d s3 => rw [hf] at q2; exact q2
      | ex c s3 => rw [hf] at q2; exact q2
      | no => rw [hf] at q2; exact q2
theorem ss_whl {sb : List Stmt} {ft : S → Res Bool} {fb : S → Out} {N : Nat} (hp : PassesOwn (model X.prog X.w) X.A X.env X.xe) (hc : PTv X Ca W c ft) (hb : PSsv X Ca W sb fb) : PSv X Ca W (.While c sb [] pos) (whileL ft fb N) :=
  PS.imp (ps_while hp hc hb) fun T σ H h => while_run (c := c) (body := sb) h
/-- what a for walks: values, or a box's list as it stands -/
def RJ (K : PySem.W.Frag) (Ca : Cn) (k : IK) : Rel' (List D) It := fun _ _ F ρ _ H xs J => (∃ l vs, items k xs = some l ∧ RepL Ca F ρ H l vs ∧ Feeds J F ρ H vs) ∨ ∃ n a, k = .seq ∧ xs = [.box n] ∧ ρ[n]? = some a ∧ J = Itl K a
def forRun (N t : Nat) (k : IK) (fi : S → Res (List D)) (fb : S → Out) (s : S) : Out := (fi s).out fun xs s => match k, xs with
  | .seq, [.box n] => loopB t n fb N 0 s
  | _, _ => (Res.of (items k xs) s).out fun l s => loop t fb l s
theorem loop_out {t : Nat} {fb : S → Out} {x : D} {xs : List D} {s : S} {Pr : Hp} {F : Addr → Prop} {ρ : List Addr} {H : Hp} {T : Ends} (q : AnsS Ca W Pr F ρ H (loop t fb (x :: xs) s) T) :
    AnsS Ca W Pr F ρ H (fb { s with σ := s.σ.set t (some (false, x)) }) { T with nx := fun σ' H' => ∃ F' ρ' s', Gr F ρ H F' ρ' H' ∧ Sta Ca Pr F' ρ' s' σ' H' ∧ AnsS Ca W Pr F' ρ' H' (loop t fb xs s') T, ct := fun σ' H' => ∃ F' ρ' s', Gr F ρ H F' ρ' H' ∧ Sta Ca Pr F' ρ' s' σ' H' ∧ AnsS Ca W Pr F' ρ' H' (loop t fb xs s') T, bk := T.nx } := by
  unfold loop at q
  cases hf : fb { s with σ := s.σ.set t (some (false, x)) } with
  | nx s3 => rw [hf] at q; exact fun F' ρ' σ' H' gr S' => ⟨F', ρ', s3, gr, S', AnsS.start gr q⟩
  | ct s3 => rw [hf] at q; exact fun F' ρ' σ' H' gr S' => ⟨F', ρ', s3, gr, S', AnsS.start gr q⟩
  | bk s3 => rw [hf] at q; exact q
  | rt o d s3 => rw [hf] at q; exact q
  | ex c s3 => rw [hf] at q; exact q
  | no => rw [hf] at q; exact q
theorem loopB_out {t n m i : Nat} {fb : S → Out} {s : S} {Pr : Hp} {F : Addr → Prop} {ρ : List Addr} {H : Hp} {T : Ends} (q : AnsS Ca W Pr F ρ H (loopB t n fb (m + 1) i s) T) :
    ∃ xs, s.μ[n]? = some (.val (.lst xs)) ∧ ((xs[i]? = none ∧ AnsS Ca W Pr F ρ H (.nx s) T) ∨ ∃ x, xs[i]? = some x ∧
      AnsS Ca W Pr F ρ H (fb { s with σ := s.σ.set t (some (false, x)) }) { T with nx := fun σ' H' => ∃ F' ρ' s', Gr F ρ H F' ρ' H' ∧ Sta Ca Pr F' ρ' s' σ' H' ∧ AnsS Ca W Pr F' ρ' H' (loopB t n fb m (i + 1) s') T, ct := fun σ' H' => ∃ F' ρ' s', Gr F ρ H F' ρ' H' ∧ Sta Ca Pr F' ρ' s' σ' H' ∧ AnsS Ca W Pr F' ρ' H' (loopB t n fb m (i + 1) s') T, bk := T.nx }) := by
  unfold loopB at q
  split at q
  · rename_i xs hx
    refine ⟨xs, hx, ?_⟩
    split at q
    · rename_i e; exact .inl ⟨e, q⟩
    · rename_i x e
      refine .inr ⟨x, e, ?_⟩
      cases hf : fb { s with σ := s.σ.set t (some (false, x)) } with
      | nx s3 => rw [hf] at q; exact fun F' ρ' σ' H' gr S' => ⟨F', ρ', s3, gr, S', AnsS.start gr q⟩
      | ct s3 => rw [hf] at q; exact fun F' ρ' σ' H' gr S' => ⟨F', ρ', s3, gr, S', AnsS.start gr q⟩
      | bk s3 => rw [hf] at q; exact q
      | rt o d s3 => rw [hf] at q; exact q
      | ex c s3 => rw [hf] at q; exact q
      | no => rw [hf] at q; exact q
  · exact q.elim
end
end Iv
end
section
set_option Elab.async false
set_option linter.all false
/-! for. My own work. -/
namespace Iv
open PySem L2
open PySem (Str)

section
variable {α β : Type} {X : Cx} {W : WX} {Ca : Cn} {g : G} {e a b c tg : Expr} {es : List Expr} {pos : Pos}
/-- is it a thing to walk? -/
def okIt (k : IK) (xs : List D) (s : S) : Bool := match k, xs with
  | .seq, [.box n] => (match s.μ[n]? with | some (.val (.lst _)) => true | _ => false)
  | k, xs => (items k xs).isSome
def itRun (k : IK) (fi : S → Res (List D)) (s : S) : Res (List D) := (fi s).bind fun xs s => if okIt k xs s = true then .ok xs s else .no
def bodyRun (N t : Nat) (k : IK) (fb : S → Out) (xs : List D) (s : S) : Out := match k, xs with
  | .seq, [.box n] => loopB t n fb N 0 s
  | _, _ => (Res.of (items k xs) s).out fun l s => loop t fb l s
theorem body_no {N t : Nat} {k : IK} {fb : S → Out} {xs : List D} {s : S} (h : okIt k xs s = false) : bodyRun N t k fb xs s = .no := by
  by_cases hb : k = .seq ∧ ∃ n, xs = [.box n]
  · obtain ⟨rfl, n, rfl⟩ := hb
    cases N with
    | zero => rfl
    | succ N =>
      show loopB t n fb (N + 1) 0 s = .no
      have h : (match s.μ[n]? with | some (.val (.lst _)) => true | _ => false) = false := h
      unfold loopB
      split
      · rename_i xs hx
        rw [hx] at h; cases h
      · rfl
  · have e1 : okIt k xs s = (items k xs).isSome := by
      unfold okIt
      split
      · exact absurd ⟨rfl, _, rfl⟩ hb
      · rfl
    have e2 : bodyRun N t k fb xs s = (Res.of (items k xs) s).out fun l s => loop t fb l s := by
      unfold bodyRun
      split
      · exact absurd ⟨rfl, _, rfl⟩ hb
      · rfl
    rw [e2]
    rw [e1] at h
    cases hi : items k xs with
    | none => rfl
    | some l => rw [hi] at h; cases h
theorem for_form {N t : Nat} {k : IK} {fi : S → Res (List D)} {fb : S → Out} {s : S} : ((fi s).out fun xs s => bodyRun N t k fb xs s) = (itRun k fi s).out fun xs s => bodyRun N t k fb xs s := by
  unfold itRun
  cases hf : fi s with
  | ok xs s1 =>
    show bodyRun N t k fb xs s1 = (Res.out (if okIt k xs s1 = true then .ok xs s1 else .no) fun xs s => bodyRun N t k fb xs s)
    split
    · rfl
    · rename_i h
      exact body_no (by simpa using h)
  | ex c s1 => rfl
  | no => rfl
theorem sd_fseq {fe : S → Res (Bool × D)} (h : PEv X Ca W e fe) : PI X tg e (Run Ca W (RJ X.K Ca .seq) (itRun .seq fun s => (fe s).bind fun x s => .ok [x.2] s)) := by
  refine PI.imp (PI.or (pi_list h) (pi_tup h)) fun σ H Q ⟨Pr, F, ρ, s, S, q⟩ => ?_
  unfold itRun at q
  rw [Res.assoc] at q
  have main : ∀ (P : V → Hp → Prop), (∀ v H1 x s1 F1 ρ1, Gr F ρ H F1 ρ1 H1 → Sta Ca Pr F1 ρ1 s1 σ H1 → Rep Ca F1 ρ1 H1 x v → Ans Ca W Pr σ (RJ X.K Ca .seq Pr σ) F1 ρ1 H1 (if okIt .seq [x] s1 = true then .ok [x] s1 else .no) Q → (∃ o, fe s = .ok (o, x) s1) → P v H1) → Run Ca W (RV Ca) fe σ H P := fun P hP => by
    refine ⟨Pr, F, ρ, s, S, ?_⟩
    cases hf : fe s with
    | ok x s1 =>
      rw [hf] at q
      intro F1 ρ1 H1 v gr S1 t
      obtain ⟨F2, g2, S2, r⟩ := S1.freeze t
      exact hP v H1 x.2 s1 F2 ρ1 (gr.trans g2) S2 r (Ans.start (gr.trans g2) q) ⟨x.1, hf⟩
    | ex c s1 => rw [hf] at q; exact q
    | no => rw [hf] at q; exact q
  by_cases ht : ∃ o xs s1, fe s = .ok (o, .tup xs) s1
  · right
    obtain ⟨o, xs, s1', hf⟩ := ht
    refine main _ fun v H1 x s1 F1 ρ1 gr S1 r q1 ⟨o', e⟩ => ?_
    rw [hf] at e
    cases e
    simp only [Rep] at r
    obtain ⟨a, vs, rfl, fa, ha, l⟩ := r
    exact ⟨a, rfl, ⟨vs, SqT.of ha⟩, Ans.fin (show Ans Ca W Pr σ (RJ X.K Ca .seq Pr σ) F1 ρ1 H1 (.ok [.tup xs] s1') Q from q1) S1 (.inl ⟨xs, vs, rfl, l, feeds_tup fa ha⟩)⟩
  · left
    refine main _ fun v H1 x s1 F1 ρ1 gr S1 r q1 ⟨o', e⟩ => ?_
    cases x <;> try exact q1.elim
    · exact absurd ⟨_, _, _, e⟩ ht
    · rename_i xs _
      simp only [Rep] at r
      obtain ⟨a, vs, rfl, fa, ha, l⟩ := r
      exact ⟨a, rfl, ⟨vs, SqL.of ha⟩, Ans.fin (show Ans Ca W Pr σ (RJ X.K Ca .seq Pr σ) F1 ρ1 H1 (.ok [.lst xs] s1) Q from q1) S1 (.inl ⟨xs, vs, rfl, l, fun F' ρ' H' gr => by
        have q : SqL X.K H' a vs := .inl (rd_lst gr fa (.inl ha))
        exact ⟨fun i hi => ⟨vs, q, hi⟩, fun i hi => ⟨vs, vs[i], q, List.getElem?_eq_getElem hi⟩, fun i x H2 ⟨e, y⟩ => ⟨e, fun _ => y vs q⟩⟩⟩)⟩
    · rename_i n _
      split at q1
      · rename_i hk
        have hk : (match s1.μ[n]? with | some (.val (.lst _)) => true | _ => false) = true := hk
        simp only [Rep] at r
        obtain ⟨a, rfl, hρ⟩ := r
        split at hk
        · rename_i xs hx
          obtain ⟨vs, ha, l⟩ := S1.bx n _ a hx hρ
          exact ⟨a, rfl, ⟨vs, SqL.of ha⟩, q1.fin S1 (.inr ⟨n, a, rfl, rfl, hρ, rfl⟩)⟩
        · cases hk
      · exact q1.elim
    · rename_i xs _
      simp only [Rep] at r
      obtain ⟨a, vs, o, rfl, fa, ha, l⟩ := r
      exact ⟨a, rfl, ⟨vs, .inl (.inr ⟨o, ha⟩)⟩, Ans.fin (show Ans Ca W Pr σ (RJ X.K Ca .seq Pr σ) F1 ρ1 H1 (.ok [.scr xs] s1) Q from q1) S1 (.inl ⟨xs, vs, rfl, l, fun F' ρ' H' gr => by
        have q : SqL X.K H' a vs := .inl (rd_lst gr fa (.inr ⟨o, ha⟩))
        exact ⟨fun i hi => ⟨vs, q, hi⟩, fun i hi => ⟨vs, vs[i], q, List.getElem?_eq_getElem hi⟩, fun i x H2 ⟨e, y⟩ => ⟨e, fun _ => y vs q⟩⟩⟩)⟩
theorem sd_frng {k : IK} {iter : Expr} {fs : S → Res (List D)} (hk : k ≠ .seq) (h : PIv X Ca W tg iter fun s => (fs s).bind fun xs s => Res.of (items k xs) s) : PI X tg iter (Run Ca W (RJ X.K Ca k) (itRun k fs)) :=
  PI.imp h fun σ H Q ⟨Pr, F, ρ, s, S, q⟩ => by
    refine ⟨Pr, F, ρ, s, S, ?_⟩
    unfold itRun at q
    dsimp only
    cases hf : fs s with
    | ok xs s1 =>
      rw [hf] at q
      have q : Ans Ca W Pr σ (RJ X.K Ca k Pr σ) F ρ H (if okIt k xs s1 = true then .ok xs s1 else .no) Q := q
      show Ans Ca W Pr σ (RI Ca Pr σ) F ρ H (Res.of (items k xs) s1) Q
      have e1 : okIt k xs s1 = (items k xs).isSome := by
        unfold okIt
        split
        · exact absurd rfl hk
        · rfl
      rw [e1] at q
      cases hi : items k xs with
      | none => rw [hi] at q; exact q
      | some l =>
        rw [hi] at q
        intro F' ρ' H' J gr S' r
        obtain ⟨vs, r1, r2⟩ := r
        exact (show Ans Ca W Pr σ (RJ X.K Ca k Pr σ) F ρ H (.ok xs s1) Q from q) F' ρ' H' J gr S' (.inl ⟨l, vs, hi, r1, r2⟩)
    | ex c s1 => rw [hf] at q; exact q
    | no => rw [hf] at q; exact q
theorem ss_for {x : Str} {t : Nat} {xp : Pos} {k : IK} {iter : Expr} {sb : List Stmt} {fi : S → Res (List D)} {fb : S → Out} {N : Nat} (gd : Gd X W) (hp : PassesOwn (model X.prog X.w) X.A X.env X.xe) (tx : Tg X x t) (hi : PI X (.Name x xp) iter (Run Ca W (RJ X.K Ca k) (itRun k fi))) (hb : PSsv X Ca W sb fb)
    (hs : ∀ x, foldedSetIterable iter X.env x = pure x) : PSv X Ca W (.For (.Name x xp) iter sb [] pos) fun s => (fi s).out fun xs s => bodyRun N t k fb xs s :=
  PS.imp (ps_for hp gd.hc hi (pg_name gd.nd tx.ix tx.loc tx.fn) hb hs) fun T σ H ⟨Pr, F, ρ, s, S, q⟩ => by
    dsimp only at q
    rw [for_form] at q
    refine ⟨Pr, F, ρ, s, S, (AnsS.bind (σ := σ) (Rl := RJ X.K Ca k Pr σ) q).mono ?_⟩
    rintro J H1 ⟨xs, s1, F1, ρ1, gr, S1, rj, q1⟩
    rcases rj with ⟨l, vs, hit, rl, fd⟩ | ⟨n, a, rfl, rfl, hρ, rfl⟩
    · have q2 : AnsS Ca W Pr F1 ρ1 H1 (loop t fb l s1) T := by
        have e2 : bodyRun N t k fb xs s1 = (Res.of (items k xs) s1).out fun l s => loop t fb l s := by
          unfold bodyRun
          split
          · rename_i n
            simp [items] at hit
          · rfl
        rw [e2, hit] at q1
        exact q1
      refine ⟨fun i m σ H => m = vs.length - i ∧ i ≤ vs.length ∧ ∃ F ρ s, Gr F1 ρ1 H1 F ρ H ∧ Sta Ca Pr F ρ s σ H ∧ AnsS Ca W Pr F ρ H (loop t fb (l.drop i) s) T, ⟨vs.length, by simp, Nat.zero_le _, F1, ρ1, s1, Gr.refl _ _ _, S1, q2⟩, ?_⟩
      rintro i m σ2 H2 ⟨rfl, hi', F2, ρ2, s2, g2, S2, q3⟩
      obtain ⟨f1, f2, f3⟩ := fd F2 ρ2 H2 g2
      by_cases lt : i < vs.length
      · have ltl : i < l.length := by rw [rl.len]; exact lt
        refine .inr ⟨f2 i lt, fun σ' H' => ∃ F ρ s, Gr F1 ρ1 H1 F ρ H' ∧ Sta Ca Pr F ρ s σ' H' ∧ AnsS Ca W Pr F ρ H' (loop t fb (l.drop (i + 1)) s) T, fun σ' H' p => ⟨vs.length - (i + 1), by omega, rfl, lt, p⟩, fun x H' y => ?_⟩
        obtain ⟨eH, hy⟩ := f3 i x H' y
        subst eH
        obtain ⟨w, hw, rw'⟩ := rl.get (List.getElem?_eq_getElem ltl)
        obtain rfl : w = x := by rw [hy lt] at hw; exact (Option.some.inj hw).symm
        rw [List.drop_eq_getElem_cons ltl] at q3
        have q4 := loop_out q3
        refine ⟨Pr, F2, ρ2, _, S2.store t (Rep.mono g2 _ _ rw'), ?_⟩
        cases hf : fb { s2 with σ := s2.σ.set t (some (false, l[i])) } with
        | nx s3 => rw [hf] at q4; exact fun F' ρ' σ' H' gr S' => by
                    obtain ⟨F3, ρ3, s4, g4, S4, q5⟩ := q4 F' ρ' σ' H' gr S'
                    exact ⟨F3, ρ3, s4, g2.trans g4, S4, q5⟩
        | ct s3 => rw [hf] at q4; exact fun F' ρ' σ' H' gr S' => by
                    obtain ⟨F3, ρ3, s4, g4, S4, q5⟩ := q4 F' ρ' σ' H' gr S'
                    exact ⟨F3, ρ3, s4, g2.trans g4, S4, q5⟩
        | bk s3 => rw [hf] at q4; exact q4
        | rt o d s3 => rw [hf] at q4; exact q4
        | ex c s3 => rw [hf] at q4; exact q4
        | no => rw [hf] at q4; exact q4
      · obtain rfl : i = vs.length := by omega
        rw [← rl.len, List.drop_length] at q3
        exact .inl ⟨f1 _ (Nat.le_refl _), q3 F2 ρ2 σ2 H2 (Gr.refl _ _ _) S2⟩
    · have q2 : AnsS Ca W Pr F1 ρ1 H1 (loopB t n fb N 0 s1) T := q1
      refine ⟨fun i m σ H => ∃ F ρ s, Gr F1 ρ1 H1 F ρ H ∧ Sta Ca Pr F ρ s σ H ∧ AnsS Ca W Pr F ρ H (loopB t n fb m i s) T, ⟨N, F1, ρ1, s1, Gr.refl _ _ _, S1, q2⟩, ?_⟩
      rintro i m σ2 H2 ⟨F2, ρ2, s2, g2, S2, q3⟩
      cases m with
      | zero => exact q3.elim
      | succ m =>
        obtain ⟨ys, hx, q4⟩ := loopB_out q3
        obtain ⟨vs, ha, l⟩ := S2.bx n _ a hx (g2.get hρ)
        have sq : SqL X.K H2 a vs := SqL.of ha
        rcases q4 with ⟨hn, q5⟩ | ⟨x, hn, q5⟩
        · refine .inl ⟨⟨vs, sq, ?_⟩, q5 F2 ρ2 σ2 H2 (Gr.refl _ _ _) S2⟩
          rw [← l.len]
          exact List.getElem?_eq_none_iff.mp hn
        · obtain ⟨w, hw, rw'⟩ := l.get hn
          refine .inr ⟨⟨vs, w, sq, hw⟩, fun σ' H' => ∃ F ρ s, Gr F1 ρ1 H1 F ρ H' ∧ Sta Ca Pr F ρ s σ' H' ∧ AnsS Ca W Pr F ρ H' (loopB t n fb m (i + 1) s) T, fun σ' H' p => ⟨m, Nat.lt_succ_self m, p⟩, fun y H' hy => ?_⟩
          obtain ⟨rfl, hy⟩ := hy
          obtain rfl : w = y := by have := hy vs sq; rw [hw] at this; exact Option.some.inj this
          refine ⟨Pr, F2, ρ2, _, S2.store t rw', ?_⟩
          cases hf : fb { s2 with σ := s2.σ.set t (some (false, x)) } with
          | nx s3 => rw [hf] at q5; exact fun F' ρ' σ' H' gr S' => by
                      obtain ⟨F3, ρ3, s4, g4, S4, q6⟩ := q5 F' ρ' σ' H' gr S'
                      exact ⟨F3, ρ3, s4, g2.trans g4, S4, q6⟩
          | ct s3 => rw [hf] at q5; exact fun F' ρ' σ' H' gr S' => by
                      obtain ⟨F3, ρ3, s4, g4, S4, q6⟩ := q5 F' ρ' σ' H' gr S'
                      exact ⟨F3, ρ3, s4, g2.trans g4, S4, q6⟩
          | bk s3 => rw [hf] at q5; exact q5
          | rt o d s3 => rw [hf] at q5; exact q5
          | ex c s3 => rw [hf] at q5; exact q5
          | no => rw [hf] at q5; exact q5
end
end Iv
end
section
set_option Elab.async false
set_option linter.all false
/-! Functions: what they promise, with the guards known; how they are called. My own work. -/
namespace Iv
open PySem L2 PySem.Spec PyProof.Rows
open PySem (Str)

/-- the text and what is known of it -/
structure Tx where
  P : Program
  w : World
  K : PySem.W.Frag
  mg : Str → Option Value
  g : G
  ca : Nat → Addr
  fa : Nat → Addr
  fd : Nat → FuncData
  ps : Nat → List Str
  lfit : Lm → Arguments → Expr → Scope → Prop
  tabs : List (Addr × Str)
  tc : Addr → Addr
/-- the function object of a lambda, its code object c and its cells -/
def LamO (T : Tx) (i : Lm) (f c : Addr) (cl : List (Str × Addr)) : HO := .ext fun h => ∃ ps body scope pm ctv, T.lfit i ps body scope ∧ h.get? f = some (PySem.W.kla_obj "<lambda>" i.q ps body scope cl pm c ctv)
/-- cells of just the lambda's names, one each -/
def ClW (i : Lm) (cl : List (Str × Addr)) : Prop := (∀ x y c, cl.lookup x = some c → cl.lookup y = some c → x = y) ∧ ∀ y c, cl.lookup y = some c → y ∈ i.names
/-- cells that stand in the base -/
def CelB (base : Heap) (i : Lm) (cl : List (Str × Addr)) (vs : List V) : Prop :=
  ClW i cl ∧ vs.length = i.names.length ∧ ∀ (j : Nat) (y : Str) (v : V), i.names[j]? = some y → vs[j]? = some v → ∃ c u o, cl.lookup y = some c ∧ RelV v u ∧ base.get? c = some o ∧ o.data = .cell (some u)
def Tx.cn (T : Tx) (own : Lm → List (Str × Addr) → Prop) (cel : Lm → List (Str × Addr) → List V → Prop) : Cn := ⟨T.ca, LamO T, own, cel, T.tabs, fun _ _ _ _ => rfl⟩
def Tx.cb (T : Tx) (base : Heap) : Cn := T.cn (fun _ _ => False) (CelB base)

/-- what a call of an evaluated function promises -/
def Spec (Ca : Cn) (run : List D → List Bx → CRes) : Sp := fun vs H Q E => ∃ Pr F ρ μ ds, Sta Ca Pr F ρ ⟨[], μ⟩ [] H ∧ RepL Ca F ρ H ds vs ∧ match run ds μ with
  | .ok o d μ' => ∀ F' ρ' H' v, Gr F ρ H F' ρ' H' → Sta Ca Pr F' ρ' ⟨[], μ'⟩ [] H' → Tmp Ca Pr F' ρ' ⟨[], μ'⟩ [] H' (o, d) v → Q v H'
  | .ex c μ' => ∀ F' ρ' H', Gr F ρ H F' ρ' H' → Sta Ca Pr F' ρ' ⟨[], μ'⟩ [] H' → E (.ref (Ca c)) none H'
  | .no => False

/-- a def's promise where no container's text is under way -/
structure FnG (T : Tx) (base : Heap) (k : Nat) (f : Addr) (fd : FuncData) (ps : List Str) (sp : Sp) : Prop where
  len : ∀ vs H Q E, sp vs H Q E → vs.length = ps.length
  go : ∀ (A : Around) (fr : List Env) (s : Shared) (H : Hp) (args : Args) (us : List Value) (vs : List V) (Q : VK) (E : XK), Room k A → A.guards = some [] → Env0 T.P T.w T.K T.mg base A fr s H → BindsTo s fd args (ps.zip us) → Vals vs us → sp vs H Q E →
    codeAny (model T.P T.w) A (.call (.ref f) args) (CR (L2.CX T.P T.w) fr T.P T.w H s Q E) s
/-- a def by its body -/
theorem fnG_of {T : Tx} {base : Heap} {k : Nat} {f : Addr} {name qual : Str} {params : Arguments} {body : List Stmt} {scope : Scope} {dV kV doc pm cdv ct oc : Value} {an od : Option Addr} {osl : Array (Option Value)} {N ps : List Str} {sp : Sp}
    (lk : T.K.lookup f = some ⟨oc, od, .func (PySem.W.fnOf name qual params body scope dV kV doc pm an cdv ct), osl⟩) (cd : PySem.W.codeIn T.K cdv qual = true) (sc : FnScope N ps scope) (len : ∀ vs H Q E, sp vs H Q E → vs.length = ps.length)
    (bod : ∀ (A : Around) (fr : List Env) (s : Shared) (H : Hp) (vs : List V) (Q : VK) (E : XK), Room k (A.deeper (envOfC qual scope s.heap.objs.size f cdv)) → A.guards = some [] → sp vs H Q E →
      ∃ t, PSs (cxOf (L2.CX T.P T.w) T.P T.w T.K T.mg base N qual scope f cdv A fr s H E) body t ∧ t { nx := fun _ H' => Q .non H', rt := Q } (L2.start N vs) H) :
    FnG T base (k + 1) f (PySem.W.fnOf name qual params body scope dV kV doc pm an cdv ct) ps sp := ⟨len, by
  intro A fr s H args us vs Q E room gu e0 bd rel want
  have inB : ∀ b o, base.get? b = some o → s.heap.get? b = some o := fun b o e => (e0.bs b o e).1
  have inK : T.K.In s.heap := e0.mod.kin.keeps inB
  have params_in : ∀ y ∈ ps.zip us, scope.names.lookup y.1 = some .local ∨ (scope.names.lookup y.1 = some .cell ∧ ((cellsFrom (s.heap.objs.size + 1) scope.names []).lookup y.1).isSome = true) := by
    rintro ⟨n, v⟩ hy
    exact (sc.par n (List.of_mem_zip hy).1).imp id fun q => ⟨q, PySem.W.cellsFrom_some _ _ _ (.inl q)⟩
  refine codeAny_call_function room.depth (inK _ _ lk) rfl sc.co sc.gen rfl (PySem.W.codeRec_of inK cd) (bd _ _ _ _ (wpAny_newFunctionEnv_cells sc.kind params_in fun env he s1 x => ?_))
  subst he
  refine ⟨(e0.mod.nolimit.keeps inB).keeps x.toInCall.keep, codeAny_func ?_⟩
  obtain ⟨t, ht, want1⟩ := bod A fr s H vs Q E (room.deeper _) gu want
  have I0 := inv_start (CX := L2.CX T.P T.w) (E := E) (f := f) (cd := cdv) sc room.hd e0 (len _ _ _ _ want) rel x
  refine wpAny_mono (ht.run [] s1 _ H _ I0 want1) (fun fl s2 h2 => ?_) fun e s2 h2 => h2
  have fin : ∀ {σ2 : L2.St} {H2 : Hp} {v : V} {u : Value}, Inv (cxOf (L2.CX T.P T.w) T.P T.w T.K T.mg base N qual scope f cdv A fr s H E) [] σ2 H2 s2 → RelV v u → Q v H2 → CE fr T.P T.w H s Q u s2 := fun I2 rv q => ⟨_, _, I2.os, I2.bare, I2.base, I2.hok, rv, q⟩
  match fl, h2 with
  | .ret u, ⟨v, σ2, H2, I2, rv, q⟩ => exact fin I2 rv q
  | .next, ⟨σ2, H2, I2, q⟩ => exact fin (v := .non) (u := .none) I2 rfl q
  | .brk, ⟨_, _, _, q⟩ => exact q.elim
  | .cont, ⟨_, _, _, q⟩ => exact q.elim⟩

/-! ### the state as another frame sees it -/
section
variable {T : Tx} {Ca Cb : Cn} {Pr : Hp} {F : Addr → Prop} {ρ : List Addr} {s : Iv.S} {σ : L2.St} {H : Hp}
/-- the same text -/
structure Alike (Ca Cb : Cn) : Prop where
  ca : Ca.ca = Cb.ca
  lam : Ca.lam = Cb.lam
  tabs : Ca.tabs = Cb.tabs
theorem Alike.symm (h : Alike Ca Cb) : Alike Cb Ca := ⟨h.ca.symm, h.lam.symm, h.tabs.symm⟩
mutual
theorem Rep.alike (h : Ca.ca = Cb.ca) : ∀ (d : D) (v : V), Rep Ca F ρ H d v → Rep Cb F ρ H d v
  | .non, _, r => by simpa only [Rep] using r
  | .bl _, _, r => by simpa only [Rep] using r
  | .int _, _, r => by simpa only [Rep] using r
  | .str _, _, r => by simpa only [Rep] using r
  | .ty _, _, r => by simpa only [Rep] using r
  | .cls _, _, r => by simp only [Rep] at r ⊢; rw [← h]; exact r
  | .rep _, _, r => by simpa only [Rep] using r
  | .box n, v, r => by simpa only [Rep] using r
  | .exc c, v, r => by simp only [Rep] at r ⊢; rw [← h]; exact r
  | .tup xs, v, r => by
    simp only [Rep] at r ⊢
    obtain ⟨a, vs, e, f, q, l⟩ := r
    exact ⟨a, vs, e, f, q, RepL.alike h xs vs l⟩
  | .lst xs, v, r => by
    simp only [Rep] at r ⊢
    obtain ⟨a, vs, e, f, q, l⟩ := r
    exact ⟨a, vs, e, f, q, RepL.alike h xs vs l⟩
  | .scr xs, v, r => by
    simp only [Rep] at r ⊢
    obtain ⟨a, vs, o, e, f, q, l⟩ := r
    exact ⟨a, vs, o, e, f, q, RepL.alike h xs vs l⟩
  | .dK xs, v, r => by
    simp only [Rep] at r ⊢
    obtain ⟨a, vs, e, f, q, l⟩ := r
    exact ⟨a, vs, e, f, q, RepK.alike h xs vs l⟩
  | .dT xs, v, r => by
    simp only [Rep] at r ⊢
    obtain ⟨a, vs, e, f, q, l⟩ := r
    exact ⟨a, vs, e, f, q, RepT.alike h xs vs l⟩
theorem RepL.alike (h : Ca.ca = Cb.ca) : ∀ (xs : List D) (vs : List V), RepL Ca F ρ H xs vs → RepL Cb F ρ H xs vs
  | [], _, r => by simpa only [RepL] using r
  | x :: xs, vs, r => by
    simp only [RepL] at r ⊢
    obtain ⟨v, t, e, a, b⟩ := r
    exact ⟨v, t, e, Rep.alike h x v a, RepL.alike h xs t b⟩
theorem RepK.alike (h : Ca.ca = Cb.ca) : ∀ (xs : List (Key × D)) (vs : List (Key × V)), RepK Ca F ρ H xs vs → RepK Cb F ρ H xs vs
  | [], _, r => by simpa only [RepK] using r
  | (k, x) :: xs, vs, r => by
    simp only [RepK] at r ⊢
    obtain ⟨v, t, e, a, b⟩ := r
    exact ⟨v, t, e, Rep.alike h x v a, RepK.alike h xs t b⟩
theorem RepT.alike (h : Ca.ca = Cb.ca) : ∀ (xs : List (List Key × D)) (vs : List (List Key × V)), RepT Ca F ρ H xs vs → RepT Cb F ρ H xs vs
  | [], _, r => by simpa only [RepT] using r
  | (k, x) :: xs, vs, r => by
    simp only [RepT] at r ⊢
    obtain ⟨v, t, e, a, b⟩ := r
    exact ⟨v, t, e, Rep.alike h x v a, RepT.alike h xs t b⟩
end
theorem RepF.alike (h : Ca.ca = Cb.ca) : ∀ (xs : List (Str × D)) (vs : List (Str × V)), RepF Ca F ρ H xs vs → RepF Cb F ρ H xs vs
  | [], _, r => by simpa only [RepF] using r
  | (k, x) :: xs, vs, r => by
    simp only [RepF] at r ⊢
    obtain ⟨v, t, e, a, b⟩ := r
    exact ⟨v, t, e, Rep.alike h x v a, RepF.alike h xs t b⟩
theorem Cont.alike (h : Ca.ca = Cb.ca) {d : D} {a : Addr} (r : Cont Ca F ρ H d a) : Cont Cb F ρ H d a := by
  unfold Cont at r ⊢
  split at r
  · obtain ⟨vs, q, l⟩ := r; exact ⟨vs, q, RepL.alike h _ _ l⟩
  · obtain ⟨vs, q, l⟩ := r; exact ⟨vs, q, RepK.alike h _ _ l⟩
  · obtain ⟨vs, q, l⟩ := r; exact ⟨vs, q, RepT.alike h _ _ l⟩
  · exact r.elim
theorem Val.alike (h : Ca.ca = Cb.ca) {x : Bool × D} {v : V} (r : Val Ca Pr F ρ H x v) : Val Cb Pr F ρ H x v := by
  unfold Val at r ⊢
  split
  · rename_i hx
    rw [if_pos hx] at r
    obtain ⟨a, e, c, f, m, q⟩ := r
    exact ⟨a, e, c.alike h, f, m, q⟩
  · rename_i hx
    rw [if_neg hx] at r
    exact Rep.alike h _ _ r
/-- the values of slots that stand still -/
theorem snap_vals (S : Sta Ca Pr F ρ s σ H) : ∀ {js : List Nat} {ds : List D}, snap s js = some ds → ∃ vs, RepL Ca F ρ H ds vs ∧ vs.length = js.length ∧ ∀ (m j : Nat) (v : V), js[m]? = some j → vs[m]? = some v → σ[j]? = some (some v)
  | [], ds, e => by
    simp only [snap, Option.some.injEq] at e; subst e
    exact ⟨[], .nil, rfl, fun m j v h => by simp at h⟩
  | j :: js, ds, e => by
    simp only [snap] at e
    split at e
    · rename_i d ds' h1 h2
      simp only [Option.some.injEq] at e; subst e
      obtain ⟨v, hv, r⟩ := S.std h1
      obtain ⟨vs, l, n, k⟩ := snap_vals S h2
      refine ⟨v :: vs, .cons r l, by simp [n], fun m i u e1 e2 => ?_⟩
      cases m with
      | zero =>
        obtain rfl : j = i := by simpa using e1
        obtain rfl : v = u := by simpa using e2
        exact hv
      | succ m => exact k m i u (by simpa using e1) (by simpa using e2)
    · cases e

/-! ### over to another frame and back -/
open Classical in
/-- what the caller alone holds is not to be touched -/
noncomputable def prot (Pr : Hp) (s : Iv.S) (σ : L2.St) (H : Hp) : Hp := fun a => if ∃ (i : Nat) (d : D), s.σ[i]? = some (some (true, d)) ∧ σ[i]? = some (some (V.ref a)) then H a else Pr a
theorem prot_own {a : Addr} {i : Nat} {d : D} (h1 : s.σ[i]? = some (some (true, d))) (h2 : σ[i]? = some (some (V.ref a))) : prot Pr s σ H a = H a := if_pos ⟨i, d, h1, h2⟩
theorem prot_cases (a : Addr) : ((∃ (i : Nat) (d : D), s.σ[i]? = some (some (true, d)) ∧ σ[i]? = some (some (V.ref a))) ∧ prot Pr s σ H a = H a) ∨ prot Pr s σ H a = Pr a := by
  by_cases h : ∃ (i : Nat) (d : D), s.σ[i]? = some (some (true, d)) ∧ σ[i]? = some (some (V.ref a))
  · exact .inl ⟨h, if_pos h⟩
  · exact .inr (if_neg h)
theorem prot_le (S : Sta Ca Pr F ρ s σ H) : ∀ a o, Pr a = some o → prot Pr s σ H a = some o := fun a o e => by
  rcases prot_cases (Pr := Pr) (s := s) (σ := σ) (H := H) a with ⟨_, h⟩ | h
  · rw [h]; exact S.pr a o e
  · rw [h]; exact e
theorem Sta.over (al : Alike Ca Cb) (S : Sta Ca Pr F ρ s σ H) (hc : ∀ i cl vs, Ca.cel i cl vs → Cb.cel i cl vs)
    (ho : ∀ i cl ds vs, Ca.own i cl → snap s i.cs = some ds → RepL Ca F ρ H ds vs → vs.length = i.cs.length → (∀ (m j : Nat) (v : V), i.cs[m]? = some j → vs[m]? = some v → σ[j]? = some (some v)) → Cb.cel i cl vs) :
    Sta Cb (prot Pr s σ H) F ρ ⟨[], enter s⟩ [] H := by
  refine ⟨by rw [S.len]; simp [enter], S.nd, S.fd, fun n b a h1 h2 => ?_, fun n b a h1 h2 hm => ?_, S.rd, fun i x e => by simp at e, fun i j d e v h => by simp at h, fun a o e => ?_, fun a o e => ?_, fun a m => ?_, Nat.le_refl _, by rw [← al.tabs]; exact S.tb, fun a ps e => ⟨(S.nt a ps e).1, (S.nt a ps e).2.1, ?_⟩, fun a o e => ?_⟩
  · have h1 : (s.μ.map (seen s))[n]? = some b := h1
    rw [List.getElem?_map] at h1
    obtain ⟨b0, e0, rfl⟩ := Option.map_eq_some_iff.mp h1
    have r := S.bx n b0 a e0 h2
    cases b0 with
    | gone => trivial
    | val d => exact Cont.alike al.ca r
    | ins c fs =>
      obtain ⟨dx, ws, q, l⟩ := r
      exact ⟨dx, ws, by rw [← al.ca]; exact q, RepF.alike al.ca _ _ l⟩
    | clo i ds =>
      obtain ⟨fa, c, cl, vs, q1, q2, q3, q4, l⟩ := r
      exact ⟨fa, c, cl, vs, by rw [← al.lam]; exact q1, q2, q3, hc _ _ _ q4, RepL.alike al.ca _ _ l⟩
    | lam i =>
      obtain ⟨fa, c, cl, q1, q2, q3, q4⟩ := r
      unfold seen
      dsimp only
      split
      · rename_i ds hds
        obtain ⟨vs, rl, n1, k⟩ := snap_vals S hds
        exact ⟨fa, c, cl, vs, by rw [← al.lam]; exact q1, q2, q3, ho i cl ds vs q4 hds rl n1 k, RepL.alike al.ca _ _ rl⟩
      · trivial
  · have h1 : (s.μ.map (seen s))[n]? = some b := h1
    rw [List.getElem?_map] at h1
    obtain ⟨b0, e0, rfl⟩ := Option.map_eq_some_iff.mp h1
    refine S.bF n b0 a e0 h2 ?_
    cases b0 with
    | lam i =>
      exfalso
      unfold seen at hm
      dsimp only at hm
      split at hm <;> cases hm
    | _ => exact hm
  · rcases prot_cases (Pr := Pr) (s := s) (σ := σ) (H := H) a with ⟨_, h⟩ | h
    · rw [← h]; exact e
    · rw [h] at e; exact S.pr a o e
  · rcases prot_cases (Pr := Pr) (s := s) (σ := σ) (H := H) a with ⟨⟨i, d, h1, h2⟩, h⟩ | h
    · obtain ⟨b, h3, _, nF, _⟩ := S.own h1
      rw [h2] at h3
      obtain rfl : a = b := by simpa using h3
      exact nF
    · rw [h] at e; exact S.pF a o e
  · rcases prot_cases (Pr := Pr) (s := s) (σ := σ) (H := H) a with ⟨⟨i, d, h1, h2⟩, h⟩ | h
    · obtain ⟨b, h3, _, _, nρ, _⟩ := S.own h1
      rw [h2] at h3
      obtain rfl : a = b := by simpa using h3
      exact absurd m nρ
    · rw [h]; exact S.pρ a m
  · rcases prot_cases (Pr := Pr) (s := s) (σ := σ) (H := H) a with ⟨⟨i, d, h1, h2⟩, h⟩ | h
    · obtain ⟨b, h3, c, _⟩ := S.own h1
      rw [h2] at h3
      obtain rfl : a = b := by simpa using h3
      exact absurd e (cont_nt c ps)
    · rw [h]; exact (S.nt a ps e).2.2
  · rcases prot_cases (Pr := Pr) (s := s) (σ := σ) (H := H) a with ⟨⟨i, d, h1, h2⟩, h⟩ | h
    · obtain ⟨b, h3, c, _⟩ := S.own h1
      rw [h2] at h3
      obtain rfl : a = b := by simpa using h3
      obtain ⟨o', e', so⟩ := cont_soft c
      rw [h, e'] at e; cases e
      exact so
    · rw [h] at e; exact S.so a o e
theorem leave_at : ∀ {μ μ' : List Bx} {n : Nat} {b : Bx}, (leave μ μ')[n]? = some b → (∃ b0, μ[n]? = some b0 ∧ b = b0 ∧ b0.mut = false) ∨ ∃ c, μ'[n]? = some c ∧ b = shutB c
  | [], μ', n, b, h => by
    have h : (μ'.map shutB)[n]? = some b := h
    rw [List.getElem?_map] at h
    obtain ⟨c, e, rfl⟩ := Option.map_eq_some_iff.mp h
    exact .inr ⟨c, e, rfl⟩
  | b0 :: μ, [], n, b, h => by
    have h : ([] : List Bx)[n]? = some b := h
    simp at h
  | b0 :: μ, c :: μ', 0, b, h => by
    simp only [leave, List.getElem?_cons_zero, Option.some.injEq] at h
    cases b0 with
    | lam i => exact .inl ⟨_, rfl, h.symm, rfl⟩
    | clo i ds => exact .inl ⟨_, rfl, h.symm, rfl⟩
    | gone => exact .inr ⟨c, rfl, h.symm⟩
    | val d => exact .inr ⟨c, rfl, h.symm⟩
    | ins k fs => exact .inr ⟨c, rfl, h.symm⟩
  | b0 :: μ, c :: μ', n + 1, b, h => by
    have h : (leave μ μ')[n]? = some b := by simpa [leave] using h
    have := leave_at h
    simpa using this
theorem leave_len : ∀ {μ μ' : List Bx}, μ.length ≤ μ'.length → (leave μ μ').length = μ'.length
  | [], μ', _ => by show (μ'.map shutB).length = _; simp
  | b :: μ, [], h => by simp at h
  | b :: μ, c :: μ', h => by
    show (leave μ μ').length + 1 = _
    rw [leave_len (by simpa using h)]; rfl
theorem Sta.home {F' : Addr → Prop} {ρ' : List Addr} {μ' : List Bx} {H' : Hp} (al : Alike Ca Cb) (S : Sta Ca Pr F ρ s σ H) (S' : Sta Cb (prot Pr s σ H) F' ρ' ⟨[], μ'⟩ [] H') (gr : Gr F ρ H F' ρ' H') : Sta Ca Pr F' ρ' { s with μ := leave s.μ μ' } σ H' := by
  have ll : s.μ.length ≤ μ'.length := by
    obtain ⟨t, e⟩ := gr.p
    have h1 := S.len
    have h2 := S'.len
    rw [e, List.length_append] at h2
    have h2 : ρ.length + t.length = μ'.length := h2
    omega
  have own : ∀ {i : Nat} {d : D}, s.σ[i]? = some (some (true, d)) → ∃ a, σ[i]? = some (some (V.ref a)) ∧ Cont Ca F' ρ' H' d a ∧ ¬ F' a ∧ a ∉ ρ' ∧ Pr a = none := fun {i d} h => by
    obtain ⟨a, hv, c, nF, nρ, np⟩ := S.own h
    obtain ⟨o, ha⟩ := c.some
    have pa : prot Pr s σ H a = some o := by rw [prot_own h hv]; exact ha
    refine ⟨a, hv, c.mono gr fun u e => ?_, S'.pF a o pa, fun m => ?_, np⟩
    · rw [ha] at e; cases e
      exact S'.pr a o pa
    · have := S'.pρ a m
      rw [pa] at this; cases this
  refine ⟨?_, S'.nd, S'.fd, fun n b a h1 h2 => ?_, fun n b a h1 h2 hm => ?_, S'.rd, fun i x h => ?_, S.ow, fun a o e => S'.pr a o (prot_le S a o e), fun a o e => S'.pF a o (prot_le S a o e), fun a m => ?_, S.ln, by rw [al.tabs]; exact S'.tb, fun a ps e => let ⟨n1, n2, n3⟩ := S'.nt a ps e; ⟨n1, n2, none_less (prot_le S) n3⟩, S.so⟩
  · show ρ'.length = (leave s.μ μ').length
    rw [leave_len ll]; exact S'.len
  · rcases leave_at h1 with ⟨b0, e1, rfl, hm⟩ | ⟨c, e1, rfl⟩
    · have lt : n < ρ.length := by rw [S.len]; exact (List.getElem?_eq_some_iff.mp e1).1
      obtain ⟨t, et⟩ := gr.p
      have h2' : ρ[n]? = some a := by rw [et, List.getElem?_append_left lt] at h2; exact h2
      have r := S.bx n b a e1 h2'
      cases b with
      | gone => trivial
      | val d => cases hm
      | ins k fs => cases hm
      | lam i =>
        obtain ⟨fa, c, cl, q1, q2, q3, q4⟩ := r
        exact ⟨gr.f a fa, c, cl, gr.l a _ fa q1 (Ca.ld _ _ _ _), gr.f c q2, gr.l c _ q2 q3 rfl, q4⟩
      | clo i ds =>
        obtain ⟨fa, c, cl, vs, q1, q2, q3, q4, l⟩ := r
        exact ⟨gr.f a fa, c, cl, vs, gr.l a _ fa q1 (Ca.ld _ _ _ _), gr.f c q2, gr.l c _ q2 q3 rfl, q4, RepL.mono gr _ _ l⟩
    · have r := S'.bx n c a e1 h2
      cases c with
      | gone => trivial
      | val d => exact Cont.alike al.symm.ca r
      | ins k fs =>
        obtain ⟨dx, ws, q, l⟩ := r
        exact ⟨dx, ws, by rw [al.ca]; exact q, RepF.alike al.symm.ca _ _ l⟩
      | lam i => trivial
      | clo i ds => trivial
  · rcases leave_at h1 with ⟨b0, e1, rfl, hm'⟩ | ⟨c, e1, rfl⟩
    · rw [hm'] at hm; cases hm
    · refine S'.bF n c a e1 h2 ?_
      cases c <;> first | exact hm | cases hm
  · obtain ⟨o, d⟩ := x
    cases o with
    | true =>
      obtain ⟨a, hv, w⟩ := own h
      exact ⟨_, hv, a, rfl, w⟩
    | false =>
      obtain ⟨v, hv, r⟩ := S.std h
      exact ⟨v, hv, Rep.mono gr _ _ r⟩
  · exact none_less (prot_le S) (S'.pρ a m)
end
end Iv
end
section
set_option Elab.async false
set_option linter.all false
/-! Calls. My own work. -/
namespace Iv
open PySem L2 PySem.Spec PyProof.Rows
open PySem (Str)

/-- a cell that no frame here writes while a callee runs -/
def CelAt (X : Cx) (h : Heap) (H : Hp) (c : Addr) (u : Value) : Prop := ∃ o, h.get? c = some o ∧ o.data = .cell (some u) ∧ H c = none ∧ c ∉ frs X.stack
/-- what a frame's knowledge must tell -/
structure CnOk (T : Tx) (X : Cx) (Ca : Cn) : Prop where
  P : X.prog = T.P
  w : X.w = T.w
  K : X.K = T.K
  mg : X.mg = T.mg
  al : Alike Ca (T.cb X.base)
  cel : ∀ i cl vs, Ca.cel i cl vs → ClW i cl ∧ vs.length = i.names.length ∧ ∀ pins (σ : L2.St) H s, Inv X pins σ H s → ∀ (j : Nat) (y : Str) (v : V), i.names[j]? = some y → vs[j]? = some v → ∃ c u, cl.lookup y = some c ∧ RelV v u ∧ CelAt X s.heap H c u
  own : ∀ i cl, Ca.own i cl → ClW i cl ∧ i.cs.length = i.names.length ∧ ∀ pins (σ : L2.St) H s, Inv X pins σ H s → ∀ (j m : Nat) (y : Str) (v : V), i.names[j]? = some y → i.cs[j]? = some m → σ[m]? = some (some v) → ∃ c u, cl.lookup y = some c ∧ RelV v u ∧ CelAt X s.heap H c u
/-- what a base must have for functions to run over it -/
structure BaseOk (T : Tx) (base : Heap) : Prop where
  kin : T.K.In base
  ns : base.Ns mainGlobals T.mg
  tab : ∀ p ∈ T.tabs, LamX.TabB base T.mg (T.tc p.1) p.1
theorem BaseOk.up {T : Tx} {b b' : Heap} (h : BaseOk T b) (k : ∀ a o, b.get? a = some o → b'.get? a = some o) : BaseOk T b' :=
  ⟨h.kin.keeps k, h.ns.keeps k, fun p hp => ⟨(h.tab p hp).code.keeps k, (h.tab p hp).bm.keeps k, (h.tab p hp).gP⟩⟩
/-- all that is not tracked, without the frames: what a callee may count on -/
def under (X : Cx) (s : Shared) (H : Hp) : Heap := PySem.W.hideAll (hidT s.heap H) (frs X.stack)
section
variable {T : Tx} {X : Cx} {Ca : Cn} {pins : List (Addr × Obj)} {σ : L2.St} {H : Hp} {s : Shared} {W : WX}
theorem under_in {b : Addr} {o : Obj} (e : (under X s H).get? b = some o) : s.heap.get? b = some o ∧ H b = none := of_hidT (PySem.W.of_hideAll _ e)
theorem under_has {b : Addr} {o : Obj} (e : s.heap.get? b = some o) (n : H b = none) (f : b ∉ frs X.stack) : (under X s H).get? b = some o := PySem.W.hideAll_get _ (hidT_get e n) f
theorem base_under (I : Inv X pins σ H s) : ∀ a o, X.base.get? a = some o → (under X s H).get? a = some o := fun a o e =>
  under_has (I.bs a o e).1 (I.bs a o e).2 fun hm => by
    have := (I.stack.mem hm).1
    rw [e] at this; cases this
theorem env_under (I : Inv X pins σ H s) : Env0 X.prog X.w X.K X.mg (under X s H) X.A X.stack s H :=
  ⟨I.ok.frames, ⟨I.ok.mod.kin.keeps (base_under I), I.ok.mod.glob.keeps (base_under I), let ⟨mb, h1, h2⟩ := I.ok.mod.blt; ⟨mb, h1.keeps (base_under I), h2⟩, I.ok.mod.nolimit.keeps (base_under I)⟩, fun b o e => under_in e,
    Nat.le_of_eq ((PySem.W.hideAll_size _ _).trans (hidT_size _ _)), funFrames_none I.stack fun L hL => PySem.W.hideAll_none _ hL, I.stkFree, I.hok, I.bare⟩
theorem CnOk.over (ok : CnOk T X Ca) (I : Inv X pins σ H s) {Pr : Hp} {F : Addr → Prop} {ρ : List Addr} {st : Iv.S} (S : Sta Ca Pr F ρ st σ H) : Sta (T.cb (under X s H)) (prot Pr st σ H) F ρ ⟨[], enter st⟩ [] H := by
  have al : Alike Ca (T.cb (under X s H)) := ⟨ok.al.ca, ok.al.lam, ok.al.tabs⟩
  refine S.over al (fun i cl vs q => ?_) fun i cl ds vs q hs rl n1 k => ?_
  · obtain ⟨cw, n, f⟩ := ok.cel i cl vs q
    refine ⟨cw, n, fun j y v h1 h2 => ?_⟩
    obtain ⟨c, u, e1, r, o, e2, e3, e4, e5⟩ := f pins σ H s I j y v h1 h2
    exact ⟨c, u, o, e1, r, under_has e2 e4 e5, e3⟩
  · obtain ⟨cw, n, f⟩ := ok.own i cl q
    refine ⟨cw, by rw [n1, n], fun j y v h1 h2 => ?_⟩
    have lt : j < i.cs.length := by rw [n]; exact (List.getElem?_eq_some_iff.mp h1).1
    have hm := List.getElem?_eq_getElem lt
    obtain ⟨c, u, e1, r, o, e2, e3, e4, e5⟩ := f pins σ H s I j i.cs[j] y v h1 hm (k j i.cs[j] v hm h2)
    exact ⟨c, u, o, e1, r, under_has e2 e4 e5, e3⟩
/-- all functions of the text, over every base -/
def Fns (T : Tx) (lv : Nat) (f : Addr) (fd : FuncData) (ps : List Str) (run : List D → List Bx → CRes) : Prop := ∀ base, BaseOk T base → FnG T base lv f fd ps (Spec (T.cb base) run)
/-- a function of the text is called -/
theorem run_call {A : Around} {lv : Nat} {f : Addr} {fd : FuncData} {ps : List Str} {run : List D → List Bx → CRes} {Pr : Hp} {F : Addr → Prop} {ρ : List Addr} {st : Iv.S} {xs : List D} {vs : List V} {us : List Value} {args : Args} {Q : VK} (ok : CnOk T X Ca) (bo : BaseOk T X.base) (fns : Fns T lv f fd ps run)
    (gd : Gd X W) (fr : A.frames = X.A.frames) (gu : A.guards = some []) (room : Room lv A) (I : Inv X pins σ H s) (S : Sta Ca Pr F ρ st σ H) (l : RepL Ca F ρ H xs vs) (r : Vals vs us) (bd : us.length = ps.length → BindsTo s fd args (ps.zip us))
    (q : Ans Ca W Pr σ (RV Ca Pr σ) F ρ H (called (run xs (enter st)) st) Q) :
    codeAny (model X.prog X.w) A (.call (.ref f) args) (fun r s' => match r with | .ok (.ret u) => EP X pins σ Q u s' | .ok _ => False | .error e => X.xe e s') s := by
  have F1 := fns _ (bo.up (base_under I))
  have al : Alike Ca (T.cb (under X s H)) := ⟨ok.al.ca, ok.al.lam, ok.al.tabs⟩
  have S1 := ok.over I S
  have l1 := RepL.alike al.ca _ _ l
  have e0 := env_under I
  rw [ok.P, ok.w, ok.K, ok.mg] at e0
  have sp : Spec (T.cb (under X s H)) run vs H Q (fun cls d H' => W cls d σ H') := by
    refine ⟨_, F, ρ, _, xs, S1, l1, ?_⟩
    cases hr : run xs (enter st) with
    | ok o d μ' =>
      rw [hr] at q
      intro F' ρ' H' v gr S' t
      have S2 := S.home al S' gr
      refine q F' ρ' H' v gr S2 ⟨?_, fun ho i e hi hv => ?_⟩
      · have t1 := (Val.alike al.symm.ca t.1).less (prot_le S)
        exact t1
      · have ho : o = true := ho
        subst ho
        obtain ⟨a, rfl, _, _, _, np⟩ := t.1
        obtain ⟨b, h3, c, _⟩ := S.own (show st.σ[i]? = some (some (true, e)) from hi)
        rw [hv] at h3
        obtain rfl : a = b := by simpa using h3
        obtain ⟨u, hu⟩ := c.some
        rw [prot_own (show st.σ[i]? = some (some (true, e)) from hi) hv, hu] at np
        cases np
    | ex c μ' =>
      rw [hr] at q
      intro F' ρ' H' gr S'
      have e : (T.cb (under X s H)) c = Ca c := by rw [← al.ca]
      rw [e]
      exact q F' ρ' H' gr (S.home al S' gr)
    | no => rw [hr] at q; exact q
  have hl := F1.len _ _ _ _ sp
  have go := F1.go A X.stack s H args us vs Q _ room gu ⟨fr.trans e0.frames, e0.mod, e0.bs, e0.bsz, e0.funs, e0.frf, e0.hok, e0.bare⟩ (bd (by rw [← r.length]; exact hl)) r sp
  rw [← ok.P, ← ok.w] at go
  refine codeAny_mono go fun r s' hq => ?_
  match r, hq with
  | .error e, hq => exact gd.tk e s' (XE.of_call I (fun cls d H' h => h) hq)
  | .ok (.ret u), hq => exact I.after hq
end
end Iv
end
section
set_option Elab.async false
set_option linter.all false
/-! Calls as expressions. My own work. -/
namespace Iv
open PySem L2 PySem.Spec PyProof.Rows
open PySem (Str)

section
variable {T : Tx} {X : Cx} {Ca : Cn} {W : WX} {lv : Nat} {f C : Addr} {fd : FuncData} {ps : List Str} {run : List D → List Bx → CRes} {x m : Str} {p pos apos : Pos} {e o : Expr} {es : List Expr} {fs : S → Res (List D)} {fo : S → Res (Bool × D)}
/-- what a call asks of its place -/
structure CallOk (T : Tx) (X : Cx) (Ca : Cn) (W : WX) (lv : Nat) : Prop where
  gd : Gd X W
  cn : CnOk T X Ca
  bo : BaseOk T X.base
  room : Room lv X.A
theorem CallOk.mono {j k : Nat} (h : CallOk T X Ca W k) (l : j ≤ k) : CallOk T X Ca W j := ⟨h.gd, h.cn, h.bo, h.room.mono l⟩
theorem call_at {Pr : Hp} {F : Addr → Prop} {ρ : List Addr} {st : Iv.S} {σ : L2.St} {H : Hp} {s : Shared} {pins : List (Addr × Obj)} {xs : List D} {vs : List V} {us : List Value} {kw : List (Str × Value)} {us' : List Value} {Q : VK} (c : CallOk T X Ca W lv) (fns : Fns T lv f fd ps run)
    (I : Inv X pins σ H s) (S : Sta Ca Pr F ρ st σ H) (l : RepL Ca F ρ H xs vs) (r : Vals vs us) (bd : us.length = ps.length → BindsTo s fd ⟨us', kw⟩ (ps.zip us))
    (q : Ans Ca W Pr σ (RV Ca Pr σ) F ρ H (called (run xs (enter st)) st) Q) : wpAny (model X.prog X.w) X.A (call (.ref f) us' kw) (EP X pins σ Q) X.xe s := by
  refine wpAny_call (codeAny_mono (run_call c.cn c.bo fns c.gd rfl c.gd.gu c.room I S l r bd q) fun r s' h => ?_)
  match r, h with
  | .error e, h => exact h
  | .ok (.ret u), h => exact h
theorem sd_call (c : CallOk T X Ca W lv) (fns : Fns T lv f fd ps run) (hg : Gl X x) (hm : X.mg x = some (.ref f)) (hk : PySem.W.keepIn X.K (.ref f) = true) (hb : Binds X.K fd ps []) (pl : plainXs (e :: es) = true) (hdb : (x == ("__debug__" : Str)) = false) (ha : PAv X Ca W (e :: es) fs) :
    PEv X Ca W (.Call (.Name x p) (e :: es) [] pos) fun s => (fs s).bind fun xs s => called (run xs (enter s)) s := by
  have h1 : plainX e = true ∧ plainXs es = true := by unfold plainXs at pl ⊢; rw [List.all_cons, Bool.and_eq_true] at pl; exact pl
  refine ⟨fun pins s σ H Q I ⟨Pr, F, ρ, st, S, q⟩ => wpAny_Call_Name_kw (ld_glob I hg hm ?_ hdb)⟩
  refine PySem.W.callWith_K (h₀ := X.base) I.ok.mod.kin hk (thn (ha.run pos pins s σ H _ I ⟨Pr, F, ρ, st, S, Ans.bind (Rl := RL Ca Pr σ) q⟩) fun us s1 h2 => ?_) (star_cons h1.1) (star_any h1.2)
  obtain ⟨vs, H1, I1, r, xs, s2, F1, ρ1, gr, S1, l, q1⟩ := h2
  exact ⟨I1.kIn, call_at c fns I1 S1 l r (fun n => by have z := hb s1 us I1.kIn (by rw [List.append_nil]; exact n); rwa [List.append_nil] at z) q1⟩
theorem sd_call0 (c : CallOk T X Ca W lv) (fns : Fns T lv f fd ps run) (hg : Gl X x) (hm : X.mg x = some (.ref f)) (hk : PySem.W.keepIn X.K (.ref f) = true) (hb : Binds X.K fd ps []) (hdb : (x == ("__debug__" : Str)) = false) :
    PEv X Ca W (.Call (.Name x p) [] [] pos) fun s => called (run [] (enter s)) s := by
  refine ⟨fun pins s σ H Q I ⟨Pr, F, ρ, st, S, q⟩ => wpAny_Call_Name_kw (ld_glob I hg hm ?_ hdb)⟩
  exact PySem.W.callWith_K0 I.kIn hk (call_at c fns I S .nil .nil (fun n => by have z := hb s [] I.kIn (by simpa using n); rwa [List.append_nil] at z) q)
/-! ### new instances -/
theorem Sta.boxI {Pr : Hp} {F : Addr → Prop} {ρ : List Addr} {s : Iv.S} {σ : L2.St} {H : Hp} {b : Bx} {a : Addr} (S : Sta Ca Pr F ρ s σ H) (nF : ¬ F a) (nρ : a ∉ ρ) (np : Pr a = none) (ha : ∃ o, H a = some o) (hn : ∀ ps, H a ≠ some (.tbl ps)) (ns : ∀ (i : Nat) (d : D), s.σ[i]? = some (some (true, d)) → σ[i]? ≠ some (some (V.ref a))) (r : BxR Ca F (ρ ++ [a]) H b a) :
    Sta Ca Pr F (ρ ++ [a]) { s with μ := s.μ ++ [b] } σ H ∧ (ρ ++ [a])[s.μ.length]? = some a := by
  have g : Gr F ρ H F (ρ ++ [a]) H := Gr.more _
  have at' : (ρ ++ [a])[s.μ.length]? = some a := by
    rw [← S.len, List.getElem?_append_right (Nat.le_refl _), Nat.sub_self]; rfl
  have look : ∀ {n : Nat} {c : Bx} {p : Addr}, (s.μ ++ [b])[n]? = some c → (ρ ++ [a])[n]? = some p → (s.μ[n]? = some c ∧ ρ[n]? = some p) ∨ (c = b ∧ p = a) := by
    intro n c p h1 h2
    by_cases hn : n < s.μ.length
    · left
      rw [List.getElem?_append_left hn] at h1
      rw [List.getElem?_append_left (by rw [S.len]; exact hn)] at h2
      exact ⟨h1, h2⟩
    · right
      have hm := (List.getElem?_eq_some_iff.mp h1).1
      rw [List.length_append, List.length_singleton] at hm
      obtain rfl : n = s.μ.length := by omega
      rw [at'] at h2
      rw [List.getElem?_append_right (Nat.le_refl _), Nat.sub_self] at h1
      simp at h1 h2
      exact ⟨h1.symm, h2.symm⟩
  refine ⟨⟨?_, ?_, S.fd, fun n c p h1 h2 => ?_, fun n c p h1 h2 nb => ?_, fun p m => ?_, fun i x h => ?_, S.ow, S.pr, S.pF, fun p m => ?_, S.ln, S.tb, fun p ps e => let ⟨n1, n2, n3⟩ := S.nt p ps e; ⟨n1, fun m => (List.mem_append.mp m).elim n2 fun m => by rw [List.mem_singleton] at m; subst m; exact hn ps e, n3⟩, S.so⟩, at'⟩
  · rw [List.length_append, List.length_append, S.len]; rfl
  · rw [List.nodup_append]
    refine ⟨S.nd, by simp, fun x hx y hy z => ?_⟩
    rw [List.mem_singleton] at hy
    subst hy; subst z; exact nρ hx
  · rcases look h1 h2 with ⟨h1, h2⟩ | ⟨rfl, rfl⟩
    · exact (S.bx n c p h1 h2).mono g fun _ e => e
    · exact r
  · rcases look h1 h2 with ⟨h1, h2⟩ | ⟨rfl, rfl⟩
    · exact S.bF n c p h1 h2 nb
    · exact nF
  · rcases List.mem_append.mp m with m | m
    · exact S.rd p m
    · rw [List.mem_singleton] at m; subst m; exact ha
  · obtain ⟨v, h1, r⟩ := S.sl i x h
    refine ⟨v, h1, ?_⟩
    unfold Val at r ⊢
    split
    · rename_i hx
      rw [if_pos hx] at r
      obtain ⟨q, rfl, c', f, m, z⟩ := r
      refine ⟨q, rfl, c'.mono g (fun _ e => e), f, fun w => ?_, z⟩
      rcases List.mem_append.mp w with w | w
      · exact m w
      · rw [List.mem_singleton] at w; subst w
        obtain ⟨o1, d1⟩ := x
        cases hx
        exact ns i d1 h h1
    · rename_i hx
      rw [if_neg hx] at r
      exact Rep.mono g _ _ r
  · rcases List.mem_append.mp m with m | m
    · exact S.pρ p m
    · rw [List.mem_singleton] at m; subst m; exact np
theorem leave_app : ∀ {μ μ' : List Bx} {b : Bx}, b.mut = true → leave (μ ++ [b]) μ' = leave μ μ'
  | [], [], b, _ => rfl
  | [], c :: t, b, h => by cases b <;> first | rfl | cases h
  | b0 :: μ, [], b, _ => rfl
  | b0 :: μ, c :: t, b, h => by
    show (match b0 with | .lam i => Bx.lam i | .clo i ds => .clo i ds | _ => shutB c) :: leave (μ ++ [b]) t = (match b0 with | .lam i => Bx.lam i | .clo i ds => .clo i ds | _ => shutB c) :: leave μ t
    rw [leave_app h]
/-- what a class must have to be made -/
structure MkOk (T : Tx) (X : Cx) (Ca : Cn) (lv : Nat) (c : Nat) (f : Addr) (fd : FuncData) (ps : List Str) (run : List D → List Bx → CRes) : Prop where
  cls : Mk X.K (Ca c) f
  fns : Fns T lv f fd ps run
  bd : Binds X.K fd ps []
theorem make_at {c : Nat} {Pr : Hp} {F : Addr → Prop} {ρ : List Addr} {st : Iv.S} {σ : L2.St} {H : Hp} {s : Shared} {pins : List (Addr × Obj)} {xs : List D} {vs : List V} {us : List Value} {Q : VK} (k : CallOk T X Ca W (lv + 1)) (m : MkOk T X Ca lv c f fd ps run)
    (I : Inv X pins σ H s) (S : Sta Ca Pr F ρ st σ H) (l : RepL Ca F ρ H xs vs) (r : Vals vs us)
    (q : Ans Ca W Pr σ (RV Ca Pr σ) F ρ H (match run (.box st.μ.length :: xs) (enter st ++ [.ins c []]) with
      | .ok _ .non μ => .ok (false, .box st.μ.length) { st with μ := leave st.μ μ }
      | .ex c μ => .ex c { st with μ := leave st.μ μ }
      | _ => .no) Q) : wpAny (model X.prog X.w) X.A (call (.ref (Ca c)) us) (EP X pins σ Q) X.xe s := by
  have I2 := Inv.made (C := Ca c) I
  have f1 : H (s.heap.objs.size + 1) = none := I.hok.fresh (Nat.le_succ _)
  have f0 : H s.heap.objs.size = none := I.hok.fresh (Nat.le_refl _)
  have ne : s.heap.objs.size ≠ s.heap.objs.size + 1 := Nat.ne_of_lt (Nat.lt_succ_self _)
  generalize hx : s.heap.objs.size + 1 = x at I2 f1 ne
  generalize hdx : s.heap.objs.size = dx at I2 f0 ne
  have S1 := S.new (o := .own x) f0
  have f1' : upd H dx (.own x) x = none := by rw [upd_ne (Ne.symm ne)]; exact f1
  have S2 := S1.new (o := .ins (Ca c) dx []) f1'
  have g2 : Gr F ρ H F ρ (upd (upd H dx (.own x)) x (.ins (Ca c) dx [])) := (Gr.upd (S.fresh_F f0)).trans (Gr.upd (S1.fresh_F f1'))
  obtain ⟨S3, at3⟩ := S2.boxI (b := .ins c []) (S1.fresh_F f1') (S1.fresh_ρ f1') (S1.fresh_Pr f1') ⟨_, upd_same⟩ (soft_nt upd_same rfl) (fun i e hi hv => S1.noslot f1' i _ hv e hi rfl) ⟨dx, [], upd_same, by simp only [RepF]⟩
  have g3 := g2.trans (Gr.more (F := F) (H := upd (upd H dx (.own x)) x (.ins (Ca c) dx [])) (ρ := ρ) [x])
  have l3 : RepL Ca F (ρ ++ [x]) (upd (upd H dx (.own x)) x (.ins (Ca c) dx [])) (.box st.μ.length :: xs) (V.ref x :: vs) := .cons (by simp only [Rep]; exact ⟨x, rfl, at3⟩) (RepL.mono g3 _ _ l)
  have en : enter { st with μ := st.μ ++ [.ins c []] } = enter st ++ [.ins c []] := by
    have sn : seen { st with μ := st.μ ++ [.ins c []] } = seen st := by
      have sp : ∀ js, snap { st with μ := st.μ ++ [.ins c []] } js = snap st js := by
        intro js
        induction js with
        | nil => rfl
        | cons j js ih => simp only [snap, ih]
      funext b
      cases b <;> first | rfl | (unfold seen; simp only [sp])
    unfold enter
    rw [sn]
    simp [seen]
  have q3 : Ans Ca W Pr σ (RV Ca Pr σ) F (ρ ++ [x]) (upd (upd H dx (.own x)) x (.ins (Ca c) dx [])) (called (run (.box st.μ.length :: xs) (enter { st with μ := st.μ ++ [.ins c []] })) { st with μ := st.μ ++ [.ins c []] }) (fun (v : V) H' => v = .non ∧ Q (V.ref x) H') := by
    rw [en]
    cases hr : run (.box st.μ.length :: xs) (enter st ++ [.ins c []]) with
    | ok o d μ' =>
      rw [hr] at q
      intro F' ρ' H' v gr S' t
      cases d <;> try exact q.elim
      have hv : v = .non := by
        cases o with
        | true => obtain ⟨a, _, cc, _⟩ := t.1; exact cc.elim
        | false => simpa only [Rep] using (show Rep Ca F' ρ' H' .non v from t.1)
      refine ⟨hv, q F' ρ' H' (V.ref x) (g3.trans gr) ?_ (tmp_of (by simp only [Rep]; exact ⟨x, rfl, gr.get at3⟩))⟩
      have e := leave_app (μ := st.μ) (μ' := μ') (b := .ins c []) rfl
      have S' : Sta Ca Pr F' ρ' { st with μ := leave (st.μ ++ [.ins c []]) μ' } σ H' := S'
      rw [e] at S'; exact S'
    | ex k μ' =>
      rw [hr] at q
      intro F' ρ' H' gr S'
      have e := leave_app (μ := st.μ) (μ' := μ') (b := .ins c []) rfl
      have S' : Sta Ca Pr F' ρ' { st with μ := leave (st.μ ++ [.ins c []]) μ' } σ H' := S'
      rw [e] at S'
      exact q F' ρ' H' (g3.trans gr) S'
    | no => rw [hr] at q; exact q
  subst hx hdx
  have rk := (k.room).make (Ca c) us []
  refine wpAny_call (make_map (f := f) I.kIn m.cls.makes m.cls.init (beq_iff_eq.mp m.cls.fn) (codeAny_mono (run_call (A := X.A.under (.builtin "type.__call__" ⟨.ref (Ca c) :: us, []⟩)) (us := Value.ref (s.heap.objs.size + 1) :: us) k.cn k.bo m.fns k.gd ?_ ?_ rk I2 S3 l3 (.cons rfl r) (fun n => ?_) q3) fun r s' h => ?_))
  · simp [Around.under, Code.envs, Code.isFrame, pushEnvs]
  · have gz : (Code.builtin "type.__call__" ⟨.ref (Ca c) :: us, []⟩).guards = [] := by
      first | rfl | simp [Code.guards, Code.isGuard, guardIds]
    show pushGuards (Code.builtin "type.__call__" ⟨.ref (Ca c) :: us, []⟩).guards X.A.guards = some []
    rw [gz]; exact k.gd.gu
  · have z := m.bd _ (Value.ref (s.heap.objs.size + 1) :: us) I2.kIn (by rw [List.append_nil]; exact n)
    rw [List.append_nil] at z
    exact z
  · match r, h with
    | .error e, h => exact h
    | .ok (.ret u), ⟨v, H', I3, rv, ev, q'⟩ =>
      subst ev
      exact ⟨rv, V.ref (s.heap.objs.size + 1), H', I3, rfl, q'⟩
theorem sd_make {c : Nat} (k : CallOk T X Ca W (lv + 1)) (m : MkOk T X Ca lv c f fd ps run) (cl : Callee) (he : ∀ k', T.g.cls[c]? = some k' → ∀ xs μ, cl (.inl k'.init) xs μ = run xs μ) (hc : ∃ k', T.g.cls[c]? = some k') (hg : Gl X x) (hm : X.mg x = some (.ref (Ca c))) (pl : plainXs (e :: es) = true) (hdb : (x == ("__debug__" : Str)) = false) (ha : PAv X Ca W (e :: es) fs) :
    PEv X Ca W (.Call (.Name x p) (e :: es) [] pos) fun s => (fs s).bind fun xs s => newI T.g cl c xs s := by
  have h1 : plainX e = true ∧ plainXs es = true := by unfold plainXs at pl ⊢; rw [List.all_cons, Bool.and_eq_true] at pl; exact pl
  obtain ⟨k', hk'⟩ := hc
  have en : ∀ xs s, newI T.g cl c xs s = (match run (.box s.μ.length :: xs) (enter s ++ [.ins c []]) with
      | .ok _ .non μ => .ok (false, .box s.μ.length) { s with μ := leave s.μ μ }
      | .ex c μ => .ex c { s with μ := leave s.μ μ }
      | _ => .no) := fun xs s => by
    unfold newI
    rw [hk']
    dsimp only
    rw [he k' hk']
    all_goals
      generalize run (.box s.μ.length :: xs) (enter s ++ [.ins c []]) = rr
      cases rr with
      | ok o d μ => cases d <;> rfl
      | ex c μ => rfl
      | no => rfl
  refine ⟨fun pins s σ H Q I ⟨Pr, F, ρ, st, S, q⟩ => wpAny_Call_Name_kw (ld_glob I hg hm ?_ hdb)⟩
  refine PySem.W.callWith_K (h₀ := X.base) I.ok.mod.kin m.cls.kp (thn (ha.run pos pins s σ H _ I ⟨Pr, F, ρ, st, S, Ans.bind (Rl := RL Ca Pr σ) q⟩) fun us s1 h2 => ?_) (star_cons h1.1) (star_any h1.2)
  obtain ⟨vs, H1, I1, r, xs, s2, F1, ρ1, gr, S1, l, q1⟩ := h2
  rw [en] at q1
  exact ⟨I1.kIn, make_at k m I1 S1 l r q1⟩
end
end Iv
end
section
set_option Elab.async false
set_option linter.all false
/-! Calls with keywords alone. My own work. -/
namespace Iv
open PySem L2 PySem.Spec PyProof.Rows
open PySem (Str)

/-- the picked ones -/
def pick {α : Type} (ord : List Nat) (xs : List α) : Option (List α) := ord.mapM fun i => xs[i]?
theorem pick_nil {α : Type} {xs : List α} : pick [] xs = some [] := rfl
theorem pick_cons {α : Type} {xs ys : List α} {i : Nat} {ord : List Nat} : pick (i :: ord) xs = some ys ↔ ∃ y zs, xs[i]? = some y ∧ pick ord xs = some zs ∧ ys = y :: zs := by
  unfold pick
  rw [List.mapM_cons]
  constructor
  · intro h
    obtain ⟨y, h1, h2⟩ := Option.bind_eq_some_iff.mp h
    obtain ⟨zs, h3, h4⟩ := Option.bind_eq_some_iff.mp h2
    exact ⟨y, zs, h1, h3, (Option.some.inj h4).symm⟩
  · rintro ⟨y, zs, h1, h2, rfl⟩
    rw [h1, h2]; rfl
theorem RepL.pick {Ca : Cn} {F : Addr → Prop} {ρ : List Addr} {H : Hp} {xs : List D} {vs : List V} (l : RepL Ca F ρ H xs vs) : ∀ {ord : List Nat} {ds : List D}, Iv.pick ord xs = some ds → ∃ ws, Iv.pick ord vs = some ws ∧ RepL Ca F ρ H ds ws
  | [], ds, h => by
    obtain rfl : [] = ds := Option.some.inj h
    exact ⟨[], rfl, .nil⟩
  | i :: ord, ds, h => by
    obtain ⟨y, zs, h1, h2, rfl⟩ := pick_cons.mp h
    obtain ⟨v, g1, r⟩ := RepL.get l h1
    obtain ⟨ws, g2, q⟩ := RepL.pick l h2
    exact ⟨v :: ws, pick_cons.mpr ⟨v, ws, g1, g2, rfl⟩, .cons r q⟩
theorem vals_pick {vs : List V} {us : List Value} (l : Vals vs us) : ∀ {ord : List Nat} {ds : List V}, Iv.pick ord vs = some ds → ∃ ws, Iv.pick ord us = some ws ∧ Vals ds ws
  | [], ds, h => by
    obtain rfl : [] = ds := Option.some.inj h
    exact ⟨[], rfl, .nil⟩
  | i :: ord, ds, h => by
    obtain ⟨y, zs, h1, h2, rfl⟩ := pick_cons.mp h
    obtain ⟨v, g1, r⟩ := Vals.get l h1
    obtain ⟨ws, g2, q⟩ := vals_pick l h2
    exact ⟨v :: ws, pick_cons.mpr ⟨v, ws, g1, g2, rfl⟩, .cons r q⟩
section
variable {T : Tx} {X : Cx} {Ca : Cn} {W : WX} {lv : Nat} {f : Addr} {fd : FuncData} {ps ks : List Str} {run : List D → List Bx → CRes} {x : Str} {p pos kpos : Pos} {e : Expr} {fe : S → Res (Bool × D)} {fs : S → Res (List D)} {ord : List Nat} {kws : List Keyword} {nm : Option Str}
abbrev PKv (X : Cx) (Ca : Cn) (W : WX) (e : List Keyword) (f : S → Res (List D)) : Prop := PK X e (Run Ca W (RL Ca) f)
theorem PK.imp {t t' : TA} (h : PK X kws t) (i : ∀ σ H Q, t' σ H Q → t σ H Q) : PK X kws t' := ⟨fun pos pins s σ H Q I q => h.run pos pins s σ H Q I (i σ H Q q)⟩
theorem sd_knil : PKv X Ca W [] fun s => .ok [] s := PK.imp pk_nil fun σ H Q ⟨Pr, F, ρ, s, S, q⟩ => q.fin S RepL.nil
theorem sd_kcons (h : PEv X Ca W e fe) (hr : PKv X Ca W kws fs) : PKv X Ca W (⟨nm, e, kpos⟩ :: kws) fun s => (fe s).bind fun x s => (fs s).bind fun xs s => .ok (x.2 :: xs) s :=
  PK.imp (pk_cons h hr) fun σ H Q ⟨Pr, F, ρ, s, S, q⟩ => by
    refine ⟨Pr, F, ρ, s, S, (Ans.bind (Rl := RV Ca Pr σ) q).mono ?_⟩
    rintro v H1 ⟨x, s1, F1, ρ1, g, S1, t, q1⟩
    obtain ⟨F2, g2, S2, r⟩ := S1.freeze t
    refine ⟨Pr, F2, ρ1, s1, S2, (Ans.bind (Rl := RL Ca Pr σ) (q1.start g2)).mono ?_⟩
    rintro vs H2 ⟨xs, s2, F3, ρ2, g3, S3, l, q2⟩
    exact q2.fin S3 (RepL.cons (Rep.mono g3 _ _ r) l)
/-- how keywords alone bind -/
def KB (K : PySem.W.Frag) (fd : FuncData) (ps ks : List Str) (ord : List Nat) : Prop := ∀ (s : Shared) (ws us : List Value), K.In s.heap → ws.length = ks.length → pick ord ws = some us → us.length = ps.length → BindsTo s fd ⟨[], ks.zip ws⟩ (ps.zip us)
theorem sd_callK (c : CallOk T X Ca W lv) (fns : Fns T lv f fd ps run) (hg : Gl X x) (hm : X.mg x = some (.ref f)) (hk : PySem.W.keepIn X.K (.ref f) = true) (hb : KB X.K fd ps ks ord) (hdb : (x == ("__debug__" : Str)) = false)
    (hkw : PKv X Ca W kws fs) (hl : ∀ s xs s', fs s = .ok xs s' → xs.length = ks.length) (hall : (backToKw pos (keywordEach kws X.env)).all (·.1.isSome) = true) (hks : (backToKw pos (keywordEach kws X.env)).filterMap (·.1) = ks)
    (hpl : ((backTo pos (starEach [] X.env)).any (·.1) || (backToKw pos (keywordEach kws X.env)).any (·.1.isNone)) = false) :
    PEv X Ca W (.Call (.Name x p) [] kws pos) fun s => (fs s).bind fun xs s => (Res.of (pick ord xs) s).bind fun ds s => called (run ds (enter s)) s := by
  refine ⟨fun pins s σ H Q I ⟨Pr, F, ρ, st, S, q⟩ => wpAny_Call_Name_kw (ld_glob I hg hm ?_ hdb)⟩
  have start : Run Ca W (RL Ca) fs σ H (fun vs H1 => ∃ xs s1 F1 ρ1, fs st = .ok xs s1 ∧ Gr F ρ H F1 ρ1 H1 ∧ Sta Ca Pr F1 ρ1 s1 σ H1 ∧ RepL Ca F1 ρ1 H1 xs vs ∧ Ans Ca W Pr σ (RV Ca Pr σ) F1 ρ1 H1 ((Res.of (pick ord xs) s1).bind fun ds s => called (run ds (enter s)) s) Q) := by
    refine ⟨Pr, F, ρ, st, S, ?_⟩
    revert q
    dsimp only
    cases hf : fs st with
    | ok xs s1 => exact fun q F1 ρ1 H1 v g S1 l => ⟨xs, s1, F1, ρ1, rfl, g, S1, l, Ans.start g q⟩
    | ex cc s1 => exact fun q => q
    | no => exact fun q => q
  refine PySem.W.callWith_KW0 (h₀ := X.base) I.ok.mod.kin hk hall (thn (hkw.run pos pins s σ H _ I start) fun us s1 h2 => ?_) hpl
  obtain ⟨vs, H1, I1, r, xs, s2, F1, ρ1, hf, gr, S1, l, q1⟩ := h2
  refine ⟨I1.kIn, ?_⟩
  rw [hks]
  cases hp : pick ord xs with
  | none => rw [hp] at q1; exact False.elim q1
  | some ds =>
    rw [hp] at q1
    obtain ⟨ws, e1, l1⟩ := RepL.pick l hp
    obtain ⟨us1, e2, r1⟩ := vals_pick r e1
    refine call_at c fns I1 S1 l1 r1 (fun n => hb s1 us us1 I1.kIn ?_ e2 n) q1
    rw [← r.length, ← RepL.len l]; exact hl _ _ _ hf
end
end Iv
end
section
set_option Elab.async false
set_option linter.all false
/-! A caught exception that is kept. My own work. -/
namespace Iv
open PySem L2 PySem.Spec PyProof.Rows
open PySem (Str)

section
variable {X : Cx} {pins : List (Addr × Obj)} {σ : L2.St} {H : Hp} {s : Shared}
/-- an exception's object is taken among the tracked ones -/
theorem adopt {pins' : List (Addr × Obj)} {a C : Addr} {oe : Obj} {vs : Array Value} (I : Inv X pins σ H s) (ha : s.heap.get? a = some oe) (hd : oe.data = .fields vs) (hz : Zc (.ref C) none oe) (na : H a = none) (nL : a ≠ X.env.locals)
    (n0 : ∀ o, X.s_0.heap.get? a = some o → X.H_0 a = none → a ∈ X.ex) (sub : ∀ p ∈ pins', p ∈ pins) (np : ∀ p ∈ X.pn ++ pins', p.1 ≠ a) : Inv X pins' σ (upd H a (ExcAt C a)) s := by
  have other : ∀ {b : Addr} {u : HO}, H b = some u → b ≠ a := fun {b u} e z => by rw [z, na] at e; cases e
  refine ⟨I.ok, I.os, I.bare, ⟨I.base.keep, I.base.slot, fun b o e n hx => ?_, I.base.there, fun b xs e => ?_, fun b o u e => ?_, fun b ps e => ?_⟩, I.loc, I.cell, ?_, fun x c e => ?_, fun p hp => ?_, I.hok.laidN (fun b u e => e) na ⟨⟨oe, ha, hz, vs, hd⟩, ⟨oe, ha⟩, fun h1 h2 ⟨o, e1, e2, e3⟩ k => ⟨o, k o e1, e2, e3⟩⟩, I.len⟩
  · rw [upd_ne fun z => by subst z; exact hx (n0 o e n)]
    exact I.base.free b o e n hx
  · have q := I.base.tups b xs e
    rw [upd_ne (other q)]; exact q
  · have q := I.base.frzs b o u e
    rw [upd_ne (other q)]; exact q
  · obtain ⟨more, q⟩ := I.base.tbls b ps e
    exact ⟨more, by rw [upd_ne (other q)]; exact q⟩
  · rw [upd_ne (Ne.symm nL)]; exact I.free
  · rw [upd_ne fun z => ?_]
    · exact I.freeC x c e
    · obtain ⟨v, o, e1, e2⟩ := I.cell x c e
      rw [z, ha] at e1; cases e1
      rw [hd] at e2; cases e2
  · obtain ⟨q1, q2, q3⟩ := I.pin p (List.mem_append.mpr ((List.mem_append.mp hp).imp id (sub p)))
    exact ⟨q1, by rw [upd_ne (np p hp)]; exact q2, q3⟩
end
section
variable {X : Cx} {x n : Str} {c : Value} {i j : Nat} {body hand : List Stmt} {b₀ : Stmt} {np pos pos' : Pos} {tb : WX → TS} {Wout : WX}
/-- what the clause wishes of the body's exceptions -/
def wKeep (K : PySem.W.Frag) (c : Value) (i j : Nat) (Wout : WX) (D : Ends) : WX := fun cls d τ G =>
  ∃ b, PySem.W.exmOne K cls c = some b ∧ (b = true → d = none ∧ ∃ C, cls = .ref C ∧ ∀ a, G a = none → D.nx (((τ.set i (some (.ref a))).set j (some (.ref a))).set i none) (upd G a (ExcAt C a))) ∧ (b = false → Wout cls d τ G)
theorem skyNone {B : Heap} {l : List Env} {a L : Addr} {Z : Obj → Prop} {h : Heap} (k : Sky B l a Z L h) : B.get? a = none ∧ h.FunFrames B l := by
  rcases k with ⟨_, e, f, _⟩ | ⟨_, e, f, _⟩ | ⟨_, e, f, _⟩ <;> exact ⟨e, f⟩
theorem ps_keep (hst : X.stack = X.env :: X.outer) (hfm : X.env.frame = some X.env.locals) (nd : X.N.Nodup) (hi : X.N[i]? = some n) (hln : X.env.kindOf n = some .local) (nm : Names X x c) (tk : Takes X Wout)
    (hbody : ∀ (W : WX) (pn : List (Addr × Obj)) (xe : Value → Shared → Prop), Takes (X.tr pn xe) W → PassesOwn (model X.prog X.w) X.A X.env xe → PSs (X.tr pn xe) body (tb W))
    (hh : ∀ (a : Addr) (oe : Obj) (pn : List (Addr × Obj)), PSs (X.suite a ((a, oe) :: pn)) (b₀ :: hand) (fun D τ G => τ[i]? = some (some (.ref a)) ∧ D.nx (τ.set j (some (.ref a))) G)) :
    PS X (.Try body [.ExceptHandler (some (.Name x np)) (some n) (b₀ :: hand) pos'] [] [] pos) (fun D σ H => tb (wKeep X.K c i j Wout D) D σ H) := by
  refine ⟨fun pins s σ H D I start => ?_⟩
  have okX := I.ok
  have frA : X.A.frames = some (X.env :: X.outer) := by rw [okX.frames, hst]
  refine wpAny_Try_except (wpAny_mono ((hbody (wKeep X.K c i j Wout D) (X.pn ++ pins) (fun e t => wpAny (model X.prog X.w) X.A (noteFrame e X.env) (fun _ t2 => wpAny (model X.prog X.w) X.A (setFlight e none) (fun _ t3 =>
    wpAny (model X.prog X.w) X.A (handleBy e X.env [.ExceptHandler (some (.Name x np)) (some n) (b₀ :: hand) pos']) (SP X pins D) X.xe t3) X.xe t2) X.xe t) (fun u t air => ?_) PassesOwn.looking).run [] s σ H D (I.toTry _) start) (fun f t hsp => ?_) (fun e t he => he))
  · obtain ⟨a, B, tI, pins', τ, G, cls, d, rfl, J0, below, ups, sky, na, os, bare, b, hm, yes, no⟩ := air
    have J : Inv X pins τ G tI := J0.ofTry okX
    have skyX : Sky B (X.env :: X.outer) a (Zc cls d) X.env.locals t.heap := by rw [← hst]; exact sky
    have Ba : B.get? a = none := (skyNone skyX).1
    have notB : ∀ o, tI.heap.get? a = some o → a ∈ frs X.stack := fun o e => Classical.byContradiction fun q => by rw [below a o e q] at Ba; cases Ba
    show wpAny (model X.prog X.w) X.A (noteFrame (.ref a) X.env) _ _ _
    refine Sky.land Zc.steady frA hfm skyX fun g1 fl1 up1 => ?_
    have J1 : Inv X pins τ G { t with heap := g1 } := J.landed below fl1.1 (ups.trans up1) os bare
    obtain ⟨o1, vs1, e1, z1, d1⟩ := fl1.there
    have nfr : a ∉ frs (X.env :: X.outer) := fun hm => by
      obtain ⟨_, o', e', bad⟩ := fl1.2.2.1.mem hm
      rw [e1] at e'; cases e'
      exact bad _ d1
    have nL : a ≠ X.env.locals := fun z => nfr (List.mem_filterMap.mpr ⟨X.env, List.mem_cons_self, by rw [hfm, z]⟩)
    have nF : a ∉ X.fs := fun hm => by
      obtain ⟨e, he, q⟩ := List.mem_filterMap.mp hm
      exact nfr (List.mem_filterMap.mpr ⟨e, List.mem_cons_of_mem _ he, q⟩)
    have noI : ∀ o, tI.heap.get? a = some o → False := fun o e => nfr (by rw [← hst]; exact notB o e)
    have n0 : ∀ o, X.s_0.heap.get? a = some o → X.H_0 a = none → a ∈ X.ex := fun o e n => Classical.byContradiction fun hx => noI o (J.base.keep a o e n nF hx)
    have npn : ∀ p ∈ X.pn ++ pins, p.1 ≠ a := fun p hp z => by
      have := (J.pin p hp).1
      rw [z] at this
      exact noI _ this
    have Js := J1.suite e1 d1 na nL nF
    refine wpAny_handleBy_cons (codeAny_handlers_test ?_) (by intro q; cases q)
    have ty : PySem.W.Looks (model X.prog X.w) g1 (typeOf (.ref a)) cls := fun A Q E s k q => wpAny_typeOf_ref (k _ _ e1) (by rw [z1.1]; exact q)
    have look := PySem.W.exm_one (M := model X.prog X.w) (J1.kIn) ty hm
    have named : ∀ {Q : Value → Shared → Prop} {E : Value → Shared → Prop}, Q c { t with heap := g1 } → wpAny (model X.prog X.w) (X.A.mark (some (.ref a))) (eval (.Name x np) X.env) Q E { t with heap := g1 } := fun {Q E} q => by
      obtain ⟨hg, hdbg, h1 | ⟨h1, h2, h3⟩⟩ := nm
      · exact ld_glob (X := X.suite a ((a, o1) :: (X.pn ++ pins))) Js hg h1 q hdbg
      · exact ld_blt (X := X.suite a ((a, o1) :: (X.pn ++ pins))) Js hg h1 h2 q h3 hdbg
    refine named (look.here ?_)
    cases b with
    | true =>
      obtain ⟨rfl, C, rfl, fin⟩ := yes rfl
      refine codeAny_handlers_suite_as (HandSPX.lands_againZ fl1 fun g2 fl2 up2 => ?_)
      have J2 : Inv X pins τ G { t with heap := g2 } := J.landed below fl2.1 ((ups.trans up1).trans up2) os bare
      obtain ⟨o2, vs2, e2, z2, d2⟩ := fl2.there
      have Js2 := J2.suite e2 d2 na nL nF
      refine store_ok (X := X.suite a ((a, o2) :: (X.pn ++ pins))) (v := .ref a) Js2 nd hi (.inl hln) rfl (fun t5 J5 => ?_) (.inr hln)
      have at5 : (τ.set i (some (V.ref a)))[i]? = some (some (.ref a)) := by
        rw [List.getElem?_set_self]
        rw [J.len]; exact (List.getElem?_eq_some_iff.mp hi).1
      refine wpAny_mono ((hh a o2 (X.pn ++ pins)).run [] t5 _ G { nx := fun τ' G' => τ' = (τ.set i (some (.ref a))).set j (some (.ref a)) ∧ G' = G, rt := fun _ _ => False, bk := fun _ _ => False, ct := fun _ _ => False } J5 ⟨at5, rfl, rfl⟩) (fun f t6 hsp => ?_) (fun _ _ z => False.elim z)
      cases f with
      | next =>
        obtain ⟨τ6, G6, J6, rfl, rfl⟩ := hsp
        have pins6 : Inv X ((a, o2) :: pins) _ _ t6 := (J6.unsuite okX).pins_of (pins' := (a, o2) :: pins) fun p hp => by
          rcases List.mem_cons.mp hp with rfl | hp
          · exact J6.pin (a, o2) (List.mem_append_left _ List.mem_cons_self)
          · exact J6.pin p (List.mem_append_left _ (List.mem_cons_of_mem _ (List.mem_append_right _ hp)))
        refine gone_ok pins6 nd hi hln fun t7 J7 => ?_
        have e7 := (J7.pin (a, o2) (List.mem_append_right _ List.mem_cons_self)).1
        exact ⟨_, _, adopt J7 e7 d2 z2 na nL n0 (fun p hp => List.mem_cons_of_mem _ hp) npn, fin a na⟩
      | brk => obtain ⟨_, _, _, q⟩ := hsp; exact q.elim
      | cont => obtain ⟨_, _, _, q⟩ := hsp; exact q.elim
      | ret u => obtain ⟨_, _, _, _, _, q⟩ := hsp; exact q.elim
    | false =>
      show wpAny _ X.A (handleBy (.ref a) X.env []) _ _ _
      refine wpAny_handleBy_nil ?_
      obtain ⟨_, _, _, o3, vs3, Tb, _, _, e3, _, d3, t3, _⟩ := id fl1
      unfold PySem.passOn
      refine wpAny_bind (wpAny_field e3 d3 t3 ?_)
      rw [if_neg (show ¬ ((Value.ref Tb == Value.none) = true) from by simp)]
      have out : wpAny (model X.prog X.w) X.A (setFlight (.ref a) X.env.frame) (fun _ t4 => wpAny (model X.prog X.w) X.A (throw (.ref a) : Sem Flow) (SP X pins D) X.xe t4) X.xe { t with heap := g1 } := by
        rw [hfm]
        exact HandSPX.setFlight_upZ fl1 fun g4 held up4 => wpAny_throw (tk _ _ ⟨a, B, tI, pins, τ, G, cls, d, rfl, J, below, (ups.trans up1).trans up4, .inr (.inr (by rw [hst]; exact held)), na, os, bare, no rfl⟩)
      first
        | exact wpAny_bind (wpAny_pure (wpAny_bind out))
        | exact wpAny_bind out
  · cases f with
    | next =>
      obtain ⟨τ, G, J, q⟩ := hsp
      exact wpAny_execs_nil ⟨τ, G, J.ofTry okX, q⟩
    | brk =>
      obtain ⟨τ, G, J, q⟩ := hsp
      exact ⟨τ, G, J.ofTry okX, q⟩
    | cont =>
      obtain ⟨τ, G, J, q⟩ := hsp
      exact ⟨τ, G, J.ofTry okX, q⟩
    | ret u =>
      obtain ⟨v, τ, G, J, r, q⟩ := hsp
      exact ⟨v, τ, G, J.ofTry okX, r, q⟩
end
section
variable {Ca : Cn} {Pr : Hp} {F : Addr → Prop} {ρ : List Addr} {s : Iv.S} {σ : L2.St} {H : Hp}
theorem Sta.newX (S : Sta Ca Pr F ρ s σ H) {a : Addr} {d : Nat} (h : H a = none) :
    ∃ F', Gr F ρ H F' ρ (upd H a (ExcAt (Ca d) a)) ∧ Sta Ca Pr F' ρ s σ (upd H a (ExcAt (Ca d) a)) ∧ Rep Ca F' ρ (upd H a (ExcAt (Ca d) a)) (.exc d) (.ref a) := by
  have g : Gr F ρ H F ρ (upd H a (ExcAt (Ca d) a)) := Gr.upd (S.fresh_F h)
  have S1 := S.new (o := ExcAt (Ca d) a) h
  have g2 : Gr F ρ (upd H a (ExcAt (Ca d) a)) (fun b => F b ∨ b = a) ρ (upd H a (ExcAt (Ca d) a)) := Gr.wid fun _ h => .inl h
  refine ⟨fun b => F b ∨ b = a, g.trans g2, S1.still ⟨_, upd_same⟩ (fun ps e => by rw [upd_same] at e; cases e) (S.fresh_Pr h) (fun n b _ h2 => absurd (List.mem_of_getElem? h2) (S.fresh_ρ h)) (fun i e hi hv => S.noslot h i _ hv e hi rfl), ?_⟩
  simp only [Rep]
  exact ⟨a, rfl, .inr rfl, upd_same⟩
end
section
variable {X : Cx} {Ca : Cn} {W : WX} {g : G} {x n y : Str} {cc i j : Nat} {body : List Stmt} {np np2 yp pos pos' p3 : Pos} {fb : S → Out}
def tryO (g : G) (cc i j : Nat) (o : Out) : Out := match o with
  | .ex d s => match g.cls[d]? with
    | some k => if k.subs.contains cc then .nx { s with σ := (s.σ.set j (some (false, .exc d))).set i none } else .ex d s
    | none => .no
  | o => o
/-- try: body / except C as e: y = e -/
theorem ss_try (gd : Gd X W) (hst : X.stack = X.env :: X.outer) (hfm : X.env.frame = some X.env.locals) (tn : Tg X n i) (ty : Tg X y j) (hln : X.env.kindOf n = some .local) (vn : Vis X.env.scope n) (n1 : (n == ("__debug__" : Str)) = false) (n2 : (n == ("__classdict__" : Str)) = false) (nm : Names X x (.ref (Ca cc))) (hij : i ≠ j)
    (hm : ∀ d k, g.cls[d]? = some k → PySem.W.exmOne X.K (.ref (Ca d)) (.ref (Ca cc)) = some (k.subs.contains cc))
    (hbody : ∀ (W : WX) (pn : List (Addr × Obj)) (xe : Value → Shared → Prop), Takes (X.tr pn xe) W → PassesOwn (model X.prog X.w) X.A X.env xe → PSsv (X.tr pn xe) Ca W body fb) :
    PSv X Ca W (.Try body [.ExceptHandler (some (.Name x np)) (some n) [.Assign [.Name y yp] (.Name n np2) p3] pos'] [] [] pos) fun s => tryO g cc i j (fb s) := by
  refine PS.imp (ps_keep (j := j) (tb := fun W => RunS Ca W fb) (Wout := W) hst hfm gd.nd tn.ix hln nm gd.tk hbody (fun a oe pn => PSs.imp (pss_one (ps_set (X := X.suite a ((a, oe) :: pn)) (i := j) gd.nd ty.ix ty.loc (pe_var (X := X.suite a ((a, oe) :: pn)) tn.ix vn n1 n2) rfl ty.fn)) ?_)) ?_
  · rintro T σ H ⟨e, q⟩
    exact ⟨.ref a, e, q⟩
  · rintro T σ H ⟨Pr, F, ρ, s, S, q⟩
    refine ⟨Pr, F, ρ, s, S, ?_⟩
    revert q
    dsimp only
    unfold tryO
    cases fb s with
    | ex d s1 =>
      dsimp only
      cases hk : g.cls[d]? with
      | none => exact fun q => q.elim
      | some k =>
        intro q F1 ρ1 σ1 H1 gr S1
        refine ⟨_, hm d k hk, fun b => ?_, fun b => ?_⟩
        · dsimp only at q
          rw [if_pos b] at q
          refine ⟨rfl, _, rfl, fun a na => ?_⟩
          obtain ⟨F2, gr2, S2, r⟩ := S1.newX (d := d) na
          refine q F2 ρ1 _ _ (gr.trans gr2) (S2.slots rfl ?_ fun m z hz => ?_)
          · simpa using S1.ln
          · have hz : ((s1.σ.set j (some (false, D.exc d))).set i none)[m]? = some (some z) := hz
            by_cases em : i = m
            · subst em
              rw [List.getElem?_set] at hz; simp at hz
            · rw [List.getElem?_set_ne em] at hz
              by_cases ej : j = m
              · subst ej
                have lt : j < s1.σ.length := by have := (List.getElem?_eq_some_iff.mp hz).1; simpa using this
                rw [List.getElem?_set_self lt] at hz
                obtain rfl : (false, D.exc d) = z := by simpa using hz
                refine .inr ⟨rfl, .ref a, ?_, r⟩
                rw [List.getElem?_set_ne em, List.getElem?_set_self (by rw [List.length_set]; exact Nat.lt_of_lt_of_le lt S1.ln)]
              · rw [List.getElem?_set_ne ej] at hz
                exact .inl ⟨hz, by rw [List.getElem?_set_ne em, List.getElem?_set_ne ej, List.getElem?_set_ne em]⟩
        · dsimp only at q
          rw [if_neg (by rw [b]; decide)] at q
          exact q F1 ρ1 σ1 H1 gr S1
    | nx s1 => exact fun q => q
    | rt o d s1 => exact fun q => q
    | bk s1 => exact fun q => q
    | ct s1 => exact fun q => q
    | no => exact fun q => q
end
end Iv
end
section
set_option Elab.async false
set_option linter.all false
/-! From the text to the rules: keywords. My own work. -/
namespace Iv
open PySem L2 PySem.Spec PyProof.Rows
open PySem (Str)

theorem kwNames_cons {k : Keyword} {r : List Keyword} {xs : List Str} {es : List Expr} (h : kwNames (k :: r) = some (xs, es)) : ∃ x ys fs, k.arg = some x ∧ kwNames r = some (ys, fs) ∧ xs = x :: ys ∧ es = k.value :: fs := by
  unfold kwNames at h
  split at h
  · rename_i x ys fs h1 h2
    have h := Option.some.inj h
    cases h
    exact ⟨x, ys, fs, h1, h2, rfl, rfl⟩
  · cases h
theorem kw_all {pos : Pos} {env : Env} : ∀ {kws : List Keyword} {xs : List Str} {es : List Expr}, kwNames kws = some (xs, es) →
    (backToKw pos (keywordEach kws env)).all (·.1.isSome) = true ∧ (backToKw pos (keywordEach kws env)).filterMap (·.1) = xs ∧ (backToKw pos (keywordEach kws env)).any (·.1.isNone) = false ∧ xs.length = es.length
  | [], xs, es, h => by
    cases (Option.some.inj h)
    exact ⟨rfl, rfl, rfl, rfl⟩
  | ⟨nm, e, p⟩ :: r, xs, es, h => by
    obtain ⟨x, ys, fs, h1, h2, rfl, rfl⟩ := kwNames_cons h
    obtain rfl : nm = some x := h1
    obtain ⟨q1, q2, q3, q4⟩ := kw_all (pos := pos) (env := env) h2
    refine ⟨?_, ?_, ?_, ?_⟩
    · show ((some x).isSome && _) = true
      exact (Bool.and_eq_true _ _).mpr ⟨rfl, q1⟩
    · show x :: _ = _
      exact congrArg _ q2
    · show ((some x).isNone || _) = false
      exact (Bool.or_eq_false_iff).mpr ⟨rfl, q3⟩
    · simp only [List.length_cons, q4]
/-- how many expressions -/
def lenXs : Exs → Nat
  | .nil => 0
  | .cons _ r => lenXs r + 1
/-- as many values as expressions -/
theorem evEs_len {g : G} {cl : Callee} : ∀ {as : Exs} {s s' : S} {xs : List D}, evEs g cl as s = .ok xs s' → xs.length = lenXs as
  | .nil, s, s', xs, h => by
    unfold evEs at h
    cases h; rfl
  | .cons a r, s, s', xs, h => by
    unfold evEs at h
    cases h1 : evE g cl a s with
    | ok x s1 =>
      rw [h1] at h
      simp only [Res.bind] at h
      cases h2 : evEs g cl r s1 with
      | ok ys s2 =>
        rw [h2] at h
        simp only [Res.ok.injEq] at h
        rw [← h.1]
        have := evEs_len h2
        simp only [List.length_cons, lenXs, this]
      | ex c s2 => rw [h2] at h; cases h
      | no => rw [h2] at h; cases h
    | ex c s1 => rw [h1] at h; cases h
    | no => rw [h1] at h; cases h
theorem compEs_len {Γ : Gm} {mv : Bool} : ∀ {n : Nat} {es : List Expr} {as : Exs}, compEs n Γ mv es = some as → lenXs as = es.length
  | 0, es, as, h => by unfold compEs at h; cases h
  | n + 1, [], as, h => by
    unfold compEs at h
    cases h; rfl
  | n + 1, e :: r, as, h => by
    unfold compEs at h
    split at h
    · rename_i a b h1 h2
      have := compEs_len h2
      cases h
      simp only [lenXs, List.length_cons, this]
    · cases h
end Iv
end
section
set_option Elab.async false
set_option linter.all false
/-! Lambdas are made. My own work. -/
namespace Iv
open PySem L2 PySem.Spec PyProof.Rows
open PySem (Str)

section
variable {Ca : Cn} {Pr : Hp} {F : Addr → Prop} {ρ : List Addr} {s : Iv.S} {σ : L2.St} {H H1 : Hp}
theorem Sta.hard (S : Sta Ca Pr F ρ s σ H) (e : LamX.ExtN H H1) {a : Addr} {o : HO} (h : H a = some o) (n : F a ∨ a ∈ ρ ∨ Pr a ≠ none) : H1 a = some o := e a o h fun ps z => by
  subst z
  obtain ⟨q1, q2, q3⟩ := S.nt a ps h
  rcases n with n | n | n
  · exact q1 n
  · exact q2 n
  · exact n q3
/-- new code objects, longer tables -/
theorem Sta.ext (S : Sta Ca Pr F ρ s σ H) (e : LamX.ExtN H H1) (tb : LamX.Tabs Ca.tabs H1) : Gr F ρ H F ρ H1 ∧ Sta Ca Pr F ρ s σ H1 := by
  have kF : ∀ a o, F a → H a = some o → H1 a = some o := fun a o f h => S.hard e h (.inl f)
  have kρ : ∀ a o, a ∈ ρ → H a = some o → H1 a = some o := fun a o f h => S.hard e h (.inr (.inl f))
  have gr : Gr F ρ H F ρ H1 := ⟨fun _ f => f, fun a o f h _ => kF a o f h, fun a ws f r => r.imp (kF a _ f) fun ⟨u, r⟩ => ⟨u, kF a _ f r⟩, fun a ws f r => r.imp (kF a _ f) fun ⟨u, r⟩ => ⟨u, kF a _ f r⟩, [], by simp⟩
  refine ⟨gr, S.len, S.nd, fun a f => let ⟨o, h⟩ := S.fd a f; ⟨o, kF a o f h⟩, fun n b a h1 h2 => (S.bx n b a h1 h2).mono gr fun o => kρ a o (List.mem_of_getElem? h2), S.bF, fun a m => let ⟨o, h⟩ := S.rd a m; ⟨o, kρ a o m h⟩, fun i x h => ?_, S.ow, fun a o h => S.hard e (S.pr a o h) (.inr (.inr fun z => by rw [h] at z; cases z)), S.pF, S.pρ, S.ln, tb, fun a ps h => ⟨fun f => ?_, fun m => ?_, ?_⟩, S.so⟩
  · obtain ⟨v, h1, r⟩ := S.sl i x h
    refine ⟨v, h1, ?_⟩
    unfold Val at r ⊢
    split
    · rename_i hx
      rw [if_pos hx] at r
      obtain ⟨a, rfl, c, f, m, q⟩ := r
      obtain ⟨o, ho, so⟩ := cont_soft c
      exact ⟨a, rfl, c.mono gr (fun u hu => e a u hu fun ps z => by subst z; rw [ho] at hu; cases hu; cases so), f, m, q⟩
    · rename_i hx
      rw [if_neg hx] at r
      exact Rep.mono gr _ _ r
  · obtain ⟨o, ho⟩ := S.fd a f
    have := kF a o f ho
    rw [h] at this; cases this
    exact (S.nt a ps ho).1 f
  · obtain ⟨o, ho⟩ := S.rd a m
    have := kρ a o m ho
    rw [h] at this; cases this
    exact (S.nt a ps ho).2.1 m
  · cases hp : Pr a with
    | none => rfl
    | some o =>
      have := S.hard e (S.pr a o hp) (.inr (.inr fun z => by rw [hp] at z; cases z))
      rw [h] at this; cases this
      have := S.so a _ hp
      cases this
end
end Iv
end
section
set_option Elab.async false
set_option linter.all false
set_option maxRecDepth 100000
set_option maxHeartbeats 2000000
/-! A lambda is made. My own work. -/
namespace Iv
open PySem L2 PySem.Spec PyProof.Rows
open PySem (Str)

section
variable {X : Cx} {pins : List (Addr × Obj)} {σ : L2.St} {H H1 : Hp} {s s' : Shared}
/-- a new object that is known by a word is tracked from now on -/
theorem adoptF {f : Addr} {o : Obj} {P : Heap → Prop} (I : Inv X pins σ H s) (J : Inv X pins σ H1 s') (hf : s.heap.objs.size ≤ f) (ho : s'.heap.get? f = some o) (nn : H1 f = none) (hP : P s'.heap) (st : ∀ h1 h2, P h1 → (∀ o, h1.get? f = some o → h2.get? f = some o) → P h2) :
    Inv X pins σ (upd H1 f (.ext P)) s' := by
  have far : ∀ {b : Addr}, b < s.heap.objs.size → b ≠ f := fun h z => by
    subst z; exact absurd (Nat.lt_of_lt_of_le h hf) (Nat.lt_irrefl _)
  have other : ∀ {b : Addr} {u : HO}, H1 b = some u → b ≠ f := fun {b u} e z => by rw [z, nn] at e; cases e
  refine ⟨J.ok, J.os, J.bare, ⟨J.base.keep, J.base.slot, fun b u e n hx => ?_, J.base.there, fun b xs e => ?_, fun b v u e => ?_, fun b ps e => ?_⟩, J.loc, J.cell, ?_, fun x c e => ?_, fun p hp => ?_, J.hok.laidN (fun b u e => e) nn ⟨hP, ⟨o, ho⟩, st⟩, J.len⟩
  · rw [upd_ne (far (Nat.lt_of_lt_of_le (Heap.lt_size e) I.sz))]
    exact J.base.free b u e n hx
  · have q := J.base.tups b xs e
    rw [upd_ne (other q)]; exact q
  · have q := J.base.frzs b v u e
    rw [upd_ne (other q)]; exact q
  · obtain ⟨more, q⟩ := J.base.tbls b ps e
    exact ⟨more, by rw [upd_ne (other q)]; exact q⟩
  · rw [upd_ne (far I.lt)]; exact J.free
  · obtain ⟨v, z⟩ := I.cell x c e
    rw [upd_ne (far z.lt)]; exact J.freeC x c e
  · obtain ⟨q1, q2, q3⟩ := J.pin p hp
    refine ⟨q1, ?_, q3⟩
    rw [upd_ne (far (Heap.lt_size (I.pin p hp).1))]; exact q2
/-- the making of a function object for a lambda; told too that the object is new -/
theorem lam_mk {T : List (Addr × Str)} {c P : Addr} {q : Str} {params : Arguments} {body : Expr} {scope : Scope} {pos : Pos} {E Q : Value → Shared → Prop} (I : Inv X pins σ H s) (TB : LamX.TabB X.base X.mg c P) (hcode : X.env.code = .ref c) (eq : X.env.qual ++ "<lambda>" = q)
    (hm : (P, q) ∈ T) (hu : ∀ p ∈ T, p.1 = P → p.2 = q) (hT : LamX.Tabs T H) (hdef : defaultsOf params X.env = ([], [])) (hfree : ∀ y ∈ scope.names, y.2 = .free → ∃ c, X.env.cells.lookup y.1 = some c)
    (k : ∀ (f d : Addr) (pm ct : Value) (G : Hp) (t : Shared), Inv X pins σ G t → LamX.ExtN H G → LamX.Tabs T G → t.heap.get? f = some (PySem.W.kla_obj "<lambda>" q params body scope (cloFrom X.env.cells scope.names []) pm d ct) → G f = none → s.heap.objs.size ≤ f → G d = some (LamX.CodeO d q) → Q (.ref f) t) :
    wpAny (model X.prog X.w) X.A (eval (.Lambda params body scope pos) X.env) Q E s := by
  subst eq
  have tP := hT _ hm
  obtain ⟨arr, atP, tri, known⟩ := tP
  have heapP : s.heap.get? P = some { cls := .none, data := .fields arr } := I.hok P _ atP
  have bnP : s.heap.BuiltinsAt X.mg P := TB.bm.keeps I.bk
  refine PySem.W.kla_eval hdef ?_
  rcases Option.eq_none_or_eq_some (codeAmong pos arr.toList) with none_ | ⟨cv, some_⟩
  · apply PySem.W.kla_makeFunction (mg := X.mg) (c := c) (P := P) (ps := arr) (closure_ok hfree) I.ok.glob (I.mod.glob.keeps I.bk) hcode (TB.code.keeps I.bk) heapP tri none_ TB.gP bnP
    intro d ct g tk more ge lt rec_ newP
    obtain ⟨d', od, vs, tq, ed, hod, hdd, hvd⟩ := rec_
    cases ed
    have big : s.heap.objs.size ≤ g.objs.size := Nat.le_trans ge (Nat.le_of_lt lt)
    have fresh_d : H d = none := I.hok.fresh ge
    let fo : Obj := PySem.W.kla_obj "<lambda>" (X.env.qual ++ "<lambda>") params body scope (cloFrom X.env.cells scope.names []) ((X.mg "__name__").getD .none) d ct
    have J := LamX.inv_table (t' := tk) (more := #[rawInt pos.line, rawInt pos.col, .ref d]) (h' := g.push fo) I atP (fun b o nb e => Heap.get?_push_of_some _ (more b o nb e)) (Heap.get?_push_of_some _ newP) ge ⟨od, vs, tq, Heap.get?_push_of_some _ hod, hdd, hvd⟩
    have grows : LamX.ExtN H (upd (upd H P (.tbl (arr ++ #[rawInt pos.line, rawInt pos.col, .ref d]))) d (LamX.CodeO d (X.env.qual ++ "<lambda>"))) := by
      intro b u e n
      rw [upd_ne (ne_of_none e fresh_d)]
      rw [upd_ne (fun z => by subst z; rw [atP] at e; cases e; exact n _ rfl)]
      exact e
    refine k g.objs.size d _ ct _ _ J grows (fun p hp => ?_) (Heap.get?_push_size _ rfl) ?_ big upd_same
    · by_cases same : p.1 = P
      · rw [hu p hp same, same]
        have el : (arr ++ #[rawInt pos.line, rawInt pos.col, .ref d]).toList = arr.toList ++ [rawInt pos.line, rawInt pos.col, .ref d] := by simp
        refine ⟨_, by rw [upd_ne (ne_of_none atP fresh_d), upd_same], el ▸ PySem.TriplesOk_snoc _ _ _ _ tri, fun pos' cv' hcv => ?_⟩
        rw [el] at hcv
        rcases LamX.among_app _ tri hcv with old | new
        · obtain ⟨c0, e1, e2⟩ := known pos' cv' old
          exact ⟨c0, e1, grows _ _ e2 LamX.codeO_ne⟩
        · exact ⟨d, new, upd_same⟩
      · obtain ⟨arr', a1, a2, a3⟩ := hT p hp
        refine ⟨arr', by rw [upd_ne (ne_of_none a1 fresh_d), upd_ne same]; exact a1, a2, fun pos' cv' hcv => ?_⟩
        obtain ⟨c0, e1, e2⟩ := a3 pos' cv' hcv
        exact ⟨c0, e1, grows _ _ e2 LamX.codeO_ne⟩
    · rw [upd_ne (Nat.ne_of_gt lt), upd_ne (Nat.ne_of_gt (Nat.lt_of_lt_of_le (Heap.lt_size heapP) big))]
      exact I.hok.fresh big
  · obtain ⟨d, rfl, hd⟩ := known pos cv some_
    apply PySem.W.kla_makeFunctionHit (mg := X.mg) (c := c) (P := P) (ps := arr) (closure_ok hfree) I.ok.glob (I.mod.glob.keeps I.bk) hcode (TB.code.keeps I.bk) heapP tri some_ bnP
    intro ct g tk more big
    exact k g.objs.size d _ ct H _ (I.kept fun b o e => Heap.get?_push_of_some _ (more b o e)) (LamX.ExtN.refl H) hT (Heap.get?_push_size _ rfl) (I.hok.fresh big) big hd
end
section
variable {T : Tx} {X : Cx} {Ca : Cn} {W : WX} {Pr : Hp} {F : Addr → Prop} {ρ : List Addr} {s : Iv.S} {σ : L2.St} {H : Hp}
/-- slots that a lambda captures stand still -/
def frzS (σ : List (Option (Bool × D))) (cs : List Nat) : List (Option (Bool × D)) := cs.foldl (fun σ j => match σ[j]? with | some (some (true, d)) => σ.set j (some (false, d)) | _ => σ) σ
theorem Sta.frz : ∀ (cs : List Nat) {F : Addr → Prop} {s : Iv.S}, Sta Ca Pr F ρ s σ H → ∃ F', Gr F ρ H F' ρ H ∧ Sta Ca Pr F' ρ { s with σ := frzS s.σ cs } σ H
  | [], F, s, S => ⟨F, Gr.refl _ _ _, S⟩
  | j :: cs, F, s, S => by
    show ∃ F', Gr F ρ H F' ρ H ∧ Sta Ca Pr F' ρ { s with σ := frzS (match s.σ[j]? with | some (some (true, d)) => s.σ.set j (some (false, d)) | _ => s.σ) cs } σ H
    split
    · rename_i d hd
      obtain ⟨F1, v, g1, S1, _⟩ := S.stillSlot hd
      obtain ⟨F2, g2, S2⟩ := Sta.frz cs S1
      exact ⟨F2, g1.trans g2, S2⟩
    · exact Sta.frz cs S
/-- an object known by a word stands still -/
theorem Sta.stillX (S : Sta Ca Pr F ρ s σ H) {a : Addr} {P : Heap → Prop} (h : H a = some (.ext P)) : Gr F ρ H (fun b => F b ∨ b = a) ρ H ∧ Sta Ca Pr (fun b => F b ∨ b = a) ρ s σ H := by
  refine ⟨Gr.wid fun _ h => .inl h, S.still ⟨_, h⟩ (fun ps e => by rw [h] at e; cases e) ?_ (fun n b h1 h2 => ?_) fun i d hi hv => ?_⟩
  · cases hp : Pr a with
    | none => rfl
    | some o =>
      have e := S.pr a o hp
      rw [h] at e; cases e
      exact absurd (S.so a _ hp) (by simp [softO])
  · have r := S.bx n b a h1 h2
    cases b with
    | gone => rfl
    | val d =>
      obtain ⟨o, e, so⟩ := cont_soft r
      rw [h] at e; cases e; cases so
    | ins c fs =>
      obtain ⟨dx, ws, e, _⟩ := r
      rw [h] at e; cases e
    | lam i => rfl
    | clo i ds => rfl
  · obtain ⟨b, h3, c, _⟩ := S.own hi
    rw [hv] at h3
    obtain rfl : a = b := by simpa using h3
    obtain ⟨o, e, so⟩ := cont_soft c
    rw [h] at e; cases e; cases so
/-- a new box for an object that stands still -/
theorem Sta.boxF {b : Bx} {a : Addr} (S : Sta Ca Pr F ρ s σ H) (nb : b.mut = false) (nρ : a ∉ ρ) (np : Pr a = none) (ha : ∃ o, H a = some o) (hn : ∀ ps, H a ≠ some (.tbl ps)) (ns : ∀ (i : Nat) (d : D), s.σ[i]? = some (some (true, d)) → σ[i]? ≠ some (some (V.ref a))) (r : BxR Ca F (ρ ++ [a]) H b a) :
    Sta Ca Pr F (ρ ++ [a]) { s with μ := s.μ ++ [b] } σ H ∧ (ρ ++ [a])[s.μ.length]? = some a := by
  have g : Gr F ρ H F (ρ ++ [a]) H := Gr.more _
  have at' : (ρ ++ [a])[s.μ.length]? = some a := by
    rw [← S.len, List.getElem?_append_right (Nat.le_refl _), Nat.sub_self]; rfl
  have look : ∀ {n : Nat} {c : Bx} {p : Addr}, (s.μ ++ [b])[n]? = some c → (ρ ++ [a])[n]? = some p → (s.μ[n]? = some c ∧ ρ[n]? = some p) ∨ (c = b ∧ p = a) := by
    intro n c p h1 h2
    by_cases hn : n < s.μ.length
    · left
      rw [List.getElem?_append_left hn] at h1
      rw [List.getElem?_append_left (by rw [S.len]; exact hn)] at h2
      exact ⟨h1, h2⟩
    · right
      have hm := (List.getElem?_eq_some_iff.mp h1).1
      rw [List.length_append, List.length_singleton] at hm
      obtain rfl : n = s.μ.length := by omega
      rw [at'] at h2
      rw [List.getElem?_append_right (Nat.le_refl _), Nat.sub_self] at h1
      simp at h1 h2
      exact ⟨h1.symm, h2.symm⟩
  refine ⟨⟨?_, ?_, S.fd, fun n c p h1 h2 => ?_, fun n c p h1 h2 hm => ?_, fun p m => ?_, fun i x h => ?_, S.ow, S.pr, S.pF, fun p m => ?_, S.ln, S.tb, fun p ps e => let ⟨n1, n2, n3⟩ := S.nt p ps e; ⟨n1, fun m => (List.mem_append.mp m).elim n2 fun m => by rw [List.mem_singleton] at m; subst m; exact hn ps e, n3⟩, S.so⟩, at'⟩
  · rw [List.length_append, List.length_append, S.len]; rfl
  · rw [List.nodup_append]
    refine ⟨S.nd, by simp, fun x hx y hy z => ?_⟩
    rw [List.mem_singleton] at hy
    subst hy; subst z; exact nρ hx
  · rcases look h1 h2 with ⟨h1, h2⟩ | ⟨rfl, rfl⟩
    · exact (S.bx n c p h1 h2).mono g fun _ e => e
    · exact r
  · rcases look h1 h2 with ⟨h1, h2⟩ | ⟨rfl, rfl⟩
    · exact S.bF n c p h1 h2 hm
    · rw [nb] at hm; cases hm
  · rcases List.mem_append.mp m with m | m
    · exact S.rd p m
    · rw [List.mem_singleton] at m; subst m; exact ha
  · obtain ⟨v, h1, r⟩ := S.sl i x h
    refine ⟨v, h1, ?_⟩
    unfold Val at r ⊢
    split
    · rename_i hx
      rw [if_pos hx] at r
      obtain ⟨q, rfl, c', f, m, z⟩ := r
      refine ⟨q, rfl, c'.mono g (fun _ e => e), f, fun w => ?_, z⟩
      rcases List.mem_append.mp w with w | w
      · exact m w
      · rw [List.mem_singleton] at w; subst w
        obtain ⟨o1, d1⟩ := x
        cases hx
        exact ns i d1 h h1
    · rename_i hx
      rw [if_neg hx] at r
      exact Rep.mono g _ _ r
  · rcases List.mem_append.mp m with m | m
    · exact S.pρ p m
    · rw [List.mem_singleton] at m; subst m; exact np
/-- the lambda at f joins the state -/
theorem Sta.lam {G : Hp} {f d : Addr} {i : Lm} {cl : List (Str × Addr)} (al : Alike Ca (T.cb X.base)) (S : Sta Ca Pr F ρ s σ H) (e : LamX.ExtN H G) (tb : LamX.Tabs Ca.tabs G) (nf : G f = none) (hd : G d = some (LamX.CodeO d i.q)) (ow : Ca.own i cl) :
    ∃ F', Gr F ρ H F' (ρ ++ [f]) (upd G f (LamO T i f d cl)) ∧ Sta Ca Pr F' (ρ ++ [f]) { σ := frzS s.σ i.cs, μ := s.μ ++ [.lam i] } σ (upd G f (LamO T i f d cl)) ∧ Rep Ca F' (ρ ++ [f]) (upd G f (LamO T i f d cl)) (.box s.μ.length) (.ref f) := by
  obtain ⟨g1, S1⟩ := S.ext e tb
  obtain ⟨F2, g2, S2⟩ := Sta.frz i.cs S1
  have g3 : Gr F2 ρ G F2 ρ (upd G f (LamO T i f d cl)) := Gr.upd (S2.fresh_F nf)
  have S3 := S2.new (o := LamO T i f d cl) nf
  have nd : d ≠ f := fun z => by subst z; rw [nf] at hd; cases hd
  have hd3 : upd G f (LamO T i f d cl) d = some (LamX.CodeO d i.q) := by rw [upd_ne nd]; exact hd
  have hf3 : upd G f (LamO T i f d cl) f = some (LamO T i f d cl) := upd_same
  obtain ⟨g4, S4⟩ := S3.stillX hd3
  obtain ⟨g5, S5⟩ := S4.stillX hf3
  obtain ⟨S6, at6⟩ := S5.boxF (b := .lam i) rfl (S2.fresh_ρ nf) (S2.fresh_Pr nf) ⟨_, hf3⟩ (fun ps z => by rw [hf3] at z; cases z) (fun j e hj hv => S2.noslot nf j _ hv e hj rfl) ⟨.inr rfl, d, cl, by rw [al.lam]; exact hf3, .inl (.inr rfl), hd3, ow⟩
  exact ⟨_, ((g1.trans g2).trans (g3.trans (g4.trans g5))).trans (Gr.more _), S6, by simp only [Rep]; exact ⟨f, rfl, at6⟩⟩
theorem sd_lam {i : Lm} {cl : Callee} {P : Addr} {pos : Pos} {params : Arguments} {body : Expr} {scope : Scope} (al : Alike Ca (T.cb X.base)) (TB : LamX.TabB X.base X.mg (T.tc P) P) (hcode : X.env.code = .ref (T.tc P)) (eq : X.env.qual ++ "<lambda>" = i.q) (hm : (P, i.q) ∈ T.tabs) (hu : ∀ p ∈ T.tabs, p.1 = P → p.2 = i.q)
    (hdef : defaultsOf params X.env = ([], [])) (hfree : ∀ y ∈ scope.names, y.2 = .free → ∃ c, X.env.cells.lookup y.1 = some c) (ow : Ca.own i (cloFrom X.env.cells scope.names [])) (fit : T.lfit i params body scope) :
    PEv X Ca W (.Lambda params body scope pos) (evE T.g cl (.lam i.q i.names i.cs i.body)) := by
  refine ⟨fun pins s σ H Q I ⟨Pr, F, ρ, st, S, q⟩ => ?_⟩
  have tb : LamX.Tabs T.tabs H := by have := S.tb; rw [al.tabs] at this; exact this
  refine lam_mk (T := T.tabs) I TB hcode eq hm hu tb hdef hfree fun f d pm ct G t J eN tG hf nf big hd => ?_
  have tb' : LamX.Tabs Ca.tabs G := by rw [al.tabs]; exact tG
  obtain ⟨F', gr, S', r⟩ := Sta.lam (X := X) (T := T) (i := i) (f := f) (d := d) al S eN tb' nf hd ow
  have J' := adoptF (P := fun h => ∃ ps body scope pm ctv, T.lfit i ps body scope ∧ h.get? f = some (PySem.W.kla_obj "<lambda>" i.q ps body scope _ pm d ctv)) I J big hf nf ⟨params, body, scope, pm, ct, fit, hf⟩ fun h1 h2 ⟨a, b, c, a', b', k, e⟩ kk => ⟨a, b, c, a', b', k, kk _ e⟩
  have qq : Ans Ca W Pr σ (RV Ca Pr σ) F ρ H (.ok (false, .box st.μ.length) { σ := frzS st.σ i.cs, μ := st.μ ++ [.lam i] }) Q := by
    have e : evE T.g cl (.lam i.q i.names i.cs i.body) st = .ok (false, .box st.μ.length) { σ := frzS st.σ i.cs, μ := st.μ ++ [.lam i] } := by
      unfold evE
      rfl
    rw [← e]; exact q
  exact ⟨.ref f, _, J', rfl, qq F' (ρ ++ [f]) _ (.ref f) gr S' (tmp_of r)⟩
end
end Iv
end
section
set_option Elab.async false
set_option linter.all false
set_option maxRecDepth 100000
set_option maxHeartbeats 2000000
/-! A lambda is called. My own work. -/
namespace Iv
open PySem L2 PySem.Spec PyProof.Rows
open PySem (Str)

/-- a lambda's frame -/
abbrev lmEnv (i : Lm) (sc : Scope) (L f d : Addr) (cl : List (Str × Addr)) : Env := PySem.W.envX i.q sc L f (.ref d) cl
/-- the context of a lambda's body -/
abbrev lmCx (T : Tx) (base : Heap) (A : Around) (outer : List Env) (s : Shared) (H : Hp) (E : XK) (i : Lm) (sc : Scope) (f d : Addr) (cl : List (Str × Addr)) : Cx where
  prog := T.P
  w := T.w
  K := T.K
  mg := T.mg
  base := base
  A := A.deeper (lmEnv i sc s.heap.objs.size f d cl)
  N := i.names
  s_0 := s
  H_0 := H
  env := lmEnv i sc s.heap.objs.size f d cl
  outer := outer
  stack := lmEnv i sc s.heap.objs.size f d cl :: outer
  ex := []
  fn := fun _ => false
  calm := true
  pn := []
  xe := fun e s' => wpAny (model T.P T.w) (A.deeper (lmEnv i sc s.heap.objs.size f d cl)) (leaving (lmEnv i sc s.heap.objs.size f d cl) e) (fun _ s'' => L2.CX T.P T.w outer H s E e s'') (fun e' s'' => L2.CX T.P T.w outer H s E e' s'') s'
/-- what a lambda's names must be: captured ones and globals -/
structure LmS (i : Lm) (ps : Arguments) (body : Expr) (sc : Scope) : Prop where
  kind : sc.kind = .function
  co : sc.isCoroutine = false
  gen : sc.isGenerator = false
  own : ∀ y ∈ sc.names, y.2 ≠ .local ∧ y.2 ≠ .cell
  free : ∀ y ∈ sc.names, y.2 = .free → y.1 ∈ i.names
  bind : ∀ (cl : List (Str × Addr)) (pm cv ct : Value), bindArgs (PySem.W.kla_fn "<lambda>" i.q ps body sc cl pm cv ct) ⟨[], []⟩ = pure []
/-- what a lambda promises -/
structure LmG (T : Tx) (base : Heap) (k : Nat) (i : Lm) (run : List D → List Bx → CRes) : Prop where
  go : ∀ (A : Around) (fr : List Env) (s : Shared) (H : Hp) (f d : Addr) (cl : List (Str × Addr)) (vs : List V) (Q : VK) (E : XK), Room k A → A.guards = some [] → Env0 T.P T.w T.K T.mg base A fr s H → H f = some (LamO T i f d cl) → H d = some (LamX.CodeO d i.q) →
    CelB base i cl vs → Spec (T.cb base) run vs H Q E → codeAny (model T.P T.w) A (.call (.ref f) ⟨[], []⟩) (CR (L2.CX T.P T.w) fr T.P T.w H s Q E) s
section
variable {T : Tx} {base : Heap} {A : Around} {outer : List Env} {s : Shared} {H : Hp} {E : XK} {i : Lm} {ps : Arguments} {body : Expr} {sc : Scope} {f d : Addr} {cl : List (Str × Addr)} {vs : List V}
theorem CelB.has (c : CelB base i cl vs) {y : Str} (h : y ∈ i.names) : ∃ (j : Nat) (v : V) (a : Addr) (u : Value) (o : Obj), (i.names)[j]? = some y ∧ vs[j]? = some v ∧ cl.lookup y = some a ∧ RelV v u ∧ base.get? a = some o ∧ o.data = .cell (some u) := by
  obtain ⟨cw, n, g⟩ := c
  obtain ⟨j, hj⟩ := List.mem_iff_getElem?.mp h
  have lt : j < vs.length := by rw [n]; exact (List.getElem?_eq_some_iff.mp hj).1
  obtain ⟨a, u, o, e1, r, e2, e3⟩ := g j y vs[j] hj (List.getElem?_eq_getElem lt)
  exact ⟨j, _, a, u, o, hj, List.getElem?_eq_getElem lt, e1, r, e2, e3⟩
theorem lm_start {h : Heap} {tk : Nat} (L : LmS i ps body sc) (c : CelB base i cl vs) (e0 : Env0 T.P T.w T.K T.mg base A outer s H) (hd : A.handled = none) (ns : h.Ns s.heap.objs.size fun y => ([] : List (Str × Value)).reverse.lookup y) (kp : ∀ b o, s.heap.get? b = some o → h.get? b = some o) :
    Inv (lmCx T base A outer s H E i sc f d cl) [] (vs.map some) H { s with heap := h, toks := tk } := by
  have cells : ∀ {y a}, cl.lookup y = some a → ∃ u o, base.get? a = some o ∧ o.data = .cell (some u) := fun {y a} e => by
    obtain ⟨j, v, a', u, o, _, _, e1, _, e2, e3⟩ := c.has (c.1.2 y a e)
    rw [e] at e1; cases e1
    exact ⟨u, o, e2, e3⟩
  have noex : ∀ b : Addr, b ∉ (lmCx T base A outer s H E i sc f d cl).ex := fun b z => absurd (show b ∈ ([] : List Addr) from z) (by simp)
  refine ⟨⟨e0.mod, L.kind, rfl, rfl, Nat.le_refl _, fun y z a e1 e2 => c.1.1 y z a e1 e2, fun y hy => ?_, fun y a z _ => ?_, fun _ => hd, Around.frames_deeper e0.frames, .inr ⟨rfl, rfl⟩, fun b z => absurd z (noex b), e0.bs, e0.bsz, fun b _ _ => noex b, fun b z => absurd z (noex b), e0.funs, e0.frf⟩,
    rfl, e0.bare, Un.kept kp, ⟨_, ns, fun j y v e1 e2 e3 => ?_⟩, fun y a e => ?_, e0.hok.fresh (Nat.le_refl _), fun y a e => ?_, fun q hq => absurd (show q ∈ ([] : List (Addr × Obj)) ++ [] from hq) (by simp), e0.hok.kept kp, ?_⟩
  · have hy : (sc).names.lookup y = some .cell ∨ (sc).names.lookup y = some .free := hy
    rcases hy with hy | hy
    · exact absurd rfl (L.own _ (PySem.mem_of_lookup hy)).2
    · obtain ⟨_, _, a, _, _, _, _, e, _⟩ := c.has (L.free _ (PySem.mem_of_lookup hy) rfl)
      exact ⟨a, e⟩
  · exact absurd (show false = true from z) (by decide)
  · have e1 : (i.names)[j]? = some y := e1
    have e3 : Vis (sc) y := e3
    have hv : vs[j]? = some v := by
      rw [List.getElem?_map] at e2
      obtain ⟨w, hw, q⟩ := Option.map_eq_some_iff.mp e2
      cases q; exact hw
    obtain ⟨a, u, o, h1, r, h2, h3⟩ := c.2.2 j y v e1 hv
    refine ⟨u, r, .inr ⟨?_, a, h1, o, kp _ _ (e0.bs a o h2).1, h3⟩⟩
    rcases e3 with k | k | k
    · exact absurd rfl (L.own _ (PySem.mem_of_lookup k)).1
    · exact absurd rfl (L.own _ (PySem.mem_of_lookup k)).2
    · exact .inr k
  · obtain ⟨u, o, h1, h2⟩ := cells e
    exact ⟨some u, o, kp _ _ (e0.bs a o h1).1, h2⟩
  · obtain ⟨u, o, h1, h2⟩ := cells e
    exact (e0.bs a o h1).2
  · show (vs.map some).length = (i.names).length
    rw [List.length_map, c.2.1]
/-- the values of its names, for the evaluator -/
theorem sta_lam {Ca : Cn} {Pr : Hp} {F : Addr → Prop} {ρ : List Addr} {μ : List Bx} {ds : List D} (S : Sta Ca Pr F ρ ⟨[], μ⟩ [] H) (l : RepL Ca F ρ H ds vs) : Sta Ca Pr F ρ ⟨ds.map fun a => some (false, a), μ⟩ (vs.map some) H := by
  refine S.slots rfl (by simp [l.len]) fun j x e => .inr ?_
  have e : (ds.map fun a => some (false, a))[j]? = some (some x) := e
  rw [List.getElem?_map] at e
  obtain ⟨y, hy, q⟩ := Option.map_eq_some_iff.mp e
  cases q
  obtain ⟨v, hv, r⟩ := l.get hy
  exact ⟨rfl, v, by rw [List.getElem?_map, hv]; rfl, r⟩
end
section
variable {Ca Cb : Cn} {Pr : Hp} {F : Addr → Prop} {ρ : List Addr} {s : Iv.S} {σ : L2.St} {H : Hp}
/-- the same state by another frame's knowledge -/
theorem Sta.cn (al : Alike Ca Cb) (ow : ∀ i cl, Ca.own i cl → Cb.own i cl) (ce : ∀ i cl vs, Ca.cel i cl vs → Cb.cel i cl vs) (S : Sta Ca Pr F ρ s σ H) : Sta Cb Pr F ρ s σ H := by
  refine ⟨S.len, S.nd, S.fd, fun n b a h1 h2 => ?_, S.bF, S.rd, fun i x h => ?_, S.ow, S.pr, S.pF, S.pρ, S.ln, by rw [← al.tabs]; exact S.tb, S.nt, S.so⟩
  · have r := S.bx n b a h1 h2
    cases b with
    | gone => trivial
    | val d => exact Cont.alike al.ca r
    | ins c fs =>
      obtain ⟨dx, ws, q, l⟩ := r
      exact ⟨dx, ws, by rw [← al.ca]; exact q, RepF.alike al.ca _ _ l⟩
    | lam i =>
      obtain ⟨fa, c, cl, q1, q2, q3, q4⟩ := r
      exact ⟨fa, c, cl, by rw [← al.lam]; exact q1, q2, q3, ow _ _ q4⟩
    | clo i ds =>
      obtain ⟨fa, c, cl, vs, q1, q2, q3, q4, l⟩ := r
      exact ⟨fa, c, cl, vs, by rw [← al.lam]; exact q1, q2, q3, ce _ _ _ q4, RepL.alike al.ca _ _ l⟩
  · obtain ⟨v, h1, r⟩ := S.sl i x h
    exact ⟨v, h1, Val.alike al.ca r⟩
/-- the frame is left -/
theorem Sta.shut (al : Alike Ca Cb) (S : Sta Ca Pr F ρ s σ H) : Sta Cb Pr F ρ ⟨[], Iv.shut s.μ⟩ [] H := by
  refine ⟨by rw [S.len]; simp [Iv.shut], S.nd, S.fd, fun n b a h1 h2 => ?_, fun n b a h1 h2 hm => ?_, S.rd, fun i x e => by simp at e, fun i j d e v h => by simp at h, S.pr, S.pF, S.pρ, Nat.le_refl _, by rw [← al.tabs]; exact S.tb, S.nt, S.so⟩
  · have h1 : (s.μ.map shutB)[n]? = some b := h1
    rw [List.getElem?_map] at h1
    obtain ⟨b0, e0, rfl⟩ := Option.map_eq_some_iff.mp h1
    have r := S.bx n b0 a e0 h2
    cases b0 with
    | gone => trivial
    | val d => exact Cont.alike al.ca r
    | ins c fs =>
      obtain ⟨dx, ws, q, l⟩ := r
      exact ⟨dx, ws, by rw [← al.ca]; exact q, RepF.alike al.ca _ _ l⟩
    | lam i => trivial
    | clo i ds => trivial
  · have h1 : (s.μ.map shutB)[n]? = some b := h1
    rw [List.getElem?_map] at h1
    obtain ⟨b0, e0, rfl⟩ := Option.map_eq_some_iff.mp h1
    refine S.bF n b0 a e0 h2 ?_
    cases b0 <;> first | exact hm | cases hm
theorem Tmp.shut (h : Ca.ca = Cb.ca) {x : Bool × D} {v : V} (t : Tmp Ca Pr F ρ s σ H x v) (μ : List Bx) : Tmp Cb Pr F ρ ⟨[], μ⟩ [] H x v := ⟨Val.alike h t.1, fun _ i d hi => by simp at hi⟩
end
/-- a lambda's promise by its body -/
theorem lmG_of {T : Tx} {base : Heap} {k : Nat} {i : Lm} {run : List D → List Bx → CRes} {fe : S → Res (Bool × D)} (hrun : ∀ ds μ, ds.length = i.names.length → run ds μ = endE (fe ⟨ds.map fun a => some (false, a), μ⟩))
    (fit : ∀ ps body sc, T.lfit i ps body sc → LmS i ps body sc ∧ ∀ (A : Around) (fr : List Env) (s : Shared) (H : Hp) (E : XK) (f d : Addr) (cl : List (Str × Addr)), (∃ vs h, Inv (lmCx T base A fr s H E i sc f d cl) [] vs H h) → Room k (A.deeper (lmEnv i sc s.heap.objs.size f d cl)) → A.guards = some [] →
      PEv (lmCx T base A fr s H E i sc f d cl) (T.cb base) (fun cls dd _ H' => E cls dd H') body fe) : LmG T base (k + 1) i run := ⟨by
  intro A fr s H f d cl vs Q E room gu e0 hf hd ce ⟨Pr, F, ρ, μ, ds, S, l, q⟩
  obtain ⟨⟨ps, body, sc, pm, ct, fi, of⟩, _, _⟩ := e0.hok f _ hf
  obtain ⟨⟨oc, ws, t, hoc, hdc, hvc⟩, _, _⟩ := e0.hok d _ hd
  obtain ⟨L, bod⟩ := fit ps body sc fi
  refine PySem.W.kla_callFunE room.depth of rfl L.co L.gen rfl ⟨d, oc, ws, t, rfl, hoc, hdc, hvc⟩ ?_
  rw [L.bind]
  refine wpAny_pure (wpAny_newFunctionEnv (fun y hy => (L.own y hy).2) (fun y hy => absurd hy (by simp)) (fun h₁ hns hsb => ⟨(e0.mod.nolimit.keeps fun b o e => (e0.bs b o e).1).fresh _ hsb, ?_⟩) L.kind)
  have kp : ∀ b o, s.heap.get? b = some o → h₁.get? b = some o := fun b o e => hsb.extBut b o (Nat.ne_of_lt (Heap.lt_size e)) (Heap.get?_push_of_some _ e)
  have J : Inv (lmCx T base A fr s H E i sc f d cl) [] (vs.map some) H { s with heap := h₁, toks := s.toks + ([] : List (Str × Value)).length } := lm_start L ce e0 room.hd hns kp
  have b := bod A fr s H E f d cl ⟨_, _, J⟩ (room.deeper _) gu
  have S1 := sta_lam S l
  have hl : ds.length = i.names.length := by rw [l.len, ce.2.1]
  rw [hrun ds μ hl] at q
  show codeAny _ _ (.expr body (lmEnv i sc s.heap.objs.size f d cl)) _ _
  refine PySem.W.kla_codeExpr (wpAny_mono (b.run [] _ _ H Q J ⟨Pr, F, ρ, _, S1, ?_⟩) (fun v s' hq => ?_) fun e s' hq => hq)
  · revert q
    unfold endE
    cases fe ⟨ds.map fun a => some (false, a), μ⟩ with
    | ok x st =>
      intro q F' ρ' H' v gr S' t
      exact q F' ρ' H' v gr (S'.shut ⟨rfl, rfl, rfl⟩) (t.shut rfl _)
    | ex c st =>
      intro q F' ρ' H' gr S'
      exact q F' ρ' H' gr (S'.shut ⟨rfl, rfl, rfl⟩)
    | no => exact fun q => q
  · obtain ⟨w', H', J', rv, q'⟩ := hq
    exact ⟨w', H', J'.os, J'.bare, J'.base, J'.hok, rv, q'⟩⟩
/-- all lambdas of the text, over every base -/
def Lms (T : Tx) (lv : Nat) (i : Lm) (run : List D → List Bx → CRes) : Prop := ∀ base, BaseOk T base → LmG T base lv i run
section
variable {T : Tx} {X : Cx} {Ca : Cn} {W : WX} {lv : Nat}
theorem run_lam {pins : List (Addr × Obj)} {σ : L2.St} {H : Hp} {s : Shared} {Pr : Hp} {F : Addr → Prop} {ρ : List Addr} {st : Iv.S} {n : Nat} {l : Lm} {a : Addr} {ds : List D} {run : List D → List Bx → CRes} {Q : VK} (c : CallOk T X Ca W lv) (lms : Lms T lv l run)
    (I : Inv X pins σ H s) (S : Sta Ca Pr F ρ st σ H) (hρ : ρ[n]? = some a) (hb : (enter st)[n]? = some (.clo l ds)) (q : Ans Ca W Pr σ (RV Ca Pr σ) F ρ H (called (run ds (enter st)) st) Q) :
    wpAny (model X.prog X.w) X.A (call (.ref a) []) (EP X pins σ Q) X.xe s := by
  have L1 := lms _ (c.bo.up (base_under I))
  have al : Alike Ca (T.cb (under X s H)) := ⟨c.cn.al.ca, c.cn.al.lam, c.cn.al.tabs⟩
  have S1 := c.cn.over I S
  obtain ⟨fa, d, cl, vs, q1, q2, q3, q4, rl⟩ := S1.bx n _ a hb hρ
  have e0 := env_under I
  rw [c.cn.P, c.cn.w, c.cn.K, c.cn.mg] at e0
  have sp : Spec (T.cb (under X s H)) run vs H Q (fun cls d H' => W cls d σ H') := by
    refine ⟨_, F, ρ, _, ds, S1, rl, ?_⟩
    cases hr : run ds (enter st) with
    | ok o d μ' =>
      rw [hr] at q
      intro F' ρ' H' v gr S' t
      have S2 := S.home al S' gr
      refine q F' ρ' H' v gr S2 ⟨(Val.alike al.symm.ca t.1).less (prot_le S), fun ho i e hi hv => ?_⟩
      have ho : o = true := ho
      subst ho
      obtain ⟨b, rfl, _, _, _, np⟩ := t.1
      obtain ⟨b', h3, cc, _⟩ := S.own (show st.σ[i]? = some (some (true, e)) from hi)
      rw [hv] at h3
      obtain rfl : b = b' := by simpa using h3
      obtain ⟨u, hu⟩ := cc.some
      rw [prot_own (show st.σ[i]? = some (some (true, e)) from hi) hv, hu] at np
      cases np
    | ex k μ' =>
      rw [hr] at q
      intro F' ρ' H' gr S'
      have e : (T.cb (under X s H)) k = Ca k := by rw [← al.ca]
      rw [e]
      exact q F' ρ' H' gr (S.home al S' gr)
    | no => rw [hr] at q; exact q
  have go := L1.go X.A X.stack s H a d cl vs Q _ c.room c.gd.gu e0 q1 q3 q4 sp
  rw [← c.cn.P, ← c.cn.w] at go
  refine wpAny_call (codeAny_mono go fun r s' hq => ?_)
  match r, hq with
  | .error e, hq => exact c.gd.tk e s' (XE.of_call I (fun cls d H' h => h) hq)
  | .ok (.ret u), hq => exact I.after hq
/-- f() of a local name -/
theorem sd_app {i : Nat} {x : Str} {p pos : Pos} {cl : Callee} (c : CallOk T X Ca W lv) (lms : ∀ l, Lms T lv l (cl (.inr l))) (hv : PE X (.Name x p) (tVar i)) :
    PEv X Ca W (.Call (.Name x p) [] [] pos) (evE T.g cl (.app i .nil)) := by
  have ev : ∀ st, evE T.g cl (.app i .nil) st = (rVar false i st).bind fun f s => match f.2 with
    | .box n => match (enter s)[n]? with
      | some (.clo l ds) => called (cl (.inr l) ds (enter s)) s
      | _ => .no
    | _ => .no := fun st => by
    unfold evE
    cases rVar false i st <;> simp only [evEs, Res.bind, List.append_nil] <;> rfl
  refine ⟨fun pins s σ H Q I ⟨Pr, F, ρ, st, S, q⟩ => ?_⟩
  rw [ev] at q
  refine wpAny_Call_Name_kw (thn ((sd_var (W := W) (Ca := Ca) (mv := false) hv).run pins s σ H _ I ⟨Pr, F, ρ, st, S, Ans.bind (Rl := RV Ca Pr σ) q⟩) fun u s1 ⟨v, H1, I1, r1, q1⟩ => ?_)
  obtain ⟨y, st1, F1, ρ1, gr, S1, t, q1⟩ := q1
  obtain ⟨F2, g2, S2, ry⟩ := S1.freeze t
  obtain ⟨o, dd⟩ := y
  cases dd with
  | box n =>
    simp only [Rep] at ry
    obtain ⟨a, rfl, hρ⟩ := ry
    dsimp only at q1
    cases hbx : (enter st1)[n]? with
    | none => rw [hbx] at q1; exact q1.elim
    | some b =>
      rw [hbx] at q1
      cases b with
      | clo l ds =>
        dsimp only at q1
        obtain rfl : u = Value.ref a := r1
        obtain ⟨fa, d, cs, vs, h1, _⟩ := (c.cn.over I1 S2).bx n _ a hbx hρ
        obtain ⟨⟨_, _, _, pm, ct, _, of⟩, _, _⟩ := I1.hok a _ h1
        exact PySem.W.callWith_F0 ⟨_, _, _, _, of⟩ (run_lam c (lms l) I1 S2 hρ hbx (Ans.start g2 q1))
      | gone => exact q1.elim
      | val d => exact q1.elim
      | ins c fs => exact q1.elim
      | lam i => exact q1.elim
  | _ => exact q1.elim
end
end Iv
end
section
set_option Elab.async false
set_option linter.all false
set_option maxRecDepth 100000
set_option maxHeartbeats 2000000
/-! Comprehensions whose block may count on the state at its start. My own work. -/
namespace Iv
open PySem L2 PySem.Spec PyProof.Rows
open PySem (Str)

section
variable {X : Cx} {pins : List (Addr × Obj)} {σ : L2.St} {H : Hp} {s : Shared}
/-- what a block must do, wherever it starts with these slots -/
def Blk (X : Cx) (σ : L2.St) (elt tg : Expr) (ifs : List Expr) (scope : Scope) (g : TG) (tt : TT) (te : TE) : Prop :=
  ∀ (pins : List (Addr × Obj)) (s : Shared) (H : Hp) (C : Addr) (cl : List (Str × Addr)) (fp : List Addr), Inv X pins σ H s → (∀ b ∈ fp, H b = none ∧ (∀ v o, s.heap.get? b = some o → o.data ≠ .cell v)) → let B := X.blk s H scope (compEnvC scope cl C X.env) fp
    PG B tg g ∧ PTs B ifs tt ∧ PE B elt te
theorem lc_coreY {Q : VK} {elt tg iter : Expr} {ifs : List Expr} {scope : Scope} {own : List (Str × Nat)} {pos pos' : Pos} {wi : TI} {g : TG} {tt : TT} {te : TE} {use : Option (Value → Sem Unit)} {Qf : Value → Shared → Prop} (calm : X.calm = true) (nd : X.N.Nodup) (I : Inv X pins σ H s) (hi : PI X tg iter wi) (ok : BlkOk X.N X.env.scope scope own)
    (blk : Blk X σ elt tg ifs scope g tt te) (hs : ∀ x, foldedSetIterable iter X.env x = pure x) (h : tLc wi g tt te (own.map (·.2)) σ H Q)
    (fin : ∀ D C s' m H', Inv X pins σ H' s' → Q (.ref D) H' → s'.heap.Ns C m → FpOk X pins H' C → compPost (model X.prog X.w) X.A X.xe use Qf (.ref D) C (.ok .next) s') :
    wpAny (model X.prog X.w) X.A (comprehension (.ListComp elt [⟨tg, iter, ifs, 0⟩] scope pos) scope X.env pos' (newList []) false (eval iter X.env) use) Qf X.xe s := by
  have caught : ∀ y ∈ scope.names, y.2 = .free → ∃ c, X.env.cells.lookup y.1 = some c := fun y hy e => (ok.free y hy e).elim (fun k => I.ok.has _ (.inl k)) fun k => I.ok.has _ (.inr k)
  apply wpAny_comprehension_free (use := use) rfl hs (closure_ok caught) ok.kind (fun y hy e => by rw [ok.uniq y hy, e])
  apply thn (hi.run pins s σ H _ I h)
  intro _ s1 made
  apply thn made
  rintro _ s2 ⟨it, fp, tn, J, H2, rfl, I2, T, st2, f2, todo⟩
  refine wpAny_newObj_type (newEnv_comp ?_) (by show 0 ≤ sizeLine; decide)
  let dl := s2.heap.objs.size
  have dn : H2 dl = none := I2.hok.fresh (Nat.le_refl _)
  obtain ⟨Inv0, ⟨m0, w0⟩, turn⟩ := todo dl dn
  let list0 : Obj := { cls := .type "list", data := .seq ([] : List Value).toArray }
  have at0 : (s2.heap.push list0).get? dl = some list0 := Heap.get?_push_size _ rfl
  have I3 : Inv X pins σ (upd H2 dl (.lst [])) { s2 with heap := s2.heap.push list0 } := I2.laid (t' := s2.toks) (fun b o e => Heap.get?_push_of_some _ e) (Nat.le_refl _) ⟨Nat.zero_le _, [], 0, .nil, at0⟩
  have below : ∀ b ∈ fp, b < s2.heap.objs.size := fun b hb => let ⟨o, e, _⟩ := T.obj _ _ st2 b hb; Heap.lt_size e
  have f3 : ∀ b ∈ fp, FpOk X pins (upd H2 dl (.lst [])) b ∧ b < (s2.heap.push list0).objs.size := fun b hb => by
    have lt := below b hb
    exact ⟨⟨by rw [upd_ne (Nat.ne_of_lt lt)]; exact (f2 b hb).1, (f2 b hb).2⟩, by rw [Heap.size_push]; exact Nat.lt_succ_of_lt lt⟩
  have st3 : tn 0 (s2.heap.push list0) := T.keep _ _ _ st2 fun b _ o e => Heap.get?_push_of_some _ e
  have nc : ∀ b ∈ fp, upd H2 dl (.lst []) b = none ∧ (∀ v o, (s2.heap.push list0).get? b = some o → o.data ≠ .cell v) := fun b hb => ⟨(f3 b hb).1.1, fun v o e => by
    obtain ⟨o', e', q⟩ := T.obj _ _ st3 b hb
    rw [e] at e'; cases e'; exact q v⟩
  generalize eH : upd H2 dl (.lst []) = H3 at I3 f3 w0 nc
  generalize e3 : ({ s2 with heap := s2.heap.push list0 } : Shared) = s3 at I3
  have h3 : s3.heap = s2.heap.push list0 := by rw [← e3]
  rw [← h3] at f3 st3 nc
  let cl := cellsFrom (s3.heap.objs.size + 1) scope.names (cloFrom X.env.cells scope.names [])
  have I4 := block_start I3 ok nd f3
  obtain ⟨pg, pt, pe⟩ := blk pins s3 H3 s3.heap.objs.size cl fp I3 nc
  show codeAny _ _ (.compStart (.ListComp elt [⟨tg, iter, ifs, 0⟩] scope pos) 0 (.ref it) (.ref dl) _) _ _
  have conv : codeAny (model X.prog X.w) X.A (.compStart (.ListComp elt [⟨tg, iter, ifs, 0⟩] scope pos) 0 (.ref it) (.ref dl) (compEnvC scope cl s3.heap.objs.size X.env)) (compPost (model X.prog X.w) X.A X.xe use Qf (.ref dl) s3.heap.objs.size) { s3 with heap := pushCells (s3.heap.push { cls := .type "dict", data := .dict #[] }) scope.names } := by
    have nfp : ∀ b ∈ fp, H3 b = none := fun b hb => (nc b hb).1
    generalize ece : compEnvC scope cl s3.heap.objs.size X.env = ce at pg pt pe ⊢
    have I4' : Inv (X.blk s3 H3 scope ce fp) [] (L2.wipe σ (own.map (·.2))) H3 { s3 with heap := pushCells (s3.heap.push { cls := .type "dict", data := .dict #[] }) scope.names } := by rw [← ece]; exact I4
    have lo : ce.locals = s3.heap.objs.size := by rw [← ece]; rfl
    have st4 : tn 0 (pushCells (s3.heap.push { cls := .type "dict", data := .dict #[] }) scope.names) := T.keep _ _ _ st3 fun b _ o e => pushCells_keeps _ _ _ _ (Heap.get?_push_of_some _ e)
    generalize es4 : ({ s3 with heap := pushCells (s3.heap.push { cls := .type "dict", data := .dict #[] }) scope.names } : Shared) = s4 at I4' ⊢
    have st4 : tn 0 s4.heap := by rw [← es4]; exact st4
    have fpk : ∀ {σ' : L2.St} {H' : Hp} {s' : Shared}, Inv (X.blk s3 H3 scope ce fp) [] σ' H' s' → (∀ b ∈ fp, H' b = none) → ∀ b ∈ fp, FpOk (X.blk s3 H3 scope ce fp) [] H' b := fun {σ' H' s'} J' hn b hb =>
      ⟨hn b hb, (J'.ok.exf b hb).1, J'.ok.exfs b hb, .inl hb, fun x c e => (J'.ok.exf b hb).2 x c e, fun p hp => absurd (show p ∈ ([] : List (Addr × Obj)) ++ [] from hp) (by simp)⟩
    refine codeAny_compStart_list ?_ (T.self X.A 0 _ _ _ st4 ?_)
    all_goals
      refine compLoop_any (fun n s' => ∃ i H', Inv (X.blk s3 H3 scope ce fp) [] (L2.wipe σ (own.map (·.2))) H' s' ∧ tn i s'.heap ∧ (∀ b ∈ fp, H' b = none) ∧ Inv0 i n H') ?_ m0 ⟨0, H3, I4', st4, nfp, w0⟩
      rintro n s5 ⟨i, H5, I5, st5, n5, w5⟩
      rcases turn i n H5 w5 with ⟨stop, over⟩ | ⟨go, Nx, less, step⟩
      · refine thnF (T.done (X.blk s3 H3 scope ce fp) rfl rfl rfl calm i [] s5 _ H5 (fun _ _ => False) I5 (fpk I5 n5) st5 stop) fun r s6 ⟨none_, I6⟩ => ?_
        subst none_
        have I7 : Inv X pins σ H5 s6 := I3.call' (ch := fp) I6.os I6.base I6.hok I6.bare fun b hb => ⟨(f3 b hb).1.2.2.2.1, (f3 b hb).1.2.1, (f3 b hb).1.2.2.2.2.1, (f3 b hb).1.2.2.2.2.2⟩
        have nC : H5 s3.heap.objs.size = none := by have z : H5 ce.locals = none := I6.free; rw [lo] at z; exact z
        obtain ⟨m, hn, _⟩ := I6.loc
        have hn : s6.heap.Ns ce.locals m := hn
        rw [lo] at hn
        exact fin dl s3.heap.objs.size s6 m H5 I7 over hn (I3.fpOk (Nat.le_refl _) nC)
      · refine thnF (T.item (X.blk s3 H3 scope ce fp) rfl rfl rfl calm i [] s5 _ H5 (fun _ _ => False) I5 (fpk I5 n5) st5 go) fun r s6 ⟨u, some_, h6⟩ => ?_
        subst some_
        refine thnF h6 fun _ s7 ⟨x, H7, I7, r7, y7, st7, n7⟩ => ?_
        refine thnF (pg.run _ s7 _ H7 x u _ (I7.pinned (fpk I7 n7) (T.obj _ _ st7)) r7 (step x H7 y7)) fun _ s8 ⟨σ8, H8, I8, hw8, q8⟩ => ?_
        refine thnF (pt.run _ s8 σ8 H8 _ I8 q8) fun b s9 ⟨H9, I9, q9⟩ => ?_
        have next : ∀ {s' : Shared} {H' : Hp}, Inv (X.blk s3 H3 scope ce fp) ([] ++ pinsAt fp s7.heap) σ8 H' s' → Nx H' → ∃ m, m < n ∧ ∃ i H', Inv (X.blk s3 H3 scope ce fp) [] (L2.wipe σ (own.map (·.2))) H' s' ∧ tn i s'.heap ∧ (∀ b ∈ fp, H' b = none) ∧ Inv0 i m H' := fun {s' H'} I' nx => by
          obtain ⟨m', hm, w'⟩ := less H' nx
          have kept : ∀ b ∈ fp, ∀ o, s7.heap.get? b = some o → s'.heap.get? b = some o ∧ H' b = none := fun b hb o e =>
            let z := I'.pin (b, o) (List.mem_append_right _ (List.mem_append_right _ (mem_pinsAt hb e)))
            ⟨z.1, z.2.1⟩
          refine ⟨m', hm, i + 1, H', (I'.unpinned (pins := [])).weak (by rw [← hw8, L2.wipe_length]) (fun j v e => ?_), T.keep _ _ _ st7 fun b hb o e => (kept b hb o e).1, fun b hb => ?_, w'⟩
          · rw [← hw8] at e
            exact (wipe_some e).1
          · obtain ⟨o, e, _⟩ := T.obj _ _ st7 b hb
            exact (kept b hb o e).2
        cases b with
        | false =>
          simp only [Bool.false_eq_true, if_false] at q9 ⊢
          exact next I9 q9
        | true =>
          simp only [if_true] at q9 ⊢
          refine thnF (pe.run _ s9 σ8 H9 _ I9 q9) fun z s10 ⟨yv, H10, I10, r10, acc, hD10, hz10, nx⟩ => ?_
          exact app_ok (X := X.blk s3 H3 scope ce fp) I10 hD10 hz10 r10 fun s11 I11 => next I11 nx
  exact conv
/-- as a value -/
theorem pe_lcY {elt tg iter : Expr} {ifs : List Expr} {scope : Scope} {own : List (Str × Nat)} {pos : Pos} {wi : TI} {g : TG} {tt : L2.St → TT} {te : L2.St → TE} (calm : X.calm = true) (nd : X.N.Nodup) (hi : PI X tg iter wi) (ok : BlkOk X.N X.env.scope scope own)
    (blk : ∀ σ, Blk X σ elt tg ifs scope g (tt σ) (te σ)) (hs : ∀ x, foldedSetIterable iter X.env x = pure x) :
    PE X (.ListComp elt [⟨tg, iter, ifs, 0⟩] scope pos) fun σ H Q => tLc wi g (tt σ) (te σ) (own.map (·.2)) σ H Q := by
  refine ⟨fun pins s σ H Q I h => ?_⟩
  rw [eval_ListComp]
  refine lc_coreY calm nd I hi ok (blk σ) hs h fun D C s' m H' I' q hn ⟨f0, f1, f2, f3, f4, f5⟩ => ⟨m, hn, fun h'' sb => ?_⟩
  exact ⟨.ref D, H', I'.turned (t' := s'.toks) (fun b o hb e => (sb.2 b hb).trans e) f0 f1 f3 f4 f5, rfl, q⟩
/-- stored in a local name on its line -/
theorem ps_setLcY {i : Nat} {y : Str} {py : Pos} {elt tg iter : Expr} {ifs : List Expr} {scope : Scope} {own : List (Str × Nat)} {pos spos : Pos} {wi : TI} {g : TG} {tt : L2.St → TT} {te : L2.St → TE} (calm : X.calm = true) (nd : X.N.Nodup) (hy : X.N[i]? = some y) (hyl : X.env.scope.names.lookup y = some .local)
    (sw : swapsWith (.ListComp elt [⟨tg, iter, ifs, 0⟩] scope pos) (some (.Name y py)) spos.line X.env = pure true) (hi : PI X tg iter wi) (ok : BlkOk X.N X.env.scope scope own) (blk : ∀ σ, Blk X σ elt tg ifs scope g (tt σ) (te σ)) (hs : ∀ x, foldedSetIterable iter X.env x = pure x) :
    PS X (.Assign [.Name y py] (.ListComp elt [⟨tg, iter, ifs, 0⟩] scope pos) spos) (tAsg (fun σ H Q => tLc wi g (tt σ) (te σ) (own.map (·.2)) σ H Q) (gName i)) := by
  refine ⟨fun pins s σ H D I h => ?_⟩
  rw [exec_Assign_Name_used _ _ _ _ sw]
  refine wpAny_bind (wpAny_standAt (wpAny_bind ?_))
  have h : tLc wi g (tt σ) (te σ) (own.map (·.2)) σ H (fun x H1 => gName i x σ H1 D.nx) := h
  refine wpAny_bind (thn (lc_coreY (Qf := fun _ s' => SP X pins D .next s') (use := some (assign (.Name y py) X.env)) calm nd I hi ok (blk σ) hs h fun L C s' m H' I' q hn ⟨f0, f1, f2, f3, f4, f5⟩ => ?_) fun _ s' hq => wpAny_pure (wpAny_pure hq))
  show wpAny _ _ (assign (.Name y py) X.env (.ref L)) _ _ _
  refine wpAny_assign_Name (store_ok2 (v := V.ref L) I' nd hy (.inl hyl) rfl (fun s2 I2 ⟨a, sb, ha⟩ => ?_) (.inr hyl))
  have apart : C ≠ a := by
    rcases ha with z | z
    · rw [z]; exact f1
    · exact fun e => f4 y a z e.symm
  exact ⟨m, hn.sameBut sb apart, fun g3 sb3 => ⟨_, H', I2.turned (t' := s2.toks) (fun b o hb e => (sb3.2 b hb).trans e) f0 f1 f3 f4 f5, q⟩⟩
end
end Iv
end
section
set_option Elab.async false
set_option linter.all false
set_option maxRecDepth 100000
set_option maxHeartbeats 2000000
/-! Comprehensions: into the block and out of it. My own work. -/
namespace Iv
open PySem L2 PySem.Spec PyProof.Rows
open PySem (Str)

section
variable {T : Tx} {X : Cx} {Ca Cb : Cn} {W Wn : WX} {Pr : Hp} {F : Addr → Prop} {ρ : List Addr} {s : Iv.S} {σ : L2.St} {H : Hp}
/-- what a block knows: closures alone -/
def Cn.blk (T : Tx) (Ca : Cn) (σ : L2.St) : Cn := T.cn (fun _ _ => False) fun i cl vs => Ca.cel i cl vs ∨ (Ca.own i cl ∧ vs.length = i.cs.length ∧ ∀ (m j : Nat) (v : V), i.cs[m]? = some j → vs[m]? = some v → σ[j]? = some (some v))
/-- no functions at all -/
def Cn.bare (T : Tx) : Cn := T.cn (fun _ _ => False) fun _ _ _ => False
theorem bare_ok (ok : CnOk T X Ca) : CnOk T X (Cn.bare T) := ⟨ok.P, ok.w, ok.K, ok.mg, ⟨rfl, rfl, rfl⟩, fun _ _ _ h => h.elim, fun _ _ h => h.elim⟩
theorem blk_ok {pins : List (Addr × Obj)} {s : Shared} {scope : Scope} {C : Addr} {cl : List (Str × Addr)} {fp : List Addr} (ok : CnOk T X Ca) (I : Inv X pins σ H s) (hf : ∀ b ∈ fp, H b = none ∧ (∀ v o, s.heap.get? b = some o → o.data ≠ .cell v)) :
    CnOk T (X.blk s H scope (compEnvC scope cl C X.env) fp) (Ca.blk T σ) := by
  have keep : ∀ {c u pins' σ' H' s'}, CelAt X s.heap H c u → Inv (X.blk s H scope (compEnvC scope cl C X.env) fp) pins' σ' H' s' → CelAt (X.blk s H scope (compEnvC scope cl C X.env) fp) s'.heap H' c u := fun {c u pins' σ' H' s'} ⟨o, e1, e2, e3, e4⟩ J => by
    have nf : c ∉ fp := fun m => (hf c m).2 _ o e1 e2
    exact ⟨o, J.base.keep c o e1 e3 e4 nf, e2, J.base.free c o e1 e3 nf, e4⟩
  refine ⟨ok.P, ok.w, ok.K, ok.mg, ⟨rfl, rfl, rfl⟩, fun i cl' vs h => ?_, fun _ _ h => h.elim⟩
  rcases h with h | ⟨h, hn, hv⟩
  · obtain ⟨cw, n, f⟩ := ok.cel i cl' vs h
    refine ⟨cw, n, fun pins' σ' H' s' J j y v h1 h2 => ?_⟩
    obtain ⟨c, u, e1, r, e2⟩ := f pins σ H s I j y v h1 h2
    exact ⟨c, u, e1, r, keep e2 J⟩
  · obtain ⟨cw, n, f⟩ := ok.own i cl' h
    refine ⟨cw, by rw [hn, n], fun pins' σ' H' s' J j y v h1 h2 => ?_⟩
    have lt : j < i.cs.length := by rw [n]; exact (List.getElem?_eq_some_iff.mp h1).1
    have hm := List.getElem?_eq_getElem lt
    obtain ⟨c, u, e1, r, e2⟩ := f pins σ H s I j i.cs[j] y v h1 hm (hv j _ v hm h2)
    exact ⟨c, u, e1, r, keep e2 J⟩
/-- functions seen by the block -/
theorem Sta.enterS (ok : CnOk T X Ca) (S : Sta Ca Pr F ρ s σ H) : Sta (Ca.blk T σ) Pr F ρ { s with μ := enter s } σ H := by
  have al : Alike Ca (Ca.blk T σ) := ⟨ok.al.ca, ok.al.lam, ok.al.tabs⟩
  refine ⟨by rw [S.len]; simp [enter], S.nd, S.fd, fun n b a h1 h2 => ?_, fun n b a h1 h2 hm => ?_, S.rd, fun i x h => let ⟨v, h1, r⟩ := S.sl i x h; ⟨v, h1, Val.alike al.ca r⟩, S.ow, S.pr, S.pF, S.pρ, S.ln, by rw [← al.tabs]; exact S.tb, S.nt, S.so⟩
  · have h1 : (s.μ.map (seen s))[n]? = some b := h1
    rw [List.getElem?_map] at h1
    obtain ⟨b0, e0, rfl⟩ := Option.map_eq_some_iff.mp h1
    have r := S.bx n b0 a e0 h2
    cases b0 with
    | gone => trivial
    | val d => exact Cont.alike al.ca r
    | ins c fs =>
      obtain ⟨dx, ws, q, l⟩ := r
      exact ⟨dx, ws, by rw [← al.ca]; exact q, RepF.alike al.ca _ _ l⟩
    | clo i ds =>
      obtain ⟨fa, c, cl, vs, q1, q2, q3, q4, l⟩ := r
      exact ⟨fa, c, cl, vs, by rw [← al.lam]; exact q1, q2, q3, .inl q4, RepL.alike al.ca _ _ l⟩
    | lam i =>
      obtain ⟨fa, c, cl, q1, q2, q3, q4⟩ := r
      unfold seen
      dsimp only
      split
      · rename_i ds hds
        obtain ⟨vs, rl, n1, k⟩ := snap_vals S hds
        exact ⟨fa, c, cl, vs, by rw [← al.lam]; exact q1, q2, q3, .inr ⟨q4, n1, k⟩, RepL.alike al.ca _ _ rl⟩
      · trivial
  · have h1 : (s.μ.map (seen s))[n]? = some b := h1
    rw [List.getElem?_map] at h1
    obtain ⟨b0, e0, rfl⟩ := Option.map_eq_some_iff.mp h1
    refine S.bF n b0 a e0 h2 ?_
    cases b0 with
    | lam i =>
      exfalso
      unfold seen at hm
      dsimp only at hm
      split at hm <;> cases hm
    | _ => exact hm
/-- functions hidden from the block -/
theorem Sta.shutS (al : Alike Ca Cb) (S : Sta Ca Pr F ρ s σ H) : Sta Cb Pr F ρ { s with μ := Iv.shut s.μ } σ H := by
  have S1 := Sta.shut al S
  exact ⟨S1.len, S1.nd, S1.fd, S1.bx, S1.bF, S1.rd, fun i x h => let ⟨v, h1, r⟩ := S.sl i x h; ⟨v, h1, Val.alike al.ca r⟩, S.ow, S1.pr, S1.pF, S1.pρ, S.ln, S1.tb, S1.nt, S1.so⟩
/-- back from the block -/
theorem Sta.leaveS {F' : Addr → Prop} {ρ' : List Addr} {s' : Iv.S} {σ' : L2.St} {H' : Hp} (al : Alike Ca Cb) (S : Sta Ca Pr F ρ s σ H) (S' : Sta Cb Pr F' ρ' s' σ' H') (gr : Gr F ρ H F' ρ' H') : Sta Ca Pr F' ρ' { s' with μ := leave s.μ s'.μ } σ' H' := by
  have ll : s.μ.length ≤ s'.μ.length := by
    obtain ⟨t, e⟩ := gr.p
    have h1 := S.len
    have h2 := S'.len
    rw [e, List.length_append] at h2
    omega
  refine ⟨by rw [leave_len ll]; exact S'.len, S'.nd, S'.fd, fun n b a h1 h2 => ?_, fun n b a h1 h2 hm => ?_, S'.rd, fun i x h => let ⟨v, h1, r⟩ := S'.sl i x h; ⟨v, h1, Val.alike al.symm.ca r⟩, S'.ow, S'.pr, S'.pF, S'.pρ, S'.ln, by rw [al.tabs]; exact S'.tb, S'.nt, S'.so⟩
  · rcases leave_at h1 with ⟨b0, e1, rfl, hm⟩ | ⟨c, e1, rfl⟩
    · have lt : n < ρ.length := by rw [S.len]; exact (List.getElem?_eq_some_iff.mp e1).1
      obtain ⟨t, et⟩ := gr.p
      have h2' : ρ[n]? = some a := by rw [et, List.getElem?_append_left lt] at h2; exact h2
      have r := S.bx n b a e1 h2'
      cases b with
      | gone => trivial
      | val d => cases hm
      | ins k fs => cases hm
      | lam i =>
        obtain ⟨fa, c, cl, q1, q2, q3, q4⟩ := r
        exact ⟨gr.f a fa, c, cl, gr.l a _ fa q1 (Ca.ld _ _ _ _), gr.f c q2, gr.l c _ q2 q3 rfl, q4⟩
      | clo i ds =>
        obtain ⟨fa, c, cl, vs, q1, q2, q3, q4, l⟩ := r
        exact ⟨gr.f a fa, c, cl, vs, gr.l a _ fa q1 (Ca.ld _ _ _ _), gr.f c q2, gr.l c _ q2 q3 rfl, q4, RepL.mono gr _ _ l⟩
    · have r := S'.bx n c a e1 h2
      cases c with
      | gone => trivial
      | val d => exact Cont.alike al.symm.ca r
      | ins k fs =>
        obtain ⟨dx, ws, q, l⟩ := r
        exact ⟨dx, ws, by rw [al.ca]; exact q, RepF.alike al.symm.ca _ _ l⟩
      | lam i => trivial
      | clo i ds => trivial
  · rcases leave_at h1 with ⟨b0, e1, rfl, hm'⟩ | ⟨c, e1, rfl⟩
    · rw [hm'] at hm; cases hm
    · refine S'.bF n c a e1 h2 ?_
      cases c <;> first | exact hm | cases hm
/-- the block's end, the functions as they were -/
def lcEndL (s : Iv.S) (own : List Nat) (acc : List D) (s1 : Iv.S) : Res (Bool × D) := .ok (true, .lst acc) { σ := back s.σ s1.σ own, μ := leave s.μ s1.μ }
theorem lc_formL (r : Res (List D)) (s : Iv.S) (own : List Nat) : (match r with
      | .ok acc s1 => .ok (true, .lst acc) { σ := back s.σ s1.σ own, μ := leave s.μ s1.μ }
      | _ => .no : Res (Bool × D)) = (noEx r).bind (lcEndL s own) := by cases r <;> rfl
/-- what is asked behind the block, in the block's words -/
theorem ans_back {r : Res (List D)} {own : List Nat} {Q : VK} {μ : List Bx} (al : Alike Ca Cb) (S : Sta Ca Pr F ρ s σ H) (q : Ans Ca W Pr σ (RV Ca Pr σ) F ρ H ((noEx r).bind (lcEndL s own)) Q) :
    Ans Cb W Pr σ (RV Cb Pr σ) F ρ H ((noEx r).bind (lcEnd { s with μ := μ } own)) Q := by
  cases r with
  | ok acc sT =>
    intro F' ρ' H' v gr S' t
    exact q F' ρ' H' v gr (S.leaveS al S' gr) ⟨Val.alike al.symm.ca t.1, t.2⟩
  | ex c s1 => exact q
  | no => exact q
/-- the turns, in the block's words -/
theorem lc_tail {i : Nat} {l : List D} {vs : List V} {J : It} {ft : Iv.S → Res Bool} {fe : Iv.S → Res (Bool × D)} {Q : VK} (S1 : Sta Ca Pr F ρ s σ H) (rl : RepL Ca F ρ H l vs) (feeds : Feeds J F ρ H vs) (q1 : Ans Ca W Pr σ (RV Ca Pr σ) F ρ H ((noEx (turns i [i] (lcBody ft fe) l s [])).bind (lcEnd s [i])) Q) :
    ∀ dl, H dl = none → ∃ W0 : Nat → Nat → Hp → Prop, (∃ m, W0 0 m (upd H dl (.lst []))) ∧ ∀ i1 m H, W0 i1 m H →
      (J.stop i1 H ∧ Q (.ref dl) H) ∨ (J.go i1 H ∧ ∃ Nx : Hp → Prop, (∀ H', Nx H' → ∃ m', m' < m ∧ W0 (i1 + 1) m' H') ∧ ∀ x H', J.yld i1 H x H' → gName i x (L2.wipe σ [i]) H' fun σ2 H2 => L2.wipe σ2 [i] = L2.wipe σ [i] ∧ Run Ca Wn RB ft σ2 H2 fun b H3 =>
        if b = true then Run Ca Wn (RV Ca) fe σ2 H3 fun y H4 => ∃ acc, H4 dl = some (.lst acc) ∧ acc.length < sizeLine ∧ Nx (upd H4 dl (.lst (acc ++ [y]))) else Nx H3) := by
  intro dl hd
  have np := S1.fresh_Pr hd
  refine turns_W (Ca := Ca) (Pr := Pr) (own := [i]) (F0 := F) (ρ0 := ρ) (H0 := H) (l := l) (Body := fun σ2 H2 Nx => Run Ca Wn RB ft σ2 H2 fun b H3 => if b = true then Run Ca Wn (RV Ca) fe σ2 H3 fun y H4 => ∃ acc, H4 dl = some (.lst acc) ∧ acc.length < sizeLine ∧ Nx (upd H4 dl (.lst (acc ++ [y]))) else Nx H3) List.mem_cons_self
    (fun j F ρ H sT acc => Ans Ca W Pr σ (RV Ca Pr σ) F ρ H ((noEx (turns i [i] (lcBody ft fe) (l.drop j) sT acc)).bind (lcEnd s [i])) Q) rl feeds (lc_begin S1 hd fun g1 => q1.start g1) ?_ ?_
  · intro j d v F2 ρ2 H2 sT accD accV hdrop g2 S2 la k
    rw [hdrop] at k
    have k' : Ans Ca W Pr σ (RV Ca Pr σ) F2 ρ2 H2 ((noEx (lcBody ft fe { sT with σ := (Iv.wipe sT.σ [i]).set i (some (false, d)) } accD)).bind fun acc st => (noEx (turns i [i] (lcBody ft fe) (l.drop (j + 1)) st acc)).bind (lcEnd s [i])) Q := by
      have e : turns i [i] (lcBody ft fe) (d :: l.drop (j + 1)) sT accD = (lcBody ft fe { sT with σ := (Iv.wipe sT.σ [i]).set i (some (false, d)) } accD).bind fun acc s => turns i [i] (lcBody ft fe) (l.drop (j + 1)) s acc := rfl
      rw [e, noEx_bind, Res.assoc] at k
      exact k
    exact lc_turn (own := [i]) np g2 set_len (set_out List.mem_cons_self) S2 la k'
  · intro F2 ρ2 H2 sT accD accV g2 S2 la ln k
    rw [List.drop_length] at k
    exact lc_done np S1 g2 S2 la ln (show Ans Ca W Pr σ (RV Ca Pr σ) F2 ρ2 H2 (lcEnd s [i] accD sT) Q from k)
/-- what the evaluator does at [e for x in it if c] -/
def lcF (i : Nat) (fi : Iv.S → Res (List D)) (ft : Iv.S → Res Bool) (fe : Iv.S → Res (Bool × D)) (s : Iv.S) : Res (Bool × D) :=
  (fi s).bind fun l s => (noEx (turns i [i] (lcBody ft fe) l { s with μ := enter s } [])).bind (lcEndL s [i])
theorem lcY_run {i : Nat} {fi : Iv.S → Res (List D)} {ft : Iv.S → Res Bool} {fe : Iv.S → Res (Bool × D)} {Q : VK} (ok : CnOk T X Ca) (h : Run Ca W (RV Ca) (lcF i fi ft fe) σ H Q) :
    tLc (Run Ca W (RI Ca) fi) (gName i) (Run (Ca.blk T σ) Wn RB ft) (Run (Ca.blk T σ) Wn (RV (Ca.blk T σ)) fe) [i] σ H Q := by
  have al : Alike Ca (Ca.blk T σ) := ⟨ok.al.ca, ok.al.lam, ok.al.tabs⟩
  obtain ⟨Pr, F, ρ, s, S, q⟩ := h
  refine ⟨Pr, F, ρ, s, S, (Ans.bind (Rl := RI Ca Pr σ) q).mono ?_⟩
  rintro J H1 ⟨l, s1, F1, ρ1, gr, S1, ⟨vs, rl, feeds⟩, q1⟩
  exact lc_tail (S1.enterS ok) (RepL.alike al.ca _ _ rl) feeds (ans_back al S1 q1)
end
section
variable {T : Tx} {X : Cx} {Ca : Cn} {W Wn : WX} {pos : Pos} {x : Str} {i : Nat} {xp : Pos} {iter elt : Expr} {ifs : List Expr} {scope : Scope} {fi : Iv.S → Res (List D)} {ft : Iv.S → Res Bool} {fe : Iv.S → Res (Bool × D)}
/-- what the block's parts must be -/
def BlkV (T : Tx) (X : Cx) (Ca : Cn) (Wn : WX) (x : Str) (i : Nat) (xp : Pos) (elt : Expr) (ifs : List Expr) (scope : Scope) (ft : Iv.S → Res Bool) (fe : Iv.S → Res (Bool × D)) : Prop :=
  ∀ (B : Cx) (Cb : Cn), (∃ (pins : List (Addr × Obj)) (σ : L2.St) (s : Shared) (H : Hp) (C : Addr) (cl : List (Str × Addr)) (fp : List Addr), Inv X pins σ H s ∧ B = X.blk s H scope (compEnvC scope cl C X.env) fp) → CnOk T B Cb → (∀ i cl, ¬ Cb.own i cl) →
    PG B (.Name x xp) (gName i) ∧ PTs B ifs (Run Cb Wn RB ft) ∧ PE B elt (Run Cb Wn (RV Cb) fe)
theorem blkV_to (ok : CnOk T X Ca) (b : BlkV T X Ca Wn x i xp elt ifs scope ft fe) (σ : L2.St) : Blk X σ elt (.Name x xp) ifs scope (gName i) (Run (Ca.blk T σ) Wn RB ft) (Run (Ca.blk T σ) Wn (RV (Ca.blk T σ)) fe) := by
  intro pins s H C cl fp I hf
  exact b _ _ ⟨pins, σ, s, H, C, cl, fp, I, rfl⟩ (blk_ok ok I hf) fun _ _ h => h
theorem sd_lcY (gd : Gd X W) (ok : CnOk T X Ca) (hi : PIv X Ca W (.Name x xp) iter fi) (bo : BlkOk X.N X.env.scope scope [(x, i)]) (b : BlkV T X Ca Wn x i xp elt ifs scope ft fe) (hs : ∀ x, foldedSetIterable iter X.env x = pure x) :
    PEv X Ca W (.ListComp elt [⟨.Name x xp, iter, ifs, 0⟩] scope pos) (lcF i fi ft fe) :=
  PE.imp (pe_lcY gd.hc gd.nd hi bo (blkV_to ok b) hs) fun σ H Q h => lcY_run ok h
theorem ss_asgLcY {y : Str} {k : Nat} {yp sp : Pos} (gd : Gd X W) (ok : CnOk T X Ca) (ty : X.N[k]? = some y) (yl : X.env.scope.names.lookup y = some .local) (kd : X.env.scope.kind = .function)
    (ll : (yp.line == pos.line) = true) (sn : (scope.names.any fun (n, k) => n == y && (k == .local || k == .cell)) = false) (hi : PIv X Ca W (.Name x xp) iter fi) (bo : BlkOk X.N X.env.scope scope [(x, i)]) (b : BlkV T X Ca Wn x i xp elt ifs scope ft fe) (hs : ∀ x, foldedSetIterable iter X.env x = pure x) :
    PSv X Ca W (.Assign [.Name y yp] (.ListComp elt [⟨.Name x xp, iter, ifs, 0⟩] scope pos) sp) fun s => (lcF i fi ft fe s).out fun x s => .nx { s with σ := s.σ.set k (some x) } :=
  PS.imp (ps_setLcY gd.hc gd.nd ty yl (sw_true kd yl ll sn) hi bo (blkV_to ok b) hs) fun T' σ H ⟨Pr, F, ρ, s, S, q⟩ => by
    show tLc (Run Ca W (RI Ca) fi) (gName i) (Run (Ca.blk T σ) Wn RB ft) (Run (Ca.blk T σ) Wn (RV (Ca.blk T σ)) fe) [i] σ H (fun v H1 => gName k v σ H1 T'.nx)
    refine lcY_run (W := W) ok ⟨Pr, F, ρ, s, S, (AnsS.bind (σ := σ) (Rl := RV Ca Pr σ) q).mono ?_⟩
    rintro v H1 ⟨y, s1, F1, ρ1, gr, S1, tv, q1⟩
    exact q1 F1 ρ1 _ H1 (Gr.refl _ _ _) (S1.storeX k tv)
end
end Iv
end
section
set_option Elab.async false
set_option linter.all false
set_option maxRecDepth 100000
set_option maxHeartbeats 2000000
/-! Double comprehensions: the block sees no functions. My own work. -/
namespace Iv
open PySem L2 PySem.Spec PyProof.Rows
open PySem (Str)

section
variable {T : Tx} {X : Cx} {Ca Cb : Cn} {W Wn : WX} {σ : L2.St} {H1 : Hp} {Pr : Hp} {F1 : Addr → Prop} {ρ1 : List Addr} {s1 : Iv.S}
/-- the turns, in the block's words -/
theorem lc2_tail {i j : Nat} {l : List D} {vs : List V} {J : It} {fi1 : Iv.S → Res (List D)} {ft : Iv.S → Res Bool} {fe : Iv.S → Res (Bool × D)} {Q : VK} (S1 : Sta Ca Pr F1 ρ1 s1 σ H1) (rl : RepL Ca F1 ρ1 H1 l vs) (feeds : Feeds J F1 ρ1 H1 vs)
    (q1 : Ans Ca W Pr σ (RV Ca Pr σ) F1 ρ1 H1 ((noEx (turns i [i, j] (fun s acc => (fi1 s).bind fun m s => turns j [j] (lcBody ft fe) m s acc) l s1 [])).bind (lcEnd s1 [i, j])) Q) :
    ∀ dl, H1 dl = none → ∃ W0 : Nat → Nat → Hp → Prop, (∃ m, W0 0 m (upd H1 dl (.lst []))) ∧ ∀ i1 m H, W0 i1 m H →
      (J.stop i1 H ∧ Q (.ref dl) H) ∨ (J.go i1 H ∧ ∃ Nx : Hp → Prop, (∀ H', Nx H' → ∃ m', m' < m ∧ W0 (i1 + 1) m' H') ∧ ∀ x H', J.yld i1 H x H' → gName i x (L2.wipe σ [i, j]) H' fun σ2 H2 => L2.wipe σ2 [i, j] = L2.wipe σ [i, j] ∧ tYes σ2 H2 fun b H3 => if b = true then Run Ca Wn (RI Ca) fi1 σ2 H3 fun J1 H4 => ∃ W1 : Nat → Nat → Hp → Prop, (∃ m, W1 0 m H4) ∧ ∀ j1 k H, W1 j1 k H →
      (J1.stop j1 H ∧ Nx H) ∨ (J1.go j1 H ∧ ∃ Nx1 : Hp → Prop, (∀ H', Nx1 H' → ∃ k', k' < k ∧ W1 (j1 + 1) k' H') ∧ ∀ x H', J1.yld j1 H x H' → gName j x (L2.wipe σ2 [j]) H' fun σ3 H5 => L2.wipe σ3 [j] = L2.wipe σ2 [j] ∧ Run Ca Wn RB ft σ3 H5 fun b H6 =>
        if b = true then Run Ca Wn (RV Ca) fe σ3 H6 fun y H7 => ∃ acc, H7 dl = some (.lst acc) ∧ acc.length < sizeLine ∧ Nx1 (upd H7 dl (.lst (acc ++ [y]))) else Nx1 H6) else Nx H3) := by
  intro dl hd
  have np := S1.fresh_Pr hd
  have mi : i ∈ [i, j] := List.mem_cons_self
  refine turns_W (Ca := Ca) (Pr := Pr) (own := [i, j]) (F0 := F1) (ρ0 := ρ1) (H0 := H1) (l := l) (Body := fun σ2 H2 Nx => tYes σ2 H2 fun b H3 => if b = true then Run Ca Wn (RI Ca) fi1 σ2 H3 fun J1 H4 => ∃ W1 : Nat → Nat → Hp → Prop, (∃ m, W1 0 m H4) ∧ ∀ j1 k H, W1 j1 k H →
      (J1.stop j1 H ∧ Nx H) ∨ (J1.go j1 H ∧ ∃ Nx1 : Hp → Prop, (∀ H', Nx1 H' → ∃ k', k' < k ∧ W1 (j1 + 1) k' H') ∧ ∀ x H', J1.yld j1 H x H' → gName j x (L2.wipe σ2 [j]) H' fun σ3 H5 => L2.wipe σ3 [j] = L2.wipe σ2 [j] ∧ Run Ca Wn RB ft σ3 H5 fun b H6 =>
        if b = true then Run Ca Wn (RV Ca) fe σ3 H6 fun y H7 => ∃ acc, H7 dl = some (.lst acc) ∧ acc.length < sizeLine ∧ Nx1 (upd H7 dl (.lst (acc ++ [y]))) else Nx1 H6) else Nx H3) mi
    (fun j1 F ρ H sT acc => Ans Ca W Pr σ (RV Ca Pr σ) F ρ H ((noEx (turns i [i, j] (fun s acc => (fi1 s).bind fun m s => turns j [j] (lcBody ft fe) m s acc) (l.drop j1) sT acc)).bind (lcEnd s1 [i, j])) Q) rl feeds (lc_begin S1 hd fun g1 => q1.start g1) ?_ ?_
  · intro j1 d v F2 ρ2 H2 sT accD accV hdrop g2 S2 la k
    rw [hdrop] at k
    have k' : Ans Ca W Pr σ (RV Ca Pr σ) F2 ρ2 H2 ((noEx (fi1 { sT with σ := (Iv.wipe sT.σ [i, j]).set i (some (false, d)) })).bind fun m s => (noEx (turns j [j] (lcBody ft fe) m s accD)).bind fun acc s => (noEx (turns i [i, j] (fun s acc => (fi1 s).bind fun m s => turns j [j] (lcBody ft fe) m s acc) (l.drop (j1 + 1)) s acc)).bind (lcEnd s1 [i, j])) Q := by
      have e : turns i [i, j] (fun s acc => (fi1 s).bind fun m s => turns j [j] (lcBody ft fe) m s acc) (d :: l.drop (j1 + 1)) sT accD = ((fi1 { sT with σ := (Iv.wipe sT.σ [i, j]).set i (some (false, d)) }).bind fun m s => turns j [j] (lcBody ft fe) m s accD).bind fun acc s => turns i [i, j] (fun s acc => (fi1 s).bind fun m s => turns j [j] (lcBody ft fe) m s acc) (l.drop (j1 + 1)) s acc := rfl
      rw [e, noEx_bind, noEx_bind, Res.assoc, Res.assoc] at k
      exact k
    dsimp only [tYes]
    rw [if_pos rfl]
    refine ⟨_, F2, ρ2, _, S2, (Ans.inner (Rl := RI Ca (upd Pr dl (.lst accV)) ((L2.wipe σ [i, j]).set i (some v))) k').mono ?_⟩
    rintro J1 H4 ⟨m, s4, F4, ρ4, g4, S4, ⟨ws, rl4, feeds4⟩, q4⟩
    generalize hσ2 : (L2.wipe σ [i, j]).set i (some v) = σ2 at S4 ⊢
    have l2 : σ2.length = σ.length := by rw [← hσ2]; exact set_len
    have o2 : ∀ n, n ∉ [i, j] → σ2[n]? = σ[n]? := fun n hn => by rw [← hσ2]; exact set_out mi n hn
    have mj : j ∈ [j] := List.mem_cons_self
    refine turns_W (Ca := Ca) (Pr := Pr) (own := [j]) (σ := σ2) (dl := dl) (F0 := F4) (ρ0 := ρ4) (H0 := H4) (l := m) (Body := fun σ3 H5 Nx1 => Run Ca Wn RB ft σ3 H5 fun b H6 =>
        if b = true then Run Ca Wn (RV Ca) fe σ3 H6 fun y H7 => ∃ acc, H7 dl = some (.lst acc) ∧ acc.length < sizeLine ∧ Nx1 (upd H7 dl (.lst (acc ++ [y]))) else Nx1 H6) mj
      (fun j2 F ρ H sT acc => Ans Ca W Pr σ (RV Ca Pr σ) F ρ H ((noEx (turns j [j] (lcBody ft fe) (m.drop j2) sT acc)).bind fun acc s => (noEx (turns i [i, j] (fun s acc => (fi1 s).bind fun m s => turns j [j] (lcBody ft fe) m s acc) (l.drop (j1 + 1)) s acc)).bind (lcEnd s1 [i, j])) Q) rl4 feeds4
      ⟨F4, ρ4, s4, accD, accV, Gr.refl _ _ _, S4.wiped rfl fun _ _ => rfl, RepL.mono g4 _ _ la, S4.ln, q4⟩ ?_ ?_
    · intro j2 d2 v2 F5 ρ5 H5 sT5 accD5 accV5 hdrop5 g5 S5 la5 k5
      rw [hdrop5] at k5
      have k6 : Ans Ca W Pr σ (RV Ca Pr σ) F5 ρ5 H5 ((noEx (lcBody ft fe { sT5 with σ := (Iv.wipe sT5.σ [j]).set j (some (false, d2)) } accD5)).bind fun acc s => (noEx (turns j [j] (lcBody ft fe) (m.drop (j2 + 1)) s acc)).bind fun acc s => (noEx (turns i [i, j] (fun s acc => (fi1 s).bind fun m s => turns j [j] (lcBody ft fe) m s acc) (l.drop (j1 + 1)) s acc)).bind (lcEnd s1 [i, j])) Q := by
        have e : turns j [j] (lcBody ft fe) (d2 :: m.drop (j2 + 1)) sT5 accD5 = (lcBody ft fe { sT5 with σ := (Iv.wipe sT5.σ [j]).set j (some (false, d2)) } accD5).bind fun acc s => turns j [j] (lcBody ft fe) (m.drop (j2 + 1)) s acc := rfl
        rw [e, noEx_bind, Res.assoc] at k5
        exact k5
      exact lc_turn (own := [j]) np g5 set_len (set_out mj) S5 la5 k6
    · intro F5 ρ5 H5 sT5 accD5 accV5 g5 S5 la5 ln5 k5
      rw [List.drop_length] at k5
      refine ⟨F5, ρ5, sT5, accD5, accV5, g2.trans (g4.trans g5), ?_, la5, by rw [← l2]; exact ln5, k5⟩
      refine S5.slots rfl (by rw [wipe_len, L2.wipe_length, ← l2]; exact ln5) fun n x e => ?_
      obtain ⟨h1, h2⟩ := wipe_at e
      have nj : n ∉ [j] := fun z => h2 (List.mem_cons_of_mem _ z)
      have e1 : (Iv.wipe sT5.σ [j])[n]? = sT5.σ[n]? := List.getElem?_set_ne fun z => nj (by rw [z]; exact List.mem_cons_self)
      exact .inl ⟨e1.trans h1, by rw [wipe_out h2, wipe_out nj, o2 n h2]⟩
  · intro F2 ρ2 H2 sT accD accV g2 S2 la ln k
    rw [List.drop_length] at k
    exact lc_done np S1 g2 S2 la ln (show Ans Ca W Pr σ (RV Ca Pr σ) F2 ρ2 H2 (lcEnd s1 [i, j] accD sT) Q from k)
/-- what the evaluator does at [e for x in it for y in it1 if c] -/
def lc2F (i j : Nat) (fi fi1 : Iv.S → Res (List D)) (ft : Iv.S → Res Bool) (fe : Iv.S → Res (Bool × D)) (s : Iv.S) : Res (Bool × D) :=
  (fi s).bind fun l s => (noEx (turns i [i, j] (fun s acc => (fi1 s).bind fun m s => turns j [j] (lcBody ft fe) m s acc) l { s with μ := shut s.μ } [])).bind (lcEndL s [i, j])
theorem lc2Y_run {i j : Nat} {fi fi1 : Iv.S → Res (List D)} {ft : Iv.S → Res Bool} {fe : Iv.S → Res (Bool × D)} {H : Hp} {Q : VK} (ok : CnOk T X Ca) (h : Run Ca W (RV Ca) (lc2F i j fi fi1 ft fe) σ H Q) :
    tLc2 (Run Ca W (RI Ca) fi) (gName i) tYes (Run (Cn.bare T) Wn (RI (Cn.bare T)) fi1) (gName j) (Run (Cn.bare T) Wn RB ft) (Run (Cn.bare T) Wn (RV (Cn.bare T)) fe) [i, j] [j] σ H Q := by
  have al : Alike Ca (Cn.bare T) := ⟨ok.al.ca, ok.al.lam, ok.al.tabs⟩
  obtain ⟨Pr, F, ρ, s, S, q⟩ := h
  refine ⟨Pr, F, ρ, s, S, (Ans.bind (Rl := RI Ca Pr σ) q).mono ?_⟩
  rintro J H1 ⟨l, s1, F1, ρ1, gr, S1, ⟨vs, rl, feeds⟩, q1⟩
  exact lc2_tail (S1.shutS al) (RepL.alike al.ca _ _ rl) feeds (ans_back al S1 q1)
end
section
variable {T : Tx} {X : Cx} {Ca : Cn} {W Wn : WX} {pos : Pos} {x x2 : Str} {i j : Nat} {xp x2p : Pos} {iter iter1 elt : Expr} {ifs1 : List Expr} {scope : Scope} {fi fi1 : Iv.S → Res (List D)} {ft : Iv.S → Res Bool} {fe : Iv.S → Res (Bool × D)}
/-- what the block's parts must be -/
def BlkV2 (T : Tx) (X : Cx) (Wn : WX) (x x2 : Str) (i j : Nat) (xp x2p : Pos) (iter1 elt : Expr) (ifs1 : List Expr) (scope : Scope) (fi1 : Iv.S → Res (List D)) (ft : Iv.S → Res Bool) (fe : Iv.S → Res (Bool × D)) : Prop :=
  ∀ (B : Cx), (∃ (s : Shared) (H : Hp) (C : Addr) (cl : List (Str × Addr)) (fp : List Addr), B = X.blk s H scope (compEnvC scope cl C X.env) fp) → CnOk T B (Cn.bare T) →
    PG B (.Name x xp) (gName i) ∧ PI B (.Name x2 x2p) iter1 (Run (Cn.bare T) Wn (RI (Cn.bare T)) fi1) ∧ PG B (.Name x2 x2p) (gName j) ∧ PTs B ifs1 (Run (Cn.bare T) Wn RB ft) ∧ PE B elt (Run (Cn.bare T) Wn (RV (Cn.bare T)) fe)
theorem bare_blk {s : Shared} {H : Hp} {C : Addr} {cl : List (Str × Addr)} {fp : List Addr} (ok : CnOk T X Ca) : CnOk T (X.blk s H scope (compEnvC scope cl C X.env) fp) (Cn.bare T) := ⟨ok.P, ok.w, ok.K, ok.mg, ⟨rfl, rfl, rfl⟩, fun _ _ _ h => h.elim, fun _ _ h => h.elim⟩
theorem sd_lc2Y (gd : Gd X W) (ok : CnOk T X Ca) (hi : PIv X Ca W (.Name x xp) iter fi) (bo : BlkOk X.N X.env.scope scope [(x, i), (x2, j)]) (b : BlkV2 T X Wn x x2 i j xp x2p iter1 elt ifs1 scope fi1 ft fe) (hs : ∀ x, foldedSetIterable iter X.env x = pure x) (hs1 : ∀ env x, foldedSetIterable iter1 env x = pure x) :
    PEv X Ca W (.ListComp elt [⟨.Name x xp, iter, [], 0⟩, ⟨.Name x2 x2p, iter1, ifs1, 0⟩] scope pos) (lc2F i j fi fi1 ft fe) := by
  have bb := fun s H C cl fp => b (X.blk s H scope (compEnvC scope cl C X.env) fp) ⟨s, H, C, cl, fp, rfl⟩ (bare_blk ok)
  exact PE.imp (pe_lc2 (vs1 := [j]) gd.hc gd.nd hi bo (by simp) (fun s H C cl fp => (bb s H C cl fp).1) (fun _ _ _ _ _ => pts_nil) (fun s H C cl fp => (bb s H C cl fp).2.1) (fun s H C cl fp => (bb s H C cl fp).2.2.1) (fun s H C cl fp => (bb s H C cl fp).2.2.2.1) (fun s H C cl fp => (bb s H C cl fp).2.2.2.2) hs hs1) fun σ H Q h => lc2Y_run ok h
theorem ss_asgLc2Y {y : Str} {k : Nat} {yp sp : Pos} (gd : Gd X W) (ok : CnOk T X Ca) (ty : X.N[k]? = some y) (yl : X.env.scope.names.lookup y = some .local) (kd : X.env.scope.kind = .function)
    (ll : (yp.line == pos.line) = true) (sn : (scope.names.any fun (n, k) => n == y && (k == .local || k == .cell)) = false) (hi : PIv X Ca W (.Name x xp) iter fi) (bo : BlkOk X.N X.env.scope scope [(x, i), (x2, j)]) (b : BlkV2 T X Wn x x2 i j xp x2p iter1 elt ifs1 scope fi1 ft fe) (hs : ∀ x, foldedSetIterable iter X.env x = pure x) (hs1 : ∀ env x, foldedSetIterable iter1 env x = pure x) :
    PSv X Ca W (.Assign [.Name y yp] (.ListComp elt [⟨.Name x xp, iter, [], 0⟩, ⟨.Name x2 x2p, iter1, ifs1, 0⟩] scope pos) sp) fun s => (lc2F i j fi fi1 ft fe s).out fun x s => .nx { s with σ := s.σ.set k (some x) } := by
  have bb := fun s H C cl fp => b (X.blk s H scope (compEnvC scope cl C X.env) fp) ⟨s, H, C, cl, fp, rfl⟩ (bare_blk ok)
  refine PS.imp (ps_setLc2 (vs1 := [j]) gd.hc gd.nd ty yl (sw_true kd yl ll sn) hi bo (by simp) (fun s H C cl fp => (bb s H C cl fp).1) (fun _ _ _ _ _ => pts_nil) (fun s H C cl fp => (bb s H C cl fp).2.1) (fun s H C cl fp => (bb s H C cl fp).2.2.1) (fun s H C cl fp => (bb s H C cl fp).2.2.2.1) (fun s H C cl fp => (bb s H C cl fp).2.2.2.2) hs hs1) fun T' σ H ⟨Pr, F, ρ, s, S, q⟩ => ?_
  show tLc2 (Run Ca W (RI Ca) fi) (gName i) tYes (Run (Cn.bare T) Wn (RI (Cn.bare T)) fi1) (gName j) (Run (Cn.bare T) Wn RB ft) (Run (Cn.bare T) Wn (RV (Cn.bare T)) fe) [i, j] [j] σ H (fun v H1 => gName k v σ H1 T'.nx)
  refine lc2Y_run (W := W) ok ⟨Pr, F, ρ, s, S, (AnsS.bind (σ := σ) (Rl := RV Ca Pr σ) q).mono ?_⟩
  rintro v H1 ⟨y, s1, F1, ρ1, gr, S1, tv, q1⟩
  exact q1 F1 ρ1 _ H1 (Gr.refl _ _ _) (S1.storeX k tv)
end
end Iv
end
section
set_option Elab.async false
set_option linter.all false
set_option maxRecDepth 100000
set_option maxHeartbeats 2000000
/-! From the text to the rules: small things. My own work. -/
namespace Iv
open PySem L2 PySem.Spec PyProof.Rows
open PySem (Str)

theorem skip_no : ∀ {n : Nat} {Γ : Gm} {mv : Bool} {e : Expr} {x : Ex}, compE n Γ mv e = some x → x.isSkip = false := by
  intro n
  induction n with
  | zero => intro Γ mv e x h; unfold compE at h; cases h
  | succ n ih =>
    intro Γ mv e x h
    cases x with
    | skip =>
      exfalso
      unfold compE at h
      split at h
      all_goals first
        | (exact absurd (ih h) (by decide))
        | (simp at h; done)
        | (repeat' split at h) <;> first | (simp at h; done) | skip
    | _ => rfl
theorem var_of : ∀ {n : Nat} {Γ : Gm} {mv : Bool} {e : Expr} {x : Ex} {i : Nat}, compE n Γ mv e = some x → asVar x = some i → ∃ (v : Str) (p : Pos), e = .Name v p ∧ isLoc Γ.sc v = true ∧ idx v Γ.N = some i := by
  intro n Γ mv e x i h hx
  cases n with
  | zero => unfold compE at h; cases h
  | succ n =>
    cases x with
    | var mv' j =>
      obtain rfl : j = i := by simpa [asVar] using hx
      unfold compE at h
      split at h
      all_goals first
        | (simp at h; done)
        | skip
      · split at h
        · rename_i hl
          obtain ⟨k, hk, e⟩ := Option.map_eq_some_iff.mp h
          cases e
          exact ⟨_, _, rfl, hl, hk⟩
        · split at h
          · simp at h
          · cases h
      all_goals (repeat' split at h) <;> first | (simp at h; done) | skip
    | _ => simp [asVar] at hx
theorem plain_of : ∀ {n : Nat} {Γ : Gm} {mv : Bool} {e : Expr} {x : Ex}, compE n Γ mv e = some x → plainX e = true := by
  intro n Γ mv e x h
  cases n with
  | zero => unfold compE at h; cases h
  | succ n => cases e <;> first | rfl | (unfold compE at h; simp at h)
theorem plains_of : ∀ {n : Nat} {Γ : Gm} {mv : Bool} {es : List Expr} {xs : Exs}, compEs n Γ mv es = some xs → plainXs es = true := by
  intro n
  induction n with
  | zero => intro Γ mv es xs h; unfold compEs at h; cases h
  | succ n ih =>
    intro Γ mv es xs h
    cases es with
    | nil => rfl
    | cons e r =>
      unfold compEs at h
      split at h
      · rename_i a b h1 h2
        have := ih h2
        unfold plainXs at this ⊢
        rw [List.all_cons, plain_of h1, this]; rfl
      · cases h
theorem PEv.eq {X : Cx} {Ca : Cn} {W : WX} {e : Expr} {f g : S → Res (Bool × D)} (h : PEv X Ca W e f) (k : ∀ s, g s = f s) : PEv X Ca W e g := by
  have : g = f := funext k
  rw [this]; exact h
theorem PTv.eq {X : Cx} {Ca : Cn} {W : WX} {e : Expr} {f g : S → Res Bool} (h : PTv X Ca W e f) (k : ∀ s, g s = f s) : PTv X Ca W e g := by
  have : g = f := funext k
  rw [this]; exact h
/-- built-in functions -/
theorem bcall_ok {X : Cx} {Ca : Cn} {W : WX} {g : G} (gd : Gd X W) (wl : Wld X.K Ca g) {x : Str} {b : BF} (h : bfNames.lookup x = some b) (m : X.mg x = none) :
    ∃ r, MeetsB Ca W g b r ∧ ∀ (t : TA) (p pos : Pos) (e : Expr) (es : List Expr), PA X (e :: es) t → Gl X x → plainXs (e :: es) = true → PE X (.Call (.Name x p) (e :: es) [] pos) (tCB r t) := by
  have hd : ∀ {e : Expr} {es : List Expr}, plainXs (e :: es) = true → plainX e = true ∧ plainXs es = true := fun {e es} h => by unfold plainXs at h ⊢; rw [List.all_cons, Bool.and_eq_true] at h; exact h
  unfold bfNames at h
  rw [List.lookup_cons] at h
  split at h
  · rename_i hx
    rw [beq_iff_eq] at hx
    subst hx
    cases h
    exact ⟨_, meets_len, fun t p pos e es ha hg pl => pe_callB call_len hg m (by decide +kernel) ha (by decide) (by decide) (star_cons (hd pl).1) (star_any (hd pl).2)⟩
  rw [List.lookup_cons] at h
  split at h
  · rename_i hx
    rw [beq_iff_eq] at hx
    subst hx
    cases h
    exact ⟨_, meets_abs, fun t p pos e es ha hg pl => pe_callB call_abs hg m (by decide +kernel) ha (by decide) (by decide) (star_cons (hd pl).1) (star_any (hd pl).2)⟩
  rw [List.lookup_cons] at h
  split at h
  · rename_i hx
    rw [beq_iff_eq] at hx
    subst hx
    cases h
    exact ⟨_, meets_min, fun t p pos e es ha hg pl => pe_callB (call_min2 gd.hc) hg m (by decide +kernel) ha (by decide) (by decide) (star_cons (hd pl).1) (star_any (hd pl).2)⟩
  rw [List.lookup_cons] at h
  split at h
  · rename_i hx
    rw [beq_iff_eq] at hx
    subst hx
    cases h
    exact ⟨_, meets_max, fun t p pos e es ha hg pl => pe_callB (call_max2 gd.hc) hg m (by decide +kernel) ha (by decide) (by decide) (star_cons (hd pl).1) (star_any (hd pl).2)⟩
  rw [List.lookup_cons] at h
  split at h
  · rename_i hx
    rw [beq_iff_eq] at hx
    subst hx
    cases h
    exact ⟨_, meets_int, fun t p pos e es ha hg pl => pe_callTy call_int1 hg m (by decide +kernel) ha (by decide) (by decide) (star_cons (hd pl).1) (star_any (hd pl).2)⟩
  rw [List.lookup_cons] at h
  split at h
  · rename_i hx
    rw [beq_iff_eq] at hx
    subst hx
    cases h
    exact ⟨_, meets_sum, fun t p pos e es ha hg pl => pe_callB (cr_sum gd.hc) hg m (by decide +kernel) ha (by decide) (by decide) (star_cons (hd pl).1) (star_any (hd pl).2)⟩
  rw [List.lookup_cons] at h
  split at h
  · rename_i hx
    rw [beq_iff_eq] at hx
    subst hx
    cases h
    exact ⟨_, meets_sorted, fun t p pos e es ha hg pl => pe_callB cr_sortedI hg m (by decide +kernel) ha (by decide) (by decide) (star_cons (hd pl).1) (star_any (hd pl).2)⟩
  rw [List.lookup_cons] at h
  split at h
  · rename_i hx
    rw [beq_iff_eq] at hx
    subst hx
    cases h
    exact ⟨_, meets_tuple, fun t p pos e es ha hg pl => pe_callTy call_tuple_of hg m (by decide +kernel) ha (by decide) (by decide) (star_cons (hd pl).1) (star_any (hd pl).2)⟩
  rw [List.lookup_cons] at h
  split at h
  · rename_i hx
    rw [beq_iff_eq] at hx
    subst hx
    cases h
    exact ⟨_, meets_list, fun t p pos e es ha hg pl => pe_callTy call_list_of hg m (by decide +kernel) ha (by decide) (by decide) (star_cons (hd pl).1) (star_any (hd pl).2)⟩
  rw [List.lookup_cons] at h
  split at h
  · rename_i hx
    rw [beq_iff_eq] at hx
    subst hx
    cases h
    exact ⟨_, meets_any, fun t p pos e es ha hg pl => pe_callB (cr_any gd.hc) hg m (by decide +kernel) ha (by decide) (by decide) (star_cons (hd pl).1) (star_any (hd pl).2)⟩
  rw [List.lookup_cons] at h
  split at h
  · rename_i hx
    rw [beq_iff_eq] at hx
    subst hx
    cases h
    exact ⟨_, meets_all, fun t p pos e es ha hg pl => pe_callB (cr_all gd.hc) hg m (by decide +kernel) ha (by decide) (by decide) (star_cons (hd pl).1) (star_any (hd pl).2)⟩
  rw [List.lookup_cons] at h
  split at h
  · rename_i hx
    rw [beq_iff_eq] at hx
    subst hx
    cases h
    exact ⟨_, meets_isinst wl, fun t p pos e es ha hg pl => pe_callB cr_isinst hg m (by decide +kernel) ha (by decide) (by decide) (star_cons (hd pl).1) (star_any (hd pl).2)⟩
  rw [List.lookup_cons] at h
  split at h
  · rename_i hx
    rw [beq_iff_eq] at hx
    subst hx
    cases h
    exact ⟨_, meets_repr, fun t p pos e es ha hg pl => pe_callB (cr_repr gd) hg m (by decide +kernel) ha (by decide) (by decide) (star_cons (hd pl).1) (star_any (hd pl).2)⟩
  cases h
end Iv
end
section
set_option Elab.async false
set_option linter.all false
set_option maxRecDepth 100000
set_option maxHeartbeats 2000000
/-! What a place in the text may count on. My own work. -/
namespace Iv
open PySem L2 PySem.Spec PyProof.Rows
open PySem (Str)

/-- names of built-in things that the text must not give anew -/
def biNames : List Str := bfNames.map (·.1) ++ tyNames.map (·.1) ++ [("range" : Str)]
/-- what the lists of global names promise -/
structure GmOk (T : Tx) (Γ : Gm) : Prop where
  con : ∀ x d, Γ.consts.lookup x = some d → (x == ("__debug__" : Str)) = false ∧ ∃ v u, T.mg x = some u ∧ RelV v u ∧ ∀ (Ca : Cn) F ρ H, Rep Ca F ρ H d v
  cls : ∀ x c, Γ.clss.lookup x = some c → (x == ("__debug__" : Str)) = false ∧ T.mg x = some (.ref (T.ca c))
  ins : ∀ c, Γ.insts.contains c = true → ∃ k, T.g.cls[c]? = some k ∧ Mk T.K (T.ca c) (T.fa k.init) ∧ Binds T.K (T.fd k.init) (T.ps k.init) []
  exc : ∀ c, Γ.excs.contains c = true → PySem.W.keepIn T.K (.ref (T.ca c)) = true ∧ (∃ B newId initId bmB, ExcBaseFacts B newId initId bmB ∧ PySem.W.excIn T.K (T.ca c) bmB newId = true) ∧ PySem.W.subIn T.K (.ref (T.ca c)) (.type "BaseException") = some true ∧ PySem.W.typeIn T.K (.ref (T.ca c)) = some (.type "type") ∧
    ∀ d k, T.g.cls[d]? = some k → PySem.W.exmOne T.K (.ref (T.ca d)) (.ref (T.ca c)) = some (k.subs.contains c)
  fn : ∀ x f ps, Γ.fns.lookup x = some (f, ps) → (x == ("__debug__" : Str)) = false ∧ T.mg x = some (.ref (T.fa f)) ∧ PySem.W.keepIn T.K (.ref (T.fa f)) = true ∧ ps = T.ps f ∧ Binds T.K (T.fd f) (T.ps f) []
  kw : ∀ p ∈ Γ.kws, KB T.K (T.fd p.1) (T.ps p.1) p.2.1 p.2.2
  bi : ∀ x ∈ biNames, T.mg x = none
theorem GmOk.blk {T : Tx} {Γ : Gm} {scope : Scope} (h : GmOk T Γ) : GmOk T (blkΓ Γ scope) := ⟨h.con, h.cls, h.ins, h.exc, h.fn, h.kw, h.bi⟩
theorem GmOk.lam {T : Tx} {Γ : Gm} {scope : Scope} (h : GmOk T Γ) : GmOk T (lamΓ Γ scope) := ⟨h.con, h.cls, h.ins, h.exc, h.fn, h.kw, h.bi⟩
abbrev noArgs : Arguments := ⟨[], [], none, [], [], none, []⟩
/-- a context of the text -/
structure Fit (T : Tx) (cl : Callee) (X : Cx) (Ca : Cn) (W : WX) (lv : Nat) (Γ : Gm) : Prop where
  c : CallOk T X Ca W (lv + 1)
  N : X.N = Γ.N
  sc : X.env.scope = Γ.sc
  kd : Γ.sc.kind = .function
  gm : GmOk T Γ
  wl : ∀ Cb : Cn, Cb.ca = T.ca → Wld T.K Cb T.g
  nn : ∀ x ∈ Γ.N, (x == ("__debug__" : Str)) = false ∧ (x == ("__classdict__" : Str)) = false
  hf : ∀ f, Fns T lv (T.fa f) (T.fd f) (T.ps f) (cl (.inl f))
  hl : ∀ l, Lms T lv l (cl (.inr l))
  lam : Γ.lam = true → X.env.qual = Γ.qual ∧ (∃ P, X.env.code = .ref (T.tc P) ∧ (P, Γ.qual ++ "<lambda>") ∈ T.tabs ∧ ∀ p ∈ T.tabs, p.1 = P → p.2 = Γ.qual ++ "<lambda>") ∧
    ∀ (sc : Scope) (cs : List Nat) (body : Expr) (n : Nat) (e : Ex), lamC Γ.sc sc = true → (caught sc).mapM (fun y => idx y Γ.N) = some cs → compE n (lamΓ Γ sc) false body = some e →
      Ca.own ⟨Γ.qual ++ "<lambda>", caught sc, cs, e⟩ (cloFrom X.env.cells sc.names []) ∧ T.lfit ⟨Γ.qual ++ "<lambda>", caught sc, cs, e⟩ noArgs body sc ∧ ∀ y ∈ sc.names, y.2 = .free → ∃ c, X.env.cells.lookup y.1 = some c
section
variable {T : Tx} {cl : Callee} {X : Cx} {Ca : Cn} {W : WX} {lv : Nat} {Γ : Gm}
theorem Fit.ca (f : Fit T cl X Ca W lv Γ) : Ca.ca = T.ca := f.c.cn.al.ca
theorem Fit.wld (f : Fit T cl X Ca W lv Γ) : Wld X.K Ca T.g := by rw [f.c.cn.K]; exact f.wl _ f.ca
theorem idx_at {x : Str} : ∀ {N : List Str} {i : Nat}, idx x N = some i → N[i]? = some x
  | [], i, h => by simp [idx] at h
  | y :: r, i, h => by
    unfold idx at h
    split at h
    · rename_i e
      cases h
      rw [e]; rfl
    · obtain ⟨j, h1, h2⟩ := Option.map_eq_some_iff.mp h
      subst h2
      rw [List.getElem?_cons_succ]
      exact idx_at h1
theorem Fit.vis (f : Fit T cl X Ca W lv Γ) {x : Str} (h : isLoc Γ.sc x = true) : Vis X.env.scope x := by
  rw [f.sc]
  unfold isLoc at h
  unfold Vis
  split at h <;> first | (rename_i e; simp [e]; done) | cases h
theorem Fit.var (f : Fit T cl X Ca W lv Γ) {x : Str} {i : Nat} {p : Pos} (h : isLoc Γ.sc x = true) (hi : idx x Γ.N = some i) : PE X (.Name x p) (tVar i) := by
  have hN := idx_at hi
  obtain ⟨n1, n2⟩ := f.nn x (List.mem_of_getElem? hN)
  exact pe_var (by rw [f.N]; exact hN) (f.vis h) n1 n2
theorem Fit.gl (f : Fit T cl X Ca W lv Γ) {x : Str} (h : isGlo Γ.sc x = true) : Gl X x := by
  unfold Gl Env.kindOf
  rw [f.sc]
  unfold isGlo at h
  split at h <;> first | assumption | cases h
theorem Fit.mg (f : Fit T cl X Ca W lv Γ) (x : Str) : X.mg x = T.mg x := by rw [f.c.cn.mg]
theorem Fit.bi (f : Fit T cl X Ca W lv Γ) {x : Str} (h : x ∈ biNames) : X.mg x = none := by rw [f.mg]; exact f.gm.bi x h
/-- the block of a comprehension -/
theorem Fit.blk (f : Fit T cl X Ca W lv Γ) {s : Shared} {H : Hp} {C : Addr} {cs : List (Str × Addr)} {fp : List Addr} {scope : Scope} {Cb : Cn} (kd : scope.kind = .function) (cn : CnOk T (X.blk s H scope (compEnvC scope cs C X.env) fp) Cb) :
    Fit T cl (X.blk s H scope (compEnvC scope cs C X.env) fp) Cb (fun _ _ _ _ => False) lv (blkΓ Γ scope) := by
  refine ⟨⟨⟨f.c.gd.hc, LamX.takes0, f.c.gd.nd, f.c.gd.un, f.c.gd.gu⟩, cn, f.c.bo, f.c.room⟩, f.N, ?_, ?_, f.gm.blk, f.wl, f.nn, f.hf, f.hl, fun h => by cases h⟩
  · have e : (compEnvC scope cs C X.env).scope = inner scope X.env.scope := rfl
    show (compEnvC scope cs C X.env).scope = inner scope Γ.sc
    rw [e, f.sc]
  · exact kd
end
theorem lkC {x : Str} {k : NameKind} {sc scope : Scope} (n1 : k ≠ .free) (h : scope.names.lookup x = some k) : (inner scope sc).names.lookup x = some k := by
  unfold inner
  dsimp only
  revert h
  generalize scope.names = l
  induction l with
  | nil => intro h; simp at h
  | cons p r ih =>
    obtain ⟨n, q⟩ := p
    intro h
    rw [List.lookup_cons] at h
    rw [List.map_cons]
    by_cases e : x == n
    · simp only [e] at h
      cases h
      dsimp only
      have nf : (k == NameKind.free) = false := by cases k <;> first | rfl | exact absurd rfl n1
      rw [nf]
      simp [List.lookup_cons, e]
    · simp only [Bool.not_eq_true] at e
      simp only [e] at h
      dsimp only
      split <;> (rw [List.lookup_cons]; simp only [e]; exact ih h)
theorem blkC_ok {N : List Str} {sc scope : Scope} {own : List (Str × Nat)} (h : blkC N sc scope own = true) : BlkOk N sc scope own ∧ scope.kind = .function ∧ ∀ p ∈ own, scope.names.lookup p.1 = some .local ∨ scope.names.lookup p.1 = some .cell := by
  unfold blkC at h
  simp only [Bool.and_eq_true, List.all_eq_true, decide_eq_true_eq] at h
  obtain ⟨⟨⟨⟨h1, h2⟩, h3⟩, h5⟩, h4⟩ := h
  have kd : scope.kind = .function := by
    revert h1
    cases scope.kind <;> first | (intro _; rfl) | (intro h; cases h)
  refine ⟨⟨kd, h2, h3, fun y hy e => ?_, fun y hy e => ?_⟩, kd, fun p hp => ?_⟩
  · have q := h4 y hy
    simp only [e] at q
    split at q <;> first | exact .inl (by assumption) | exact .inr (by assumption) | cases q
  · have q := h4 y hy
    rcases e with e | e <;> (simp only [e, Bool.or_eq_true, decide_eq_true_eq] at q; exact q)
  · have q := h5 p hp
    split at q <;> first | exact .inl (by assumption) | exact .inr (by assumption) | cases q
/-- a comprehension's own name, stored in its block -/
theorem pg_own {X : Cx} {s : Shared} {H : Hp} {C : Addr} {cs : List (Str × Addr)} {fp : List Addr} {scope : Scope} {x : Str} {i : Nat} {p : Pos} (nd : X.N.Nodup) (hi : X.N[i]? = some x) (h : scope.names.lookup x = some .local ∨ scope.names.lookup x = some .cell) :
    PG (X.blk s H scope (compEnvC scope cs C X.env) fp) (.Name x p) (gName i) := by
  have l1 : ∀ k, k ≠ NameKind.free → scope.names.lookup x = some k → (X.blk s H scope (compEnvC scope cs C X.env) fp).env.scope.names.lookup x = some k := fun k n e => lkC (sc := X.env.scope) n e
  refine pg_name nd hi ?_ ?_
  · rcases h with h | h
    · exact .inl (l1 _ (by decide) h)
    · exact .inr (l1 _ (by decide) h)
  · rcases h with h | h
    · exact .inr (l1 _ (by decide) h)
    · left
      show (scope.names.lookup x == some NameKind.cell) = true
      rw [h]; rfl
end Iv
end
section
set_option Elab.async false
set_option linter.all false
set_option maxRecDepth 100000
set_option maxHeartbeats 2000000
/-! One rule a construct, in the evaluator's words. My own work. -/
namespace Iv
open PySem L2 PySem.Spec PyProof.Rows
open PySem (Str)

section
variable {T : Tx} {cl : Callee} {X : Cx} {Ca : Cn} {W : WX} {lv n : Nat} {Γ : Gm} {mv : Bool} {a b c e : Expr} {xa xb xc x : Ex} {es : List Expr} {xs : Exs} {pos p p2 : Pos}
theorem ph_of (f : Fit T cl X Ca W lv Γ) (h : compE n Γ mv a = some xa) (ha : PEv X Ca W a (evE T.g cl xa)) : PHv X Ca W a (hEv xa (evE T.g cl xa)) :=
  sd_hev ha fun i hi => by
    obtain ⟨v, p, rfl, hl, hx⟩ := var_of h hi
    exact ⟨v, p, rfl, f.var hl hx⟩
/-! ### constants, names -/
theorem r_con {k : Const} {j : Nat} (h : (conOf k).map Ex.con = some x) : PEv X Ca W (.Constant k j pos) (evE T.g cl x) := by
  obtain ⟨d, hd, rfl⟩ := Option.map_eq_some_iff.mp h
  cases k <;> simp only [conOf, reduceCtorEq, Option.some.injEq] at hd <;> subst hd
  · exact (sd_con pe_non fun _ _ _ => by simp only [Rep]).eq fun s => rfl
  · exact (sd_con pe_bl fun _ _ _ => by simp only [Rep]).eq fun s => rfl
  · exact (sd_con pe_int fun _ _ _ => by simp only [Rep]).eq fun s => rfl
  · exact (sd_con pe_str fun _ _ _ => by simp only [Rep]).eq fun s => rfl
theorem ty_boot {y : Str} {t : String} (h : tyNames.lookup y = some t) : y ∈ biNames ∧ bootBuiltins y = some (.type t) ∧ y ≠ "__name__" ∧ (y == ("__debug__" : Str)) = false := by
  unfold tyNames at h
  iterate 7
    rw [List.lookup_cons] at h
    split at h
    · rename_i hx
      rw [beq_iff_eq] at hx
      subst hx
      cases h
      exact ⟨by decide, by decide +kernel, by decide, by decide⟩
  cases h
theorem r_name {y : Str} (f : Fit T cl X Ca W lv Γ) (h : (if isLoc Γ.sc y then (idx y Γ.N).map fun i => Ex.var mv i else if isGlo Γ.sc y then (Γ.global y).map Ex.con else none) = some x) : PEv X Ca W (.Name y pos) (evE T.g cl x) := by
  split at h
  · rename_i hl
    obtain ⟨i, hi, rfl⟩ := Option.map_eq_some_iff.mp h
    exact (sd_var (mv := mv) (f.var hl hi)).eq fun s => rfl
  · split at h
    · rename_i hg
      obtain ⟨d, hd, rfl⟩ := Option.map_eq_some_iff.mp h
      unfold Gm.global at hd
      split at hd
      · rename_i d' hc
        cases hd
        obtain ⟨n1, v, u, m, r, rp⟩ := f.gm.con y d hc
        exact (sd_con (pe_glob (f.gl hg) (by rw [f.mg]; exact m) r n1) fun F ρ H => rp Ca F ρ H).eq fun s => rfl
      · split at hd
        · rename_i k hc
          cases hd
          obtain ⟨n1, m⟩ := f.gm.cls y k hc
          exact (sd_con (v := .ref (Ca k)) (pe_glob (f.gl hg) (by rw [f.mg]; exact m) (by rw [f.ca]; rfl) n1) fun F ρ H => by simp only [Rep]).eq fun s => rfl
        · obtain ⟨t, ht, rfl⟩ := Option.map_eq_some_iff.mp hd
          obtain ⟨m, hb, n1, n2⟩ := ty_boot ht
          exact (sd_con (v := .ty t) (pe_bltn (f.gl hg) (f.bi m) hb rfl n1 n2) fun F ρ H => by simp only [Rep]).eq fun s => rfl
    · cases h
/-! ### operators -/
theorem op_none {op : Operator} : OpR X (binaryOp op) (fun _ _ _ _ => False) := fun _ _ _ _ _ _ _ _ _ _ _ _ h => h.elim
theorem bin_op {op : Operator} {o : Op} (h : opOf op = some o) : ∃ r, OpR X (binaryOp op) r ∧ Meets2 Ca W (opB o) r := by
  cases op with
  | Add => cases h; exact ⟨_, op_add', meets_add⟩
  | Sub => cases h; exact ⟨_, op_sub, meets_sub⟩
  | Mult => cases h; exact ⟨_, op_mul', meets_mul⟩
  | FloorDiv => cases h; exact ⟨_, op_fdivN, meets_div⟩
  | Mod => cases h; exact ⟨_, op_modN, meets_mod⟩
  | Pow => cases h; exact ⟨_, op_pow, meets_pow⟩
  | LShift => cases h; exact ⟨_, op_none, fun Pr F ρ s σ H x y v u z Q S rx ry e q => by simp [opB] at e⟩
  | RShift => cases h; exact ⟨_, op_none, fun Pr F ρ s σ H x y v u z Q S rx ry e q => by simp [opB] at e⟩
  | BitAnd => cases h; exact ⟨_, op_none, fun Pr F ρ s σ H x y v u z Q S rx ry e q => by simp [opB] at e⟩
  | BitOr => cases h; exact ⟨_, op_none, fun Pr F ρ s σ H x y v u z Q S rx ry e q => by simp [opB] at e⟩
  | _ => cases h
theorem r_bin {op : Operator} {o : Op} (h : opOf op = some o) (ha : PEv X Ca W a (evE T.g cl xa)) (hb : PEv X Ca W b (evE T.g cl xb)) : PEv X Ca W (.BinOp a op b pos) (evE T.g cl (.bin o xa xb)) := by
  obtain ⟨r, h1, h2⟩ := bin_op (X := X) (Ca := Ca) (W := W) h
  exact (sd_bin h1 h2 ha hb).eq fun s => by rw [evE]; first | done | rfl
theorem r_neg (ha : PEv X Ca W a (evE T.g cl xa)) : PEv X Ca W (.UnaryOp .USub a pos) (evE T.g cl (.neg xa)) := (sd_neg ha).eq fun s => by rw [evE]; first | done | rfl
theorem ev_tru (s : S) : evT T.g cl (.tru xa) s = (hEv xa (evE T.g cl xa) s).bind fun h s => Res.of ((s.cont h).bind truth) s := by
  rw [evT, hEv]; first | done | rfl
theorem r_not (ha : PHv X Ca W a (hEv xa (evE T.g cl xa))) : PEv X Ca W (.UnaryOp .Not a pos) (evE T.g cl (.not (.tru xa))) := (sd_notV ha).eq fun s => by
  rw [evE, ev_tru]
theorem cmp_op (gd : Gd X W) (op : CmpOp) : ∃ r, OpR X (compareOp op) r ∧ MeetsC Ca (cpOf op) r := by
  cases op
  · exact ⟨_, op_eq' gd, meets_eq⟩
  · exact ⟨_, op_ne' gd, meets_ne⟩
  · exact ⟨_, op_lt, meets_ord (by decide) (by decide) ord_lt⟩
  · exact ⟨_, op_le, meets_ord (by decide) (by decide) ord_le⟩
  · exact ⟨_, op_gt, meets_ord (by decide) (by decide) ord_gt⟩
  · exact ⟨_, op_ge, meets_ord (by decide) (by decide) ord_ge⟩
  · exact ⟨_, op_isN, meets_is⟩
  · exact ⟨_, op_notN, meets_isNot⟩
  · exact ⟨_, op_in' gd, meets_in⟩
  · exact ⟨_, op_notIn' gd, meets_notIn⟩
theorem ev_cmp (op : Cp) (s : S) : evE T.g cl (.cmp op xa xb) s = (hEv xa (evE T.g cl xa) s).bind fun x s => (hEv xb (evE T.g cl xb) s).bind fun y s => (Res.of (cmpF op x y s) s).bind fun k s => .ok (false, .bl k) s := by
  have gen : ∀ (o1 o2 : Option D) (op : Cp) (s : S), Res.of (o1.bind fun u => o2.bind fun v => (opC op u v).map fun b => (false, D.bl b)) s = (Res.of (o1.bind fun u => o2.bind fun v => opC op u v) s).bind fun k s => .ok (false, .bl k) s := fun o1 o2 op s => by
    cases o1 with
    | none => rfl
    | some u =>
      cases o2 with
      | none => rfl
      | some v =>
        show Res.of ((opC op u v).map _) s = (Res.of (opC op u v) s).bind _
        cases opC op u v <;> rfl
  rw [evE]
  show Res.bind (hEv xa (evE T.g cl xa) s) _ = Res.bind _ _
  congr 1
  funext x s
  show Res.bind (hEv xb (evE T.g cl xb) s) _ = Res.bind _ _
  congr 1
  funext y s
  unfold cmpF
  cases op <;> exact gen _ _ _ s
theorem marks {op : CmpOp} (h : compE n Γ mv b = some xb) : behindInMarks op b = false := by
  cases n with
  | zero => unfold compE at h; cases h
  | succ n => cases b <;> first | rfl | (unfold compE at h; simp at h)
theorem r_cmp {op : CmpOp} (f : Fit T cl X Ca W lv Γ) (hm : compE n Γ mv b = some xb) (ha : PHv X Ca W a (hEv xa (evE T.g cl xa))) (hb : PHv X Ca W b (hEv xb (evE T.g cl xb))) : PEv X Ca W (.Compare a [op] [b] pos) (evE T.g cl (.cmp (cpOf op) xa xb)) := by
  obtain ⟨r, h1, h2⟩ := cmp_op (Ca := Ca) f.c.gd op
  exact (sd_cmp h1 h2 ha hb (marks hm)).eq fun s => ev_cmp _ s
/-- the truth of what tells a bool -/
theorem tru_bool {m : S → Res Bool} (hx : asVar x = none) (h : ∀ s, evE T.g cl x s = (m s).bind fun k s => .ok (false, .bl k) s) (s : S) : evT T.g cl (.tru x) s = m s := by
  rw [ev_tru]
  unfold hEv
  rw [hx]
  dsimp only
  rw [h s]
  cases m s with
  | ok k s' => rfl
  | ex c s' => rfl
  | no => rfl
theorem r_cmpT {op : CmpOp} (f : Fit T cl X Ca W lv Γ) (hm : compE n Γ mv b = some xb) (ha : PHv X Ca W a (hEv xa (evE T.g cl xa))) (hb : PHv X Ca W b (hEv xb (evE T.g cl xb))) : PTv X Ca W (.Compare a [op] [b] pos) (evT T.g cl (.tru (.cmp (cpOf op) xa xb))) := by
  obtain ⟨r, h1, h2⟩ := cmp_op (Ca := Ca) f.c.gd op
  refine (sd_cmpT h1 h2 ha hb (marks hm)).eq fun s => tru_bool (m := fun s => (hEv xa (evE T.g cl xa) s).bind fun x s => (hEv xb (evE T.g cl xb) s).bind fun y s => (Res.of (cmpF (cpOf op) x y s) s).bind fun k s => .ok k s) rfl (fun s => ?_) s
  rw [ev_cmp]
  rw [Res.assoc]
  congr 1
  funext x s
  rw [Res.assoc]
  congr 1
  funext y s
  cases Res.of (cmpF (cpOf op) x y s) s <;> rfl
theorem r_chain {q : CmpOp} {op : CmpOp} (f : Fit T cl X Ca W lv Γ) (hm : compE n Γ mv c = some xc) (ha : PEv X Ca W a (evE T.g cl xa)) (hb : PEv X Ca W b (evE T.g cl xb)) (hc : PEv X Ca W c (evE T.g cl xc)) : PEv X Ca W (.Compare a [op, q] [b, c] pos) (evE T.g cl (.chain (cpOf op) (cpOf q) xa xb xc)) := by
  obtain ⟨r, h1, h2⟩ := cmp_op (Ca := Ca) f.c.gd op
  obtain ⟨r', h3, h4⟩ := cmp_op (Ca := Ca) f.c.gd q
  exact (sd_chain h1 h3 h2 h4 ha hb hc (show behindInMarks q c = false from marks hm)).eq fun s => by rw [evE]; first | done | rfl
theorem r_chainT {q : CmpOp} {op : CmpOp} (f : Fit T cl X Ca W lv Γ) (hm : compE n Γ mv c = some xc) (ha : PEv X Ca W a (evE T.g cl xa)) (hb : PEv X Ca W b (evE T.g cl xb)) (hc : PEv X Ca W c (evE T.g cl xc)) : PTv X Ca W (.Compare a [op, q] [b, c] pos) (evT T.g cl (.tru (.chain (cpOf op) (cpOf q) xa xb xc))) := by
  obtain ⟨r, h1, h2⟩ := cmp_op (Ca := Ca) f.c.gd op
  obtain ⟨r', h3, h4⟩ := cmp_op (Ca := Ca) f.c.gd q
  have cf : ∀ (op : Cp) (x y : D) (s : Iv.S), cmpF op (.val x) (.val y) s = opC op x y := fun op x y s => by
    unfold cmpF
    cases op <;> rfl
  let m : S → Res Bool := fun s => (evE T.g cl xa s).bind fun x s => (evE T.g cl xb s).bind fun y s => (Res.of (opC (cpOf op) x.2 y.2) s).bind fun t s =>
      if t then (evE T.g cl xc s).bind fun z s => (Res.of (opC (cpOf q) y.2 z.2) s).bind fun t s => .ok t s else .ok false s
  have em : ∀ s, evE T.g cl (.chain (cpOf op) (cpOf q) xa xb xc) s = (m s).bind fun k s => .ok (false, .bl k) s := fun s => by
    show _ = (Res.bind (Res.bind _ _) _)
    rw [evE]
    show _ = Res.bind (Res.bind _ _) _
    rw [Res.assoc]; congr 1; funext x s
    rw [Res.assoc]; congr 1; funext y s
    rw [Res.assoc]; congr 1; funext t s
    cases t
    · rfl
    · show Res.bind _ _ = Res.bind (Res.bind _ _) _
      rw [Res.assoc]; congr 1; funext z s
      cases Res.of (opC (cpOf q) y.2 z.2) s <;> rfl
  refine PTv.eq (f := m) ?_ fun s => tru_bool rfl em s
  refine PT.imp (pt_chain h1 h3 ha hb hc (show behindInMarks q c = false from marks hm)) fun σ H Q ⟨Pr, F, ρ, s, S, q0⟩ => ?_
  refine ⟨Pr, F, ρ, s, S, (Ans.bind (Rl := RV Ca Pr σ) q0).mono ?_⟩
  rintro v H1 ⟨x, s1, F1, ρ1, g, S1, t, q1⟩
  obtain ⟨F2, g2, S2, rx⟩ := S1.freeze t
  refine ⟨Pr, F2, ρ1, s1, S2, (Ans.bind (Rl := RV Ca Pr σ) (q1.start g2)).mono ?_⟩
  rintro u H2 ⟨y, s2, F3, ρ2, g3, S3, t2, q2⟩
  obtain ⟨F4, g4, S4, ry⟩ := S3.freeze t2
  have q3 := q2.start g4
  cases e : opC (cpOf op) x.2 y.2 with
  | none => rw [e] at q3; exact q3.elim
  | some k =>
    rw [e] at q3
    refine h2 Pr F4 ρ2 s2 σ H2 (.val x.2) (.val y.2) v u k _ S4 (Rep.mono (g3.trans g4) _ _ rx) ry (by rw [cf]; exact e) ⟨k, rfl, ?_⟩
    have q4 : Ans Ca W Pr σ (RB Pr σ) F4 ρ2 H2 (if k then (evE T.g cl xc s2).bind fun z s => (Res.of (opC (cpOf q) y.2 z.2) s).bind fun t s => .ok t s else .ok false s2) Q := q3
    cases k with
    | false => exact ⟨false, rfl, q4.fin S4 rfl⟩
    | true =>
      rw [if_pos rfl]
      rw [if_pos rfl] at q4
      refine ⟨Pr, F4, ρ2, s2, S4, (Ans.bind (Rl := RV Ca Pr σ) q4).mono ?_⟩
      rintro w H3 ⟨z, s3, F5, ρ3, g5, S5, t3, q5⟩
      obtain ⟨F6, g6, S6, rz⟩ := S5.freeze t3
      have q6 := q5.start g6
      cases e2 : opC (cpOf q) y.2 z.2 with
      | none => rw [e2] at q6; exact q6.elim
      | some k2 =>
        rw [e2] at q6
        exact h4 Pr F6 ρ3 s3 σ H3 (.val y.2) (.val z.2) u w k2 _ S6 (Rep.mono (g5.trans g6) _ _ ry) rz (by rw [cf]; exact e2) ⟨k2, rfl, q6.fin S6 rfl⟩
/-! ### and, or -/
theorem r_and {rest : List Expr} (ha : PEv X Ca W a (evE T.g cl xa)) (hb : PEv X Ca W (.BoolOp .And (b :: rest) pos) (evE T.g cl xb)) : PEv X Ca W (.BoolOp .And (a :: b :: rest) pos) (evE T.g cl (.and xa xb)) := (sd_andV (p2 := pos) ha hb).eq fun s => by rw [evE]; first | done | rfl
theorem r_or {rest : List Expr} (ha : PEv X Ca W a (evE T.g cl xa)) (hb : PEv X Ca W (.BoolOp .Or (b :: rest) pos) (evE T.g cl xb)) : PEv X Ca W (.BoolOp .Or (a :: b :: rest) pos) (evE T.g cl (.or xa xb)) := (sd_orV (p2 := pos) ha hb).eq fun s => by rw [evE]; first | done | rfl
theorem r_ife (hc : PTv X Ca W c (evT T.g cl xc)) (ha : PEv X Ca W a (evE T.g cl xa)) (hb : PEv X Ca W b (evE T.g cl xb)) : PEv X Ca W (.IfExp c a b pos) (evE T.g cl (.ife xc xa xb)) := (sd_ife hc ha hb).eq fun s => by rw [evE]; first | done | rfl
/-! ### displays -/
theorem r_lst (h : PAv X Ca W es (evEs T.g cl xs)) : PEv X Ca W (.List es pos) (evE T.g cl (.lst xs)) := (sd_lst h).eq fun s => by rw [evE]; first | done | rfl
theorem r_tup {k : Nat} (h : PAv X Ca W es (evEs T.g cl xs)) : PEv X Ca W (.Tuple es k pos) (evE T.g cl (.tup xs)) := (sd_tup h).eq fun s => by rw [evE]; first | done | rfl
theorem r_dn {t : Bool} : PEv X Ca W (.Dict [] [] pos) (evE T.g cl (.dn t)) := (sd_dn (t := t)).eq fun s => by rw [evE]; first | done | rfl
theorem r_sub (f : Fit T cl X Ca W lv Γ) (hp : plainX b = true) (ha : PHv X Ca W a (hEv xa (evE T.g cl xa))) (hb : PEv X Ca W b (evE T.g cl xb)) : PEv X Ca W (.Subscript a b pos) (evE T.g cl (.sub xa xb)) := (sd_sub f.c.gd hp ha hb).eq fun s => by rw [evE, hEv]; first | done | rfl
/-- a slice's part -/
def evP (g : G) (cl : Callee) (x : Ex) (s : S) : Res (Option Int) := if x.isSkip then (Res.ok none s : Res (Option Int)) else (evE g cl x s).bind fun x s => match x.2 with | .int i => .ok (some i) s | _ => .no
theorem r_slc {lo hi : Option Expr} (ha : PHv X Ca W a (hEv xa (evE T.g cl xa))) (hl : POv X Ca W lo (evP T.g cl xb)) (hh : POv X Ca W hi (evP T.g cl xc)) : PEv X Ca W (.Subscript a (.Slice lo hi none p2) pos) (evE T.g cl (.slc xa xb xc)) := (sd_slc ha hl hh).eq fun s => by
  rw [evE, hEv]
  rfl
theorem r_fld {y : Str} (f : Fit T cl X Ca W lv Γ) (hb : baseOk a = true) (ha : PEv X Ca W a (evE T.g cl xa)) : PEv X Ca W (.Attribute a y pos) (evE T.g cl (.fld xa y)) := (sd_fld (g := T.g) f.wld.fld ha (base_of hb)).eq fun s => by rw [evE]; first | done | rfl
/-! ### comprehensions -/
theorem ev_lc {i : Nat} {k : IK} {it : Exs} (s : S) : evE T.g cl (.lc [i] k it i xc x) s = lcF i (fun s => (evEs T.g cl it s).bind fun xs s => Res.of (items k xs) s) (evT T.g cl xc) (evE T.g cl x) s := by
  rw [evE, lcF]
  rw [Res.assoc]
  congr 1
  funext xs s
  congr 1
  funext l s
  exact lc_formL _ s [i]
theorem ev_lc2 {i j : Nat} {k k1 : IK} {it it1 : Exs} (s : S) : evE T.g cl (.lc2 [i, j] k it i [j] k1 it1 j xc x) s = lc2F i j (fun s => (evEs T.g cl it s).bind fun xs s => Res.of (items k xs) s) (fun s => (evEs T.g cl it1 s).bind fun xs s => Res.of (items k1 xs) s) (evT T.g cl xc) (evE T.g cl x) s := by
  rw [evE, lc2F]
  rw [Res.assoc]
  congr 1
  funext xs s
  congr 1
  funext l s
  rw [← lc_formL]
  simp only [Res.assoc]
  rfl
theorem set_none {e : Expr} (h : notSet e = true) : ∀ (env : Env) (x : Value), foldedSetIterable e env x = pure x := fun env x => by
  cases e <;> first | rfl | cases h
/-! ### calls -/
theorem r_bcall {y : Str} {b : BF} (f : Fit T cl X Ca W lv Γ) (hg : isGlo Γ.sc y = true) (h : bfNames.lookup y = some b) (hp : plainXs (e :: es) = true) (ha : PHs X Ca W (e :: es) (evHs T.g cl xs)) : PEv X Ca W (.Call (.Name y p) (e :: es) [] pos) (evE T.g cl (.bcall b xs)) := by
  have hm : y ∈ biNames := by
    unfold biNames
    exact List.mem_append_left _ (List.mem_append_left _ (List.mem_map.mpr ⟨(y, b), PySem.mem_of_lookup h, rfl⟩))
  obtain ⟨r, m, q⟩ := bcall_ok (W := W) f.c.gd f.wld h (f.bi hm)
  exact (sd_bcall ha (fun t h => q t p pos e es h (f.gl hg) hp) m).eq fun s => by rw [evE]; first | done | rfl
theorem r_call {y : Str} {k : Nat} {ps : List Str} (f : Fit T cl X Ca W lv Γ) (hg : isGlo Γ.sc y = true) (h : Γ.fns.lookup y = some (k, ps)) (hp : plainXs (e :: es) = true) (ha : PAv X Ca W (e :: es) (evEs T.g cl xs)) : PEv X Ca W (.Call (.Name y p) (e :: es) [] pos) (evE T.g cl (.call k xs)) := by
  obtain ⟨n1, m, kp, rfl, bd⟩ := f.gm.fn y k ps h
  have cn := f.c.cn
  have bd : Binds X.K (T.fd k) (T.ps k) [] := by rw [cn.K]; exact bd
  have kp : PySem.W.keepIn X.K (.ref (T.fa k)) = true := by rw [cn.K]; exact kp
  exact (sd_call (f.c.mono (Nat.le_succ _)) (f.hf k) (f.gl hg) (by rw [f.mg]; exact m) kp bd hp n1 ha).eq fun s => by rw [evE]; first | done | rfl
theorem r_call0 {y : Str} {k : Nat} {ps : List Str} (f : Fit T cl X Ca W lv Γ) (hg : isGlo Γ.sc y = true) (h : Γ.fns.lookup y = some (k, ps)) : PEv X Ca W (.Call (.Name y p) [] [] pos) (evE T.g cl (.call k .nil)) := by
  obtain ⟨n1, m, kp, rfl, bd⟩ := f.gm.fn y k ps h
  have cn := f.c.cn
  have bd : Binds X.K (T.fd k) (T.ps k) [] := by rw [cn.K]; exact bd
  have kp : PySem.W.keepIn X.K (.ref (T.fa k)) = true := by rw [cn.K]; exact kp
  exact (sd_call0 (f.c.mono (Nat.le_succ _)) (f.hf k) (f.gl hg) (by rw [f.mg]; exact m) kp bd n1).eq fun s => by rw [evE, evEs]; rfl
theorem r_make {y : Str} {k : Nat} (f : Fit T cl X Ca W lv Γ) (hg : isGlo Γ.sc y = true) (h : Γ.clss.lookup y = some k) (hi : Γ.insts.contains k = true) (hp : plainXs (e :: es) = true) (ha : PAv X Ca W (e :: es) (evEs T.g cl xs)) : PEv X Ca W (.Call (.Name y p) (e :: es) [] pos) (evE T.g cl (.make k xs)) := by
  obtain ⟨n1, m⟩ := f.gm.cls y k h
  obtain ⟨kc, hk, mk, bd⟩ := f.gm.ins k hi
  have cn := f.c.cn
  have mo : MkOk T X Ca lv k (T.fa kc.init) (T.fd kc.init) (T.ps kc.init) (cl (.inl kc.init)) := ⟨by rw [cn.K, f.ca]; exact mk, f.hf _, by rw [cn.K]; exact bd⟩
  exact (sd_make f.c mo cl (fun k' hk' xs μ => by rw [hk] at hk'; cases hk'; rfl) ⟨kc, hk⟩ (f.gl hg) (by rw [f.mg, m, f.ca]) hp n1 ha).eq fun s => by rw [evE]; first | done | rfl
theorem r_app {y : Str} {i : Nat} (f : Fit T cl X Ca W lv Γ) (hl : isLoc Γ.sc y = true) (hi : idx y Γ.N = some i) : PEv X Ca W (.Call (.Name y p) [] [] pos) (evE T.g cl (.app i .nil)) :=
  sd_app (f.c.mono (Nat.le_succ _)) f.hl (f.var hl hi)
end
end Iv
end
section
set_option Elab.async false
set_option linter.all false
set_option maxRecDepth 100000
set_option maxHeartbeats 2000000
/-! More rules in the evaluator's words. My own work. -/
namespace Iv
open PySem L2 PySem.Spec PyProof.Rows
open PySem (Str)

section
variable {T : Tx} {cl : Callee} {X : Cx} {Ca : Cn} {W : WX} {lv n : Nat} {Γ : Gm} {mv : Bool} {a b c e : Expr} {xa xb xc x : Ex} {es : List Expr} {xs : Exs} {pos p p2 : Pos}
theorem pas_eq {f g : S → Res (List D)} (h : PAv X Ca W es f) (k : ∀ s, g s = f s) : PAv X Ca W es g := by
  have : g = f := funext k
  rw [this]; exact h
theorem r_callK {y : Str} {k : Nat} {ps ks : List Str} {kws : List Keyword} {ord : List Nat} (f : Fit T cl X Ca W lv Γ) (hg : isGlo Γ.sc y = true) (h : Γ.fns.lookup y = some (k, ps)) (hk : kwNames kws = some (ks, es)) (hc : compEs n Γ mv es = some xs) (ho : ps.mapM (fun p => idx p ks) = some ord) (hl : (k, ks, ord) ∈ Γ.kws)
    (ha : PKv X Ca W kws (evEs T.g cl xs)) : PEv X Ca W (.Call (.Name y p) [] kws pos) (evE T.g cl (.callK k ord xs)) := by
  obtain ⟨n1, m, kp, rfl, bd⟩ := f.gm.fn y k ps h
  have cn := f.c.cn
  have kp : PySem.W.keepIn X.K (.ref (T.fa k)) = true := by rw [cn.K]; exact kp
  obtain ⟨q1, q2, q3, q4⟩ := kw_all (pos := pos) (env := X.env) hk
  refine (sd_callK (f.c.mono (Nat.le_succ _)) (f.hf k) (f.gl hg) (by rw [f.mg]; exact m) kp (by rw [cn.K]; exact f.gm.kw _ hl) n1 ha (fun s ys s' e => ?_) q1 q2 ?_).eq fun s => rfl
  · rw [evEs_len e, compEs_len hc, q4]
  · show (false || _) = false
    rw [q3]; rfl
theorem ev_bm {m : BM} {as : Exs} (s : S) : evE T.g cl (.bm m xa as) s = bmRun m (hEv xa (evE T.g cl xa)) (evEs T.g cl as) s := rfl
theorem r_append {apos : Pos} (hb : baseOk a = true) (hl : (apos.endLine == pos.line) = true) (hp : plainXs [e] = true) (ho : PHv X Ca W a (hEv xa (evE T.g cl xa))) (ha : PAv X Ca W [e] (evEs T.g cl xs)) : PEv X Ca W (.Call (.Attribute a "append" apos) [e] [] pos) (evE T.g cl (.bm .append xa xs)) :=
  (sd_bm (m := .append) (by decide) PySem.F.slot_list_append (by kernel_rfl) mt_append meets_append ho ha hb hl hp (by simp)).eq fun s => rfl
theorem r_pop {apos : Pos} (hb : baseOk a = true) (hl : (apos.endLine == pos.line) = true) (ho : PHv X Ca W a (hEv xa (evE T.g cl xa))) : PEv X Ca W (.Call (.Attribute a "pop" apos) [] [] pos) (evE T.g cl (.bm .pop xa .nil)) :=
  (sd_bm0 (m := .pop) (by decide) PySem.F.slot_list_pop (by kernel_rfl) mt_pop meets_pop ho hb hl).eq fun s => rfl
theorem r_popAt {apos : Pos} (hb : baseOk a = true) (hl : (apos.endLine == pos.line) = true) (hp : plainXs [e] = true) (ho : PHv X Ca W a (hEv xa (evE T.g cl xa))) (ha : PAv X Ca W [e] (evEs T.g cl xs)) : PEv X Ca W (.Call (.Attribute a "pop" apos) [e] [] pos) (evE T.g cl (.bm .popAt xa xs)) :=
  (sd_bm (m := .popAt) (by decide) PySem.F.slot_list_pop (by kernel_rfl) mt_popAt meets_popAt ho ha hb hl hp (by simp)).eq fun s => rfl
theorem r_get {apos : Pos} (f : Fit T cl X Ca W lv Γ) (hb : baseOk a = true) (hl : (apos.endLine == pos.line) = true) (p1 : plainX b = true) (p2 : plainX c = true) (ho : PHv X Ca W a (hEv xa (evE T.g cl xa))) (h1 : PEv X Ca W b (evE T.g cl xb)) (h2 : PEv X Ca W c (evE T.g cl xc)) : PEv X Ca W (.Call (.Attribute a "get" apos) [b, c] [] pos) (evE T.g cl (.bm .get xa (.cons xb (.cons xc .nil)))) :=
  (sd_get f.c.gd ho h1 h2 hb hl p1 p2).eq fun s => rfl
theorem glo2 (f : Fit T cl X Ca W lv Γ) {y : Str} (h : y ∈ biNames) : X.mg y = none := f.bi h
theorem r_sortedSet (f : Fit T cl X Ca W lv Γ) {q : Pos} (g1 : isGlo Γ.sc "sorted" = true) (g2 : isGlo Γ.sc "set" = true) (hp : plainX a = true) (ha : PHs X Ca W [a] (evHs T.g cl xs)) : PEv X Ca W (.Call (.Name "sorted" p) [.Call (.Name "set" p2) [a] [] q] [] pos) (evE T.g cl (.bcall .sortedSet xs)) :=
  (sd_sortedSet f.c.gd.hc hp (f.gl g1) (f.bi (by decide)) (f.gl g2) (f.bi (by decide)) ha).eq fun s => rfl
theorem r_sumL (f : Fit T cl X Ca W lv Γ) {q : Pos} (g1 : isGlo Γ.sc "sum" = true) (hp : plainX a = true) (ha : PHv X Ca W a (hEv xa (evE T.g cl xa))) : PEv X Ca W (.Call (.Name "sum" p) [a, .List [] q] [] pos) (evE T.g cl (.bcall .sumL (.cons xa .nil))) :=
  (sd_sumL f.c.gd.hc hp (f.gl g1) (f.bi (by decide)) ha).eq fun s => by rw [evE]; rfl
theorem mapM_len {α β : Type} {f : α → Option β} : ∀ {l : List α} {r : List β}, l.mapM f = some r → r.length = l.length ∧ ∀ (j : Nat) (y : α), l[j]? = some y → ∃ z, f y = some z ∧ r[j]? = some z
  | [], r, h => by cases h; exact ⟨rfl, fun j y h => by simp at h⟩
  | a :: l, r, h => by
    rw [List.mapM_cons] at h
    obtain ⟨b, h1, h2⟩ := Option.bind_eq_some_iff.mp h
    obtain ⟨bs, h3, h4⟩ := Option.bind_eq_some_iff.mp h2
    cases h4
    obtain ⟨q1, q2⟩ := mapM_len h3
    refine ⟨by simp [q1], fun j y hj => ?_⟩
    cases j with
    | zero =>
      obtain rfl : a = y := by simpa using hj
      exact ⟨b, h1, rfl⟩
    | succ j => exact q2 j y (by simpa using hj)
theorem r_lam {cs : List Nat} {scope : Scope} {body : Expr} (f : Fit T cl X Ca W lv Γ) (hl : Γ.lam = true) (hs : lamC Γ.sc scope = true) (hc : (caught scope).mapM (fun y => idx y Γ.N) = some cs) (hb : compE n (lamΓ Γ scope) false body = some x) :
    PEv X Ca W (.Lambda noArgs body scope pos) (evE T.g cl (.lam (Γ.qual ++ "<lambda>") (caught scope) cs x)) := by
  obtain ⟨q, ⟨P, hP, hm, hu⟩, own⟩ := f.lam hl
  obtain ⟨o1, o2, o3⟩ := own scope cs body n x hs hc hb
  have cn := f.c.cn
  have al : Alike Ca (T.cb X.base) := cn.al
  exact sd_lam (i := ⟨Γ.qual ++ "<lambda>", caught scope, cs, x⟩) al (by rw [cn.mg]; exact f.c.bo.tab (P, _) hm) hP (by rw [q]) hm hu rfl o3 o1 o2
end
end Iv
end
section
set_option Elab.async false
set_option linter.all false
set_option maxRecDepth 100000
set_option maxHeartbeats 4000000
/-! The text's expressions do what the cut-down text does. My own work. -/
namespace Iv
open PySem L2 PySem.Spec PyProof.Rows
open PySem (Str)

abbrev WNo : WX := fun _ _ _ _ => False
structure SndN (T : Tx) (cl : Callee) (n : Nat) : Prop where
  e : ∀ {X : Cx} {Ca : Cn} {W : WX} {lv : Nat} {Γ : Gm} {mv : Bool} {e : Expr} {x : Ex}, Fit T cl X Ca W lv Γ → compE n Γ mv e = some x → PEv X Ca W e (evE T.g cl x)
  ec : ∀ {X : Cx} {Ca : Cn} {W : WX} {lv : Nat} {Γ : Gm} {mv : Bool} {a : Expr} {ops : List CmpOp} {bs : List Expr} {p : Pos} {x : Ex}, Fit T cl X Ca W lv Γ → compE n Γ mv (.Compare a ops bs p) = some x → PTv X Ca W (.Compare a ops bs p) (evT T.g cl (.tru x))
  t : ∀ {X : Cx} {Ca : Cn} {W : WX} {lv : Nat} {Γ : Gm} {e : Expr} {x : Ex}, Fit T cl X Ca W lv Γ → compT n Γ e = some x → PTv X Ca W e (evT T.g cl x)
  tw : ∀ {X : Cx} {Ca : Cn} {W : WX} {lv : Nat} {Γ : Gm} {op : BoolOp} {vs : List Expr} {p : Pos} {x : Ex}, Fit T cl X Ca W lv Γ → compT n Γ (.BoolOp op vs p) = some x → PW X (.BoolOp op vs p) (Run Ca W RB (evT T.g cl x))
  es : ∀ {X : Cx} {Ca : Cn} {W : WX} {lv : Nat} {Γ : Gm} {mv : Bool} {es : List Expr} {xs : Exs}, Fit T cl X Ca W lv Γ → compEs n Γ mv es = some xs → PAv X Ca W es (evEs T.g cl xs)
  x2 : ∀ {X : Cx} {Ca : Cn} {W : WX} {lv : Nat} {Γ : Gm} {mv : Bool} {es : List Expr} {xs : Exs}, Fit T cl X Ca W lv Γ → compEs n Γ mv es = some xs → PXv X Ca W es (evEs2 T.g cl xs)
  hs : ∀ {X : Cx} {Ca : Cn} {W : WX} {lv : Nat} {Γ : Gm} {mv : Bool} {es : List Expr} {xs : Exs}, Fit T cl X Ca W lv Γ → compEs n Γ mv es = some xs → PHs X Ca W es (evHs T.g cl xs)
  kw : ∀ {X : Cx} {Ca : Cn} {W : WX} {lv : Nat} {Γ : Gm} {mv : Bool} {kws : List Keyword} {ks : List Str} {es : List Expr} {xs : Exs}, Fit T cl X Ca W lv Γ → kwNames kws = some (ks, es) → compEs n Γ mv es = some xs → PKv X Ca W kws (evEs T.g cl xs)
  dp : ∀ {X : Cx} {Ca : Cn} {W : WX} {lv : Nat} {Γ : Gm} {mv : Bool} {keys : List (Option Expr)} {ys : List Str} {es : List Expr} {xs : Exs}, Fit T cl X Ca W lv Γ → strKeys keys = some ys → keys.length = es.length → compEs n Γ mv es = some xs → DPs X Ca W keys es ys (evEs2 T.g cl xs)
  o : ∀ {X : Cx} {Ca : Cn} {W : WX} {lv : Nat} {Γ : Gm} {o : Option Expr} {x : Ex}, Fit T cl X Ca W lv Γ → compO n Γ o = some x → POv X Ca W o (evP T.g cl x)
  i : ∀ {X : Cx} {Ca : Cn} {W : WX} {lv : Nat} {Γ : Gm} {e tg : Expr} {k : IK} {as : Exs}, Fit T cl X Ca W lv Γ → compI n Γ e = some (k, as) → PIv X Ca W tg e fun s => (evEs T.g cl as s).bind fun xs s => Res.of (items k xs) s
  fi : ∀ {X : Cx} {Ca : Cn} {W : WX} {lv : Nat} {Γ : Gm} {e tg : Expr} {k : IK} {as : Exs}, Fit T cl X Ca W lv Γ → compI n Γ e = some (k, as) → PI X tg e (Run Ca W (RJ X.K Ca k) (itRun k (evEs T.g cl as)))
  f : ∀ {X : Cx} {Ca : Cn} {W : WX} {lv : Nat} {Γ : Gm} {ifs : List Expr} {x : Ex}, Fit T cl X Ca W lv Γ → compIfs n Γ ifs = some x → PTs X ifs (Run Ca W RB (evT T.g cl x))

section
variable {T : Tx} {cl : Callee} {n : Nat}
theorem snd_zero : SndN T cl 0 := by
  refine ⟨?_, ?_, ?_, ?_, ?_, ?_, ?_, ?_, ?_, ?_, ?_, ?_, ?_⟩
  · intro X Ca W lv Γ mv e x _ h; unfold compE at h; cases h
  · intro X Ca W lv Γ mv a ops bs p x _ h; unfold compE at h; cases h
  · intro X Ca W lv Γ e x _ h; unfold compT at h; cases h
  · intro X Ca W lv Γ op vs p x _ h; unfold compT at h; cases h
  · intro X Ca W lv Γ mv es xs _ h; unfold compEs at h; cases h
  · intro X Ca W lv Γ mv es xs _ h; unfold compEs at h; cases h
  · intro X Ca W lv Γ mv es xs _ h; unfold compEs at h; cases h
  · intro X Ca W lv Γ mv kws ks es xs _ _ h; unfold compEs at h; cases h
  · intro X Ca W lv Γ mv keys ys es xs _ _ _ h; unfold compEs at h; cases h
  · intro X Ca W lv Γ o x f h
    unfold compO at h
    cases o with
    | none => cases h; exact sd_noPart
    | some e => cases h
  · intro X Ca W lv Γ e tg k as _ h; unfold compI at h; cases h
  · intro X Ca W lv Γ e tg k as _ h; unfold compI at h; cases h
  · intro X Ca W lv Γ ifs x _ h; unfold compIfs at h; cases h
variable (N : SndN T cl n) {X : Cx} {Ca : Cn} {W : WX} {lv : Nat} {Γ : Gm} {mv : Bool}
include N
theorem es_step {es : List Expr} {xs : Exs} (f : Fit T cl X Ca W lv Γ) (h : compEs (n + 1) Γ mv es = some xs) : PAv X Ca W es (evEs T.g cl xs) ∧ PXv X Ca W es (evEs2 T.g cl xs) ∧ PHs X Ca W es (evHs T.g cl xs) := by
  cases es with
  | nil =>
    unfold compEs at h
    cases h
    exact ⟨sd_nil, sd_xnil, sd_hnil⟩
  | cons e r =>
    unfold compEs at h
    split at h
    · rename_i x y h1 h2
      cases h
      have p := plain_of h1
      exact ⟨sd_cons p (N.e f h1) (N.es f h2), sd_xcons p (N.e f h1) (N.x2 f h2), sd_hcons p (ph_of f h1 (N.e f h1)) (N.hs f h2)⟩
    · cases h
theorem kw_step {kws : List Keyword} {ks : List Str} {es : List Expr} {xs : Exs} (f : Fit T cl X Ca W lv Γ) (hk : kwNames kws = some (ks, es)) (h : compEs (n + 1) Γ mv es = some xs) : PKv X Ca W kws (evEs T.g cl xs) := by
  cases kws with
  | nil =>
    cases hk
    unfold compEs at h
    cases h
    exact sd_knil
  | cons k r =>
    obtain ⟨x, ys, fs, h1, h2, rfl, rfl⟩ := kwNames_cons hk
    unfold compEs at h
    split at h
    · rename_i y z q1 q2
      cases h
      obtain ⟨nm, v, p⟩ := k
      exact sd_kcons (N.e f q1) (N.kw f h2 q2)
    · cases h
theorem dp_step {keys : List (Option Expr)} {ys : List Str} {es : List Expr} {xs : Exs} (f : Fit T cl X Ca W lv Γ) (hk : strKeys keys = some ys) (hl : keys.length = es.length) (h : compEs (n + 1) Γ mv es = some xs) : DPs X Ca W keys es ys (evEs2 T.g cl xs) := by
  cases es with
  | nil =>
    cases keys with
    | nil =>
      cases hk
      unfold compEs at h
      cases h
      exact .nil
    | cons k r => cases hl
  | cons e r =>
    cases keys with
    | nil => cases hl
    | cons k ks =>
      unfold compEs at h
      split at h
      · rename_i y z q1 q2
        cases h
        unfold strKeys at hk
        split at hk
        · rename_i heq
          cases heq
        · rename_i s j p r' heq
          cases heq
          obtain ⟨ys', hk', rfl⟩ := Option.map_eq_some_iff.mp hk
          exact .cons (u := id) (n := 0) (p := p) pe_str (N.e f q1) (N.dp f hk' (by simpa using hl) q2)
        · cases hk
      · cases h
theorem o_step {o : Option Expr} {x : Ex} (f : Fit T cl X Ca W lv Γ) (h : compO (n + 1) Γ o = some x) : POv X Ca W o (evP T.g cl x) := by
  cases o with
  | none => unfold compO at h; cases h; exact sd_noPart
  | some e =>
    unfold compO at h
    have sk := skip_no h
    have r := sd_part (N.e f h)
    have : evP T.g cl x = fun s => (evE T.g cl x s).bind fun x s => match x.2 with | .int i => .ok (some i) s | _ => .no := by
      funext s
      unfold evP
      rw [sk]
      rfl
    rw [this]; exact r
theorem i_step {e tg : Expr} {k : IK} {as : Exs} (f : Fit T cl X Ca W lv Γ) (h : compI (n + 1) Γ e = some (k, as)) : (PIv X Ca W tg e fun s => (evEs T.g cl as s).bind fun xs s => Res.of (items k xs) s) ∧ PI X tg e (Run Ca W (RJ X.K Ca k) (itRun k (evEs T.g cl as))) := by
  unfold compI at h
  have rb : X.mg "range" = none := f.bi (by decide)
  split at h
  · rename_i as0 hi
    obtain ⟨as1, ha, q⟩ := Option.map_eq_some_iff.mp h
    cases q
    unfold iterOf at hi
    split at hi
    · rename_i y p a pos
      split at hi
      · rename_i hc
        obtain ⟨rfl, hg⟩ := hc
        cases hi
        have pl := plains_of ha
        have p1 : plainX a = true := by unfold plainXs at pl; simpa using pl
        have r : PIv X Ca W tg _ fun s => (evEs T.g cl as s).bind fun xs s => Res.of (items .rng1 xs) s := sd_irng1 (pos := pos) (p := p) (f.gl hg) rb p1 (N.es f ha)
        exact ⟨r, sd_frng (by decide) r⟩
      · cases hi
    · split at hi <;> cases hi
    · cases hi
  · rename_i as0 hi
    obtain ⟨as1, ha, q⟩ := Option.map_eq_some_iff.mp h
    cases q
    unfold iterOf at hi
    split at hi
    · split at hi <;> cases hi
    · rename_i y p a b pos
      split at hi
      · rename_i hc
        obtain ⟨rfl, hg⟩ := hc
        cases hi
        have pl := plains_of ha
        have p1 : plainX a = true ∧ plainX b = true := by unfold plainXs at pl; simpa using pl
        have r : PIv X Ca W tg _ fun s => (evEs T.g cl as s).bind fun xs s => Res.of (items .rng2 xs) s := sd_irng2 (pos := pos) (p := p) (f.gl hg) rb p1.1 p1.2 (N.es f ha)
        exact ⟨r, sd_frng (by decide) r⟩
      · cases hi
    · cases hi
  · obtain ⟨a, ha, q⟩ := Option.map_eq_some_iff.mp h
    cases q
    have pe := N.e f ha
    have ev : evEs T.g cl (.cons a .nil) = fun s => (evE T.g cl a s).bind fun x s => .ok [x.2] s := by
      funext s
      rw [evEs]
      congr 1
    rw [ev]
    exact ⟨sd_iseq pe, sd_fseq pe⟩
theorem PTs.imp {ifs : List Expr} {t t' : TT} (h : PTs X ifs t) (w : ∀ σ H Q, t' σ H Q → t σ H Q) : PTs X ifs t' := ⟨fun pins s σ H Q I q => h.run pins s σ H Q I (w σ H Q q)⟩
theorem f_step {ifs : List Expr} {x : Ex} (f : Fit T cl X Ca W lv Γ) (h : compIfs (n + 1) Γ ifs = some x) : PTs X ifs (Run Ca W RB (evT T.g cl x)) := by
  unfold compIfs at h
  split at h
  · rename_i heq; cases heq
  · cases h
    exact ⟨fun pins s σ H Q I q => pts_nil.run pins s σ H Q I (let ⟨Pr, F, ρ, st, S, w⟩ := q; w.fin S rfl)⟩
  · rename_i heq
    cases heq
    exact pts_one (N.t f h)
  · cases h
theorem t_step {e : Expr} {x : Ex} (f : Fit T cl X Ca W lv Γ) (h : compT (n + 1) Γ e = some x) : PTv X Ca W e (evT T.g cl x) := by
  unfold compT at h
  split at h
  · obtain ⟨y, hy, rfl⟩ := Option.map_eq_some_iff.mp h
    exact (sd_not (N.t f hy)).eq fun s => by rw [evT]
  · rename_i op a p
    cases op with
    | And => exact (pw_and1 (N.t f h)).pt
    | Or => exact (pw_or1 (N.t f h)).pt
  · split at h
    · rename_i h1 h2
      cases h
      exact (PTv.eq (sd_andT (N.t f h1) (N.tw f h2)).pt fun s => by rw [evT])
    · cases h
  · split at h
    · rename_i h1 h2
      cases h
      exact (PTv.eq (sd_orT (N.t f h1) (N.tw f h2)).pt fun s => by rw [evT])
    · cases h
  · cases h
  · rename_i n1 n2 n3 n4 n5
    obtain ⟨y, hy, rfl⟩ := Option.map_eq_some_iff.mp h
    have pl : ∀ (he : ∀ whole, isTrue e X.env whole = (do let v ← whole; standAt e.pos; holding [v] (truthy v))), PTv X Ca W e (evT T.g cl (.tru y)) := fun he => (sd_tru (ph_of f hy (N.e f hy)) he).eq fun s => ev_tru s
    cases e with
    | Compare a ops bs p => exact N.ec f hy
    | BoolOp op vs p =>
      cases vs with
      | nil =>
        exfalso
        cases n with
        | zero => unfold compE at hy; cases hy
        | succ m => unfold compE at hy; cases op <;> simp at hy
      | cons a r =>
        cases r with
        | nil => exact absurd rfl (n2 op a p)
        | cons b r => cases op with
          | And => exact absurd rfl (n3 a b r p)
          | Or => exact absurd rfl (n4 a b r p)
    | UnaryOp op a p =>
      cases op with
      | Not => exact absurd rfl (n1 a p)
      | _ => exact pl fun _ => rfl
    | IfExp a b c p => exact absurd rfl (n5 a b c p)
    | _ => exact pl fun _ => rfl
theorem tw_step {op : BoolOp} {vs : List Expr} {p : Pos} {x : Ex} (f : Fit T cl X Ca W lv Γ) (h : compT (n + 1) Γ (.BoolOp op vs p) = some x) : PW X (.BoolOp op vs p) (Run Ca W RB (evT T.g cl x)) := by
  have eqv : ∀ {t : S → Res Bool}, PW X (.BoolOp op vs p) (Run Ca W RB t) → (∀ s, evT T.g cl x s = t s) → PW X (.BoolOp op vs p) (Run Ca W RB (evT T.g cl x)) := fun {t} h k => by
    have : evT T.g cl x = t := funext k
    rw [this]; exact h
  cases vs with
  | nil =>
    exfalso
    unfold compT at h
    obtain ⟨y, hy, _⟩ := Option.map_eq_some_iff.mp h
    cases n with
    | zero => unfold compE at hy; cases hy
    | succ m => unfold compE at hy; cases op <;> simp at hy
  | cons a r =>
    cases r with
    | nil =>
      unfold compT at h
      cases op with
      | And => exact pw_and1 (N.t f h)
      | Or => exact pw_or1 (N.t f h)
    | cons b r =>
      cases op with
      | And =>
        unfold compT at h
        dsimp only at h
        split at h
        · rename_i h1 h2
          cases h
          exact eqv (sd_andT (N.t f h1) (N.tw f h2)) fun s => by rw [evT]
        · cases h
      | Or =>
        unfold compT at h
        dsimp only at h
        split at h
        · rename_i h1 h2
          cases h
          exact eqv (sd_orT (N.t f h1) (N.tw f h2)) fun s => by rw [evT]
        · cases h
theorem ec_step {a : Expr} {ops : List CmpOp} {bs : List Expr} {p : Pos} {x : Ex} (f : Fit T cl X Ca W lv Γ) (h : compE (n + 1) Γ mv (.Compare a ops bs p) = some x) : PTv X Ca W (.Compare a ops bs p) (evT T.g cl (.tru x)) ∧ PEv X Ca W (.Compare a ops bs p) (evE T.g cl x) := by
  unfold compE at h
  split at h <;> rename_i heq <;> (try cases heq) <;> (try (cases h; done))
  · split at h
    · rename_i h1 h2
      cases h
      exact ⟨r_cmpT f h2 (ph_of f h1 (N.e f h1)) (ph_of f h2 (N.e f h2)), r_cmp f h2 (ph_of f h1 (N.e f h1)) (ph_of f h2 (N.e f h2))⟩
    · cases h
  · split at h
    · rename_i h1 h2 h3
      cases h
      exact ⟨r_chainT f h3 (N.e f h1) (N.e f h2) (N.e f h3), r_chain f h3 (N.e f h1) (N.e f h2) (N.e f h3)⟩
    · cases h
end
end Iv
end
section
set_option Elab.async false
set_option linter.all false
set_option maxRecDepth 100000
set_option maxHeartbeats 8000000
/-! The text's expressions do what the cut-down text does: the great step. My own work. -/
namespace Iv
open PySem L2 PySem.Spec PyProof.Rows
open PySem (Str)

section
variable {T : Tx} {cl : Callee} {n : Nat}
variable (N : SndN T cl n) {X : Cx} {Ca : Cn} {W : WX} {lv : Nat} {Γ : Gm} {mv : Bool}
include N
theorem lc_blk {x : Str} {i : Nat} {xp : Pos} {elt : Expr} {ifs : List Expr} {scope : Scope} {xc xe : Ex} (f : Fit T cl X Ca W lv Γ) (hb : blkC Γ.N Γ.sc scope [(x, i)] = true) (hc : compIfs n (blkΓ Γ scope) ifs = some xc) (he : compE n (blkΓ Γ scope) false elt = some xe) :
    BlkV T X Ca WNo x i xp elt ifs scope (evT T.g cl xc) (evE T.g cl xe) := by
  rintro B Cb ⟨pins, σ, s, H, C, cs, fp, I, rfl⟩ cn _
  obtain ⟨bo, kd, ow⟩ := blkC_ok hb
  have fb := f.blk (cs := cs) kd cn
  have hi : X.N[i]? = some x := by rw [f.N]; exact bo.ix (x, i) List.mem_cons_self
  exact ⟨pg_own f.c.gd.nd hi (ow (x, i) List.mem_cons_self), N.f fb hc, N.e fb he⟩
theorem lc_e {x : Str} {i : Nat} {xp : Pos} {elt iter : Expr} {ifs : List Expr} {scope : Scope} {pos : Pos} {k : IK} {it : Exs} {xc xe : Ex} (f : Fit T cl X Ca W lv Γ) (hb : blkC Γ.N Γ.sc scope [(x, i)] = true) (hn : notSet iter = true) (hi : compI n Γ iter = some (k, it)) (hc : compIfs n (blkΓ Γ scope) ifs = some xc) (he : compE n (blkΓ Γ scope) false elt = some xe) :
    PEv X Ca W (.ListComp elt [⟨.Name x xp, iter, ifs, 0⟩] scope pos) (evE T.g cl (.lc [i] k it i xc xe)) :=
  (sd_lcY f.c.gd f.c.cn (N.i f hi) (by rw [f.N, f.sc]; exact (blkC_ok hb).1) (lc_blk N f hb hc he) (set_none hn X.env)).eq ev_lc
theorem lc2_blk {x x2 : Str} {i j : Nat} {xp x2p : Pos} {elt iter1 : Expr} {ifs1 : List Expr} {scope : Scope} {k1 : IK} {it1 : Exs} {xc xe : Ex} (f : Fit T cl X Ca W lv Γ) (hb : blkC Γ.N Γ.sc scope [(x, i), (x2, j)] = true) (hi : compI n (blkΓ Γ scope) iter1 = some (k1, it1)) (hc : compIfs n (blkΓ Γ scope) ifs1 = some xc) (he : compE n (blkΓ Γ scope) false elt = some xe) :
    BlkV2 T X WNo x x2 i j xp x2p iter1 elt ifs1 scope (fun s => (evEs T.g cl it1 s).bind fun xs s => Res.of (items k1 xs) s) (evT T.g cl xc) (evE T.g cl xe) := by
  rintro B ⟨s, H, C, cs, fp, rfl⟩ cn
  obtain ⟨bo, kd, ow⟩ := blkC_ok hb
  have fb := f.blk (cs := cs) kd cn
  have h1 : X.N[i]? = some x := by rw [f.N]; exact bo.ix (x, i) List.mem_cons_self
  have h2 : X.N[j]? = some x2 := by rw [f.N]; exact bo.ix (x2, j) (by simp)
  exact ⟨pg_own f.c.gd.nd h1 (ow (x, i) List.mem_cons_self), N.i fb hi, pg_own f.c.gd.nd h2 (ow (x2, j) (by simp)), N.f fb hc, N.e fb he⟩
theorem lc2_e {x x2 : Str} {i j : Nat} {xp x2p : Pos} {elt iter iter1 : Expr} {ifs1 : List Expr} {scope : Scope} {pos : Pos} {k k1 : IK} {it it1 : Exs} {xc xe : Ex} (f : Fit T cl X Ca W lv Γ) (hb : blkC Γ.N Γ.sc scope [(x, i), (x2, j)] = true) (hn : notSet iter = true) (hn1 : notSet iter1 = true) (h0 : compI n Γ iter = some (k, it)) (hi : compI n (blkΓ Γ scope) iter1 = some (k1, it1)) (hc : compIfs n (blkΓ Γ scope) ifs1 = some xc) (he : compE n (blkΓ Γ scope) false elt = some xe) :
    PEv X Ca W (.ListComp elt [⟨.Name x xp, iter, [], 0⟩, ⟨.Name x2 x2p, iter1, ifs1, 0⟩] scope pos) (evE T.g cl (.lc2 [i, j] k it i [j] k1 it1 j xc xe)) :=
  (sd_lc2Y f.c.gd f.c.cn (N.i f h0) (by rw [f.N, f.sc]; exact (blkC_ok hb).1) (lc2_blk N f hb hi hc he) (set_none hn X.env) (set_none hn1)).eq ev_lc2
theorem bm_e {o : Expr} {m : Str} {apos cpos : Pos} {args : List Expr} {b : BM} {xo : Ex} {xs : Exs} (f : Fit T cl X Ca W lv Γ) (hb : baseOk o = true) (hl : (apos.endLine == cpos.line) = true) (hm : bmOf m args.length = some b) (ng : b ≠ .get) (ho : compE n Γ false o = some xo) (ha : compEs n Γ (m == ("append" : Str)) args = some xs) :
    PEv X Ca W (.Call (.Attribute o m apos) args [] cpos) (evE T.g cl (.bm b xo xs)) := by
  have ph := ph_of f ho (N.e f ho)
  have pl := plains_of ha
  unfold bmOf at hm
  split at hm
  · rename_i hc
    obtain ⟨rfl, hlen⟩ := hc
    cases hm
    obtain ⟨e, rfl⟩ := List.length_eq_one_iff.mp hlen
    exact r_append hb hl pl ph (N.es f ha)
  · split at hm
    · rename_i hc
      subst hc
      split at hm
      · rename_i hlen
        cases hm
        obtain rfl := List.length_eq_zero_iff.mp hlen
        have : xs = .nil := by
          cases n with
          | zero => unfold compEs at ha; cases ha
          | succ m => unfold compEs at ha; cases ha; rfl
        subst this
        exact r_pop hb hl ph
      · split at hm
        · rename_i hlen
          cases hm
          obtain ⟨e, rfl⟩ := List.length_eq_one_iff.mp hlen
          exact r_popAt hb hl pl ph (N.es f ha)
        · cases hm
    · split at hm
      · rename_i hc
        obtain ⟨rfl, hlen⟩ := hc
        cases hm
        exact absurd rfl ng
      · cases hm
omit N in
theorem own_name {t : Expr} {x : Str} {i : Nat} (h : ownOf Γ t = some (x, i)) : ∃ p, t = .Name x p := by
  cases t <;> simp only [ownOf, reduceCtorEq] at h
  obtain ⟨j, hj, q⟩ := Option.map_eq_some_iff.mp h
  cases q
  exact ⟨_, rfl⟩
omit N in
theorem get_name {m : Str} {k : Nat} (h : bmOf m k = some .get) : m = ("get" : Str) := by
  unfold bmOf at h
  split at h
  · cases h
  · split at h
    · split at h
      · cases h
      · split at h <;> cases h
    · split at h
      · rename_i hc
        exact hc.1
      · cases h
theorem e_step {e : Expr} {x : Ex} (f : Fit T cl X Ca W lv Γ) (h : compE (n + 1) Γ mv e = some x) : PEv X Ca W e (evE T.g cl x) := by
  have h0 := h
  unfold compE at h
  split at h
  · exact r_con h
  · exact r_name f h
  · split at h
    · rename_i ho h1 h2
      cases h
      exact r_bin ho (N.e f h1) (N.e f h2)
    · cases h
  · obtain ⟨y, hy, rfl⟩ := Option.map_eq_some_iff.mp h
    exact r_neg (N.e f hy)
  · obtain ⟨y, hy, rfl⟩ := Option.map_eq_some_iff.mp h
    exact r_not (ph_of f hy (N.e f hy))
  · split at h
    · rename_i h1 h2
      cases h
      exact r_and (N.e f h1) (pe_one (N.e f h2))
    · cases h
  · split at h
    · rename_i h1 h2
      cases h
      exact r_and (N.e f h1) (N.e f h2)
    · cases h
  · split at h
    · rename_i h1 h2
      cases h
      exact r_or (N.e f h1) (pe_one (N.e f h2))
    · cases h
  · split at h
    · rename_i h1 h2
      cases h
      exact r_or (N.e f h1) (N.e f h2)
    · cases h
  · exact (ec_step N f h0).2
  · exact (ec_step N f h0).2
  · split at h
    · rename_i h1 h2 h3
      cases h
      exact r_ife (N.t f h1) (N.e f h2) (N.e f h3)
    · cases h
  · obtain ⟨y, hy, rfl⟩ := Option.map_eq_some_iff.mp h
    exact r_lst (N.es f hy)
  · obtain ⟨y, hy, rfl⟩ := Option.map_eq_some_iff.mp h
    exact r_tup (N.es f hy)
  · cases h
    exact r_dn
  · split at h
    · rename_i hl
      split at h
      · rename_i h1 h2
        cases h
        exact (sd_dct (N.dp f h1 hl.1 h2) (by simp) hl.2).eq fun s => by rw [evE]; first | done | rfl
      · cases h
    · cases h
  · split at h
    · rename_i h1 h2 h3
      cases h
      exact r_slc (ph_of f h1 (N.e f h1)) (N.o f h2) (N.o f h3)
    · cases h
  · split at h
    · rename_i h1 h2
      cases h
      exact r_sub f (plain_of h2) (ph_of f h1 (N.e f h1)) (N.e f h2)
    · cases h
  · split at h
    · rename_i hb
      obtain ⟨y, hy, rfl⟩ := Option.map_eq_some_iff.mp h
      exact r_fld f hb (N.e f hy)
    · cases h
  · split at h
    · rename_i x i ho
      split at h
      · rename_i hb
        rw [Bool.and_eq_true] at hb
        split at h
        · rename_i h1 h2 h3
          cases h
          rename_i t _ _ _ _ _ _ _ _ _ _ _ _
          obtain ⟨xp, rfl⟩ := own_name ho
          exact lc_e N f hb.1 hb.2 h1 h2 h3
        · cases h
      · cases h
    · cases h
  · split at h
    · rename_i x i y j ho1 ho2
      split at h
      · rename_i hb
        rw [Bool.and_eq_true, Bool.and_eq_true] at hb
        split at h
        · rename_i h1 h2 h3 h4
          cases h
          obtain ⟨xp, rfl⟩ := own_name ho1
          obtain ⟨yp, rfl⟩ := own_name ho2
          exact lc2_e N f hb.1.1 hb.1.2 hb.2 h1 h2 h3 h4
        · cases h
      · cases h
    · cases h
  · split at h
    · rename_i hb
      rw [Bool.and_eq_true] at hb
      split at h
      · rename_i h1 h2
        cases h
        exact r_lam f hb.1 hb.2 h1 h2
      · cases h
    · cases h
  · split at h
    · rename_i hl
      obtain ⟨i, hi, rfl⟩ := Option.map_eq_some_iff.mp h
      exact r_app f hl hi
    · split at h
      · rename_i hg
        split at h
        · cases h
        · split at h
          · rename_i hf
            split at h
            · cases h
              exact r_call0 f hg hf
            · cases h
          · cases h
      · cases h
  · rename_i args pos na
    split at h
    · cases h
    · split at h
      · rename_i hg
        obtain ⟨a, r, rfl⟩ : ∃ a r, args = a :: r := by
          cases args with
          | nil => exact absurd rfl na
          | cons a r => exact ⟨a, r, rfl⟩
        split at h
        · rename_i hc
          split at h
          · rename_i hi
            obtain ⟨as, ha, rfl⟩ := Option.map_eq_some_iff.mp h
            exact r_make f hg hc hi (plains_of ha) (N.es f ha)
          · cases h
        · split at h
          · rename_i hf
            split at h
            · obtain ⟨as, ha, rfl⟩ := Option.map_eq_some_iff.mp h
              exact r_call f hg hf (plains_of ha) (N.es f ha)
            · cases h
          · split at h
            · rename_i heq
              cases heq
              split at h
              · rename_i hx
                obtain ⟨rfl, rfl, hg2⟩ := hx
                obtain ⟨as, ha, rfl⟩ := Option.map_eq_some_iff.mp h
                have pl := plains_of ha
                exact r_sortedSet f hg hg2 (by unfold plainXs at pl; simpa using pl) (N.hs f ha)
              · split at h
                · rename_i hb
                  obtain ⟨as, ha, rfl⟩ := Option.map_eq_some_iff.mp h
                  exact r_bcall f hg hb (plains_of ha) (N.hs f ha)
                · cases h
            · rename_i heq
              cases heq
              split at h
              · rename_i hx
                subst hx
                obtain ⟨a, ha, rfl⟩ := Option.map_eq_some_iff.mp h
                exact r_sumL f hg (plain_of ha) (ph_of f ha (N.e f ha))
              · cases h
            · split at h
              · rename_i hb
                obtain ⟨as, ha, rfl⟩ := Option.map_eq_some_iff.mp h
                exact r_bcall f hg hb (plains_of ha) (N.hs f ha)
              · cases h
      · cases h
  · split at h
    · rename_i hg
      split at h
      · rename_i h1 h2
        split at h
        · rename_i h3 h4
          split at h
          · rename_i hl
            cases h
            exact r_callK f hg h1 h2 h3 h4 hl.2 (N.kw f h2 h3)
          · cases h
        · cases h
      · cases h
    · cases h
  · split at h
    · rename_i hb
      rw [Bool.and_eq_true, Bool.and_eq_true] at hb
      split at h
      · rename_i hm
        split at h
        · split at h
          · rename_i h1 h2 h3
            cases h
            obtain rfl := get_name hm
            exact r_get f hb.1.1 hb.1.2 (plain_of h2) (plain_of h3) (ph_of f h1 (N.e f h1)) (N.e f h2) (N.e f h3)
          · cases h
        · cases h
      · rename_i ng hm
        split at h
        · rename_i h1 h2
          cases h
          exact bm_e N f hb.1.1 hb.1.2 hm (fun z => ng (by rw [z])) h1 h2
        · cases h
      · cases h
    · cases h
  · cases h
end
theorem snd_all (T : Tx) (cl : Callee) : ∀ n, SndN T cl n
  | 0 => snd_zero
  | n + 1 => by
    have N := snd_all T cl n
    exact ⟨fun f h => e_step N f h, fun f h => (ec_step N f h).1, fun f h => t_step N f h, fun f h => tw_step N f h, fun f h => (es_step N f h).1, fun f h => (es_step N f h).2.1, fun f h => (es_step N f h).2.2, fun f hk h => kw_step N f hk h, fun f hk hl h => dp_step N f hk hl h, fun f h => o_step N f h, fun f h => (i_step N f h).1, fun f h => (i_step N f h).2, fun f h => f_step N f h⟩
end Iv
end
section
set_option Elab.async false
set_option linter.all false
set_option maxRecDepth 100000
set_option maxHeartbeats 8000000
/-! The text's statements do what the cut-down text does. My own work. -/
namespace Iv
open PySem L2 PySem.Spec PyProof.Rows
open PySem (Str)

/-- a def's body -/
structure FitB (T : Tx) (cl : Callee) (X : Cx) (Ca : Cn) (lv : Nat) (Γ : Gm) : Prop where
  fit : ∀ (pn : List (Addr × Obj)) (xe : Value → Shared → Prop) (W : WX), Takes (X.tr pn xe) W → Fit T cl (X.tr pn xe) Ca W lv Γ
  st : X.stack = X.env :: X.outer
  fm : X.env.frame = some X.env.locals
  fn : ∀ x, X.fn x = true
theorem PSv.eq {X : Cx} {Ca : Cn} {W : WX} {e : Stmt} {f g : S → Out} (h : PSv X Ca W e f) (k : ∀ s, g s = f s) : PSv X Ca W e g := by
  have : g = f := funext k
  rw [this]; exact h
theorem sw2 {env : Env} {x y : Str} {px py pt pt2 : Pos} {kt k2 : Nat} {a b : Expr} (bk : env.blockKind = .function) (kx : env.kindOf x = some .local) (ky : env.kindOf y = some .local) (hl : (py.line == px.line) = true) (ne : x ≠ y) (pa : plainXs [a, b] = true) (pv : parV [a, b] = true) :
    swappedStores [.Tuple [.Name x px, .Name y py] kt pt] (.Tuple [a, b] k2 pt2) env = pure (some [x, y]) := by
  unfold parV at pv
  rw [Bool.and_eq_true, Bool.not_eq_true', Bool.not_eq_true'] at pv
  obtain ⟨p1, p2⟩ := pv
  have st : ∀ f : Expr → Bool, (∀ e, plainX e = true → f e = false) → [a, b].any f = false := fun f h => by
    unfold plainXs at pa
    simp only [List.all_cons, List.all_nil, Bool.and_true, Bool.and_eq_true] at pa
    simp only [List.any_cons, List.any_nil, Bool.or_false, h a pa.1, h b pa.2]
  have ny : (y == x) = false := by simp [Ne.symm ne]
  have hl : py.line = px.line := by simpa using hl
  unfold swappedStores
  simp only [pure_bind]
  rw [st _ (fun e h => by cases e <;> first | rfl | cases h), p1, p2]
  simp [kx, ky, bk, hl, Expr.pos, ny, List.eraseDups, List.eraseDupsBy, List.eraseDupsBy.loop]
theorem sw3 {env : Env} {x y z : Str} {px py pz pt pt2 : Pos} {kt k2 : Nat} {a b c : Expr} (bk : env.blockKind = .function) (kx : env.kindOf x = some .local) (ky : env.kindOf y = some .local) (kz : env.kindOf z = some .local) (hl : (py.line == px.line) = true) (hl2 : (pz.line == px.line) = true) (ne : x ≠ y) (ne2 : x ≠ z) (ne3 : y ≠ z) (pa : plainXs [a, b, c] = true) (pv : parV [a, b, c] = true) :
    swappedStores [.Tuple [.Name x px, .Name y py, .Name z pz] kt pt] (.Tuple [a, b, c] k2 pt2) env = pure (some [x, y, z]) := by
  unfold parV at pv
  rw [Bool.and_eq_true, Bool.not_eq_true', Bool.not_eq_true'] at pv
  obtain ⟨p1, p2⟩ := pv
  have st : ∀ f : Expr → Bool, (∀ e, plainX e = true → f e = false) → [a, b, c].any f = false := fun f h => by
    unfold plainXs at pa
    simp only [List.all_cons, List.all_nil, Bool.and_true, Bool.and_eq_true] at pa
    simp only [List.any_cons, List.any_nil, Bool.or_false, h a pa.1, h b pa.2.1, h c pa.2.2]
  have ny : (y == x) = false := by simp [Ne.symm ne]
  have nz : (z == x) = false := by simp [Ne.symm ne2]
  have nzy : (z == y) = false := by simp [Ne.symm ne3]
  have hl : py.line = px.line := by simpa using hl
  have hl2 : pz.line = px.line := by simpa using hl2
  unfold swappedStores
  simp only [pure_bind]
  rw [st _ (fun e h => by cases e <;> first | rfl | cases h), p1, p2]
  simp [kx, ky, kz, bk, hl, hl2, Expr.pos, ny, nz, nzy, List.eraseDups, List.eraseDupsBy, List.eraseDupsBy.loop]
theorem isLc_of {n : Nat} {Γ : Gm} {mv : Bool} {e : Expr} {x : Ex} (h : compE n Γ mv e = some x) (hl : isLc e = false) : plainV e = true := by
  cases n with
  | zero => unfold compE at h; cases h
  | succ n => cases e <;> first | (exact rfl) | (simp [isLc] at hl; done) | (unfold compE at h; simp at h; done)

section
variable {T : Tx} {cl : Callee} {X : Cx} {Ca : Cn} {lv : Nat} {Γ : Gm}
theorem loc_of {sc : Scope} {x : Str} (h : sc.names.lookup x = some .local ∨ sc.names.lookup x = some .cell) : isLoc sc x = true := by
  unfold isLoc
  rcases h with h | h <;> rw [h]
theorem ix_loc {x : Str} {i : Nat} (h : nameLoc Γ x = some i) : Γ.sc.names.lookup x = some .local ∧ Γ.N[i]? = some x := by
  unfold nameLoc at h
  split at h
  · rename_i e
    exact ⟨e, idx_at h⟩
  · cases h
theorem ix_any {x : Str} {i : Nat} (h : nameIx Γ x = some i) : (Γ.sc.names.lookup x = some .local ∨ Γ.sc.names.lookup x = some .cell) ∧ Γ.N[i]? = some x := by
  unfold nameIx at h
  split at h
  · rename_i e
    exact ⟨.inl e, idx_at h⟩
  · rename_i e
    exact ⟨.inr e, idx_at h⟩
  · cases h
theorem tg_of {W : WX} (B : FitB T cl X Ca lv Γ) (f : Fit T cl X Ca W lv Γ) {x : Str} {i : Nat} (h : nameIx Γ x = some i) : Tg X x i := by
  obtain ⟨h1, h2⟩ := ix_any h
  refine ⟨by rw [f.N]; exact h2, ?_, .inl (B.fn x)⟩
  unfold L2.Loc
  rw [f.sc]; exact h1
theorem tgs_of {W : WX} (B : FitB T cl X Ca lv Γ) (f : Fit T cl X Ca W lv Γ) : ∀ {ts : List Expr} {is : List Nat}, namesIx Γ ts = some is → Tgs X ts is
  | [], is, h => by cases h; exact .nil
  | t :: ts, is, h => by
    unfold namesIx at h
    split at h
    · rename_i heq; cases heq
    · rename_i x p r heq
      cases heq
      split at h
      · rename_i i js h1 h2
        cases h
        exact .cons (tg_of B f h1) (tgs_of B f h2)
      · cases h
    · cases h
theorem noLc {e : Expr} (h : isLc e = false) (h2 : plainV e = true) : plainV e = true := h2
theorem notTup_of {e : Expr} (h : isTup e = false) : notTup e = true := by cases e <;> first | rfl | (simp [isTup] at h)
abbrev SOk (T : Tx) (cl : Callee) (X : Cx) (Ca : Cn) (st : Stmt) (f : S → Out) : Prop := ∀ (pn : List (Addr × Obj)) (xe : Value → Shared → Prop) (W : WX), Takes (X.tr pn xe) W → PassesOwn (model X.prog X.w) X.A X.env xe → PSv (X.tr pn xe) Ca W st f
abbrev SsOk (T : Tx) (cl : Callee) (X : Cx) (Ca : Cn) (st : List Stmt) (f : S → Out) : Prop := ∀ (pn : List (Addr × Obj)) (xe : Value → Shared → Prop) (W : WX), Takes (X.tr pn xe) W → PassesOwn (model X.prog X.w) X.A X.env xe → PSsv (X.tr pn xe) Ca W st f
theorem sw2n {env : Env} {x y : Str} {px py pt pt2 : Pos} {kt k2 : Nat} {a b : Expr} (k : env.kindOf x ≠ some .local ∨ env.kindOf y ≠ some .local) :
    swappedStores [.Tuple [.Name x px, .Name y py] kt pt] (.Tuple [a, b] k2 pt2) env = pure none := by
  unfold swappedStores
  simp only [pure_bind]
  split
  · rfl
  · split
    · rfl
    · split
      · rfl
      · rename_i h
        exfalso
        apply h
        by_cases h1 : env.kindOf x = some .local <;> by_cases h2 : env.kindOf y = some .local <;> by_cases h3 : py.line = px.line <;> simp_all [Expr.pos]
theorem ss_asgTn {X : Cx} {Ca : Cn} {W : WX} {e : Expr} {pos : Pos} {ts : List Expr} {is : List Nat} {k : Nat} {p : Pos} {fe : S → Res (Bool × D)} (gd : Gd X W) (t : Tgs X ts is) (h : PEv X Ca W e fe) (pl : plainV e = true) (sw : swappedStores [.Tuple ts k p] e X.env = pure none) :
    PSv X Ca W (.Assign [.Tuple ts k p] e pos) fun s => (fe s).out fun x s => match x.2 with
      | .tup ds => (Res.of (setSlots s is ds) s).out fun s' _ => .nx s'
      | _ => .no := by
  obtain ⟨h1, h2, h3⟩ := t.pgs gd
  refine PS.imp (ps_asg h (pg_tup gd.hc h1 h2 h3) (by unfold swapsWithSole; exact noSwap pl) sw) fun T σ H ⟨Pr, F, ρ, s, S, q⟩ => ?_
  refine ⟨Pr, F, ρ, s, S, (AnsS.bind (σ := σ) (Rl := RV Ca Pr σ) q).mono ?_⟩
  rintro v H1 ⟨⟨o, d⟩, s1, F1, ρ1, gr, S1, tv, q1⟩
  obtain ⟨F2, g2, S2, r⟩ := S1.freeze tv
  have q2 := q1.start g2
  cases d <;> try exact q2.elim
  rename_i ds
  simp only [Rep] at r
  obtain ⟨a, vs, rfl, fa, ha, l⟩ := r
  obtain ⟨s', e', q3⟩ := AnsS.of q2
  exact ⟨a, vs, rfl, SqT.of ha, by rw [← l.len, ← slots_len e'], names_run is ds vs s1 s' F2 ρ1 σ H1 S2 l e' fun σ' S' => q3 F2 ρ1 σ' H1 (Gr.refl _ _ _) S'⟩
theorem not_loc {x : Str} {i : Nat} (h : nameLoc Γ x = none) (h2 : nameIx Γ x = some i) : Γ.sc.names.lookup x ≠ some .local := fun e => by
  unfold nameLoc at h
  unfold nameIx at h2
  rw [e] at h h2
  simp only at h h2
  rw [h] at h2; cases h2
theorem par_any {W : WX} {x y : Str} {px py pt pt2 pos : Pos} {kt k2 n : Nat} {a b : Expr} {i j : Nat} {vs : Exs} (B : FitB T cl X Ca lv Γ) (f : Fit T cl X Ca W lv Γ) (N : ∀ n, SndN T cl n) (hno : Γ.sc.names.lookup x ≠ some .local ∨ Γ.sc.names.lookup y ≠ some .local) (h1 : nameIx Γ x = some i) (h2 : nameIx Γ y = some j) (h3 : compEs n Γ false [a, b] = some vs) :
    PSv X Ca W (.Assign [.Tuple [.Name x px, .Name y py] kt pt] (.Tuple [a, b] k2 pt2) pos) (evS T.g cl (.asgT [i, j] (.tup vs))) := by
  have e : X.env.scope = Γ.sc := f.sc
  refine (ss_asgTn f.c.gd (.cons (tg_of B f h1) (.cons (tg_of B f h2) .nil)) (r_tup ((N n).es f h3)) rfl (sw2n ?_)).eq fun s => by rw [evS]; first | done | rfl
  unfold Env.kindOf
  rw [e]
  exact hno
theorem par_cell {W : WX} {x y : Str} {px py pt pt2 pos : Pos} {kt k2 n : Nat} {a b : Expr} {i j : Nat} {vs : Exs} (B : FitB T cl X Ca lv Γ) (f : Fit T cl X Ca W lv Γ) (N : ∀ n, SndN T cl n) (hno : nameLoc Γ x = none) (h1 : nameIx Γ x = some i) (h2 : nameIx Γ y = some j) (h3 : compEs n Γ false [a, b] = some vs) :
    PSv X Ca W (.Assign [.Tuple [.Name x px, .Name y py] kt pt] (.Tuple [a, b] k2 pt2) pos) (evS T.g cl (.asgT [i, j] (.tup vs))) := par_any B f N (.inl (not_loc hno h1)) h1 h2 h3
theorem par_cell2 {W : WX} {x y : Str} {px py pt pt2 pos : Pos} {kt k2 n : Nat} {a b : Expr} {i j : Nat} {vs : Exs} (B : FitB T cl X Ca lv Γ) (f : Fit T cl X Ca W lv Γ) (N : ∀ n, SndN T cl n) (hno : nameLoc Γ y = none) (h1 : nameIx Γ x = some i) (h2 : nameIx Γ y = some j) (h3 : compEs n Γ false [a, b] = some vs) :
    PSv X Ca W (.Assign [.Tuple [.Name x px, .Name y py] kt pt] (.Tuple [a, b] k2 pt2) pos) (evS T.g cl (.asgT [i, j] (.tup vs))) := par_any B f N (.inr (not_loc hno h2)) h1 h2 h3
/-- one step -/
theorem s_step {n : Nat} (B : FitB T cl X Ca lv Γ) (ih : ∀ {sts : List Stmt} {c : Sms}, compSs n Γ sts = some c → SsOk T cl X Ca sts (evSs T.g cl c)) {st : Stmt} {c : Sm} (h : compS (n + 1) Γ st = some c) : SOk T cl X Ca st (evS T.g cl c) := by
  intro pn xe W tk po
  have f := B.fit pn xe W tk
  have B' : FitB T cl (X.tr pn xe) Ca lv Γ := ⟨B.fit, B.st, B.fm, B.fn⟩
  have N := snd_all T cl
  have gd := f.c.gd
  unfold compS at h
  split at h
  · obtain ⟨y, hy, rfl⟩ := Option.map_eq_some_iff.mp h
    exact (ss_ret ((N n).e f hy)).eq fun s => by rw [evS]
  · split at h
    · cases h
    · rename_i hl
      obtain ⟨y, hy, rfl⟩ := Option.map_eq_some_iff.mp h
      exact (ss_exp ((N n).e f hy) (isLc_of hy (by simpa using hl))).eq fun s => by rw [evS]
  · rename_i y yp elt gs scope pos spos
    split at h
    · rename_i hc
      rw [Bool.and_eq_true, Bool.not_eq_true'] at hc
      split at h
      · rename_i k v h1 h2
        cases h
        obtain ⟨l1, l2⟩ := ix_loc h1
        have e1 : (X.tr pn xe).env.scope.names.lookup y = some NameKind.local := by rw [f.sc]; exact l1
        have e2 : (X.tr pn xe).N[k]? = some y := by rw [f.N]; exact l2
        unfold compE at h2
        split at h2 <;> rename_i heq <;> (try cases heq) <;> (try (cases h2; done))
        · split at h2
          · rename_i ho
            split at h2
            · rename_i hb
              rw [Bool.and_eq_true] at hb
              split at h2
              · rename_i q1 q2 q3
                cases h2
                obtain ⟨xp, rfl⟩ := own_name ho
                exact (ss_asgLcY gd f.c.cn e2 e1 (by rw [f.sc]; exact f.kd) hc.1 hc.2 ((N n).i f q1) (by rw [f.N, f.sc]; exact (blkC_ok hb.1).1) (lc_blk (N n) f hb.1 q2 q3) (set_none hb.2 X.env)).eq fun s => by rw [evS, ev_lc]
              · cases h2
            · cases h2
          · cases h2
        · split at h2
          · rename_i ho1 ho2
            split at h2
            · rename_i hb
              rw [Bool.and_eq_true, Bool.and_eq_true] at hb
              split at h2
              · rename_i q1 q2 q3 q4
                cases h2
                obtain ⟨xp, rfl⟩ := own_name ho1
                obtain ⟨yp, rfl⟩ := own_name ho2
                exact (ss_asgLc2Y gd f.c.cn e2 e1 (by rw [f.sc]; exact f.kd) hc.1 hc.2 ((N n).i f q1) (by rw [f.N, f.sc]; exact (blkC_ok hb.1.1).1) (lc2_blk (N n) f hb.1.1 q2 q3 q4) (set_none hb.1.2 X.env) (set_none hb.2)).eq fun s => by rw [evS, ev_lc2]
              · cases h2
            · cases h2
          · cases h2
      · cases h
    · cases h
  · rename_i y yp v pos na
    split at h
    · rename_i i w h1 h2
      cases h
      have hl : isLc v = false := by
        cases v <;> first | rfl | exact absurd rfl (na _ _ _ _)
      exact (ss_asg gd (tg_of B' f h1) ((N n).e f h2) (isLc_of h2 hl)).eq fun s => by rw [evS]
    · cases h
  · rename_i x px y py kt pt a b k2 pt2 pos
    split at h
    · rename_i hc
      rw [Bool.and_eq_true, Bool.and_eq_true, decide_eq_true_eq] at hc
      split at h
      · rename_i i j vs h1 h2 h3
        split at h
        · rename_i hij
          cases h
          obtain ⟨l1, m1⟩ := ix_loc h1
          obtain ⟨l2, m2⟩ := ix_loc h2
          have bk : X.env.blockKind = .function := by
            unfold Env.blockKind
            have e : X.env.scope = Γ.sc := f.sc
            rw [e, f.kd]; rfl
          have k1 : X.env.kindOf x = some .local := by unfold Env.kindOf; rw [show X.env.scope = Γ.sc from f.sc]; exact l1
          have k2 : X.env.kindOf y = some .local := by unfold Env.kindOf; rw [show X.env.scope = Γ.sc from f.sc]; exact l2
          exact (ss_par2 gd (by rw [f.N]; exact m1) (by rw [f.N]; exact m2) hij (by rw [f.sc]; exact l1) (by rw [f.sc]; exact l2) (sw2 bk k1 k2 hc.1.2 hc.1.1 (plains_of h3) hc.2) ((N n).x2 f h3)).eq fun s => by rw [evS]
        · cases h
      · rename_i hno
        split at h
        · rename_i i j vs h1 h2 h3
          cases h
          exact par_cell B' f N (by assumption) h1 h2 h3
        · cases h
      · rename_i hno
        split at h
        · rename_i i j vs h1 h2 h3
          cases h
          exact par_cell2 B' f N (by assumption) h1 h2 h3
        · cases h
      · cases h
    · cases h
  · rename_i x px y py z pz kt pt a b c k2 pt2 pos
    split at h
    · rename_i hc
      simp only [Bool.and_eq_true, decide_eq_true_eq] at hc
      obtain ⟨⟨⟨⟨⟨c1, c2⟩, c3⟩, c4⟩, c5⟩, c6⟩ := hc
      split at h
      · rename_i i j l vs h1 h2 h3 h4
        split at h
        · rename_i hij
          cases h
          obtain ⟨l1, m1⟩ := ix_loc h1
          obtain ⟨l2, m2⟩ := ix_loc h2
          obtain ⟨l3, m3⟩ := ix_loc h3
          have bk : X.env.blockKind = .function := by
            unfold Env.blockKind
            have e : X.env.scope = Γ.sc := f.sc
            rw [e, f.kd]; rfl
          have k1 : X.env.kindOf x = some .local := by unfold Env.kindOf; rw [show X.env.scope = Γ.sc from f.sc]; exact l1
          have k2 : X.env.kindOf y = some .local := by unfold Env.kindOf; rw [show X.env.scope = Γ.sc from f.sc]; exact l2
          have k3 : X.env.kindOf z = some .local := by unfold Env.kindOf; rw [show X.env.scope = Γ.sc from f.sc]; exact l3
          exact (ss_par3 gd (by rw [f.N]; exact m1) (by rw [f.N]; exact m2) (by rw [f.N]; exact m3) hij.1 hij.2.1 hij.2.2 (by rw [f.sc]; exact l1) (by rw [f.sc]; exact l2) (by rw [f.sc]; exact l3) (sw3 bk k1 k2 k3 c4 c5 c1 c2 c3 (plains_of h4) c6) ((N n).x2 f h4)).eq fun s => by rw [evS]
        · cases h
      · cases h
    · cases h
  · split at h
    · cases h
    · rename_i hc
      rw [Bool.or_eq_true, not_or, Bool.not_eq_true, Bool.not_eq_true] at hc
      split at h
      · rename_i h1 h2
        cases h
        exact (ss_asgT gd (tgs_of B' f h1) ((N n).e f h2) (isLc_of h2 hc.2) (notTup_of hc.1)).eq fun s => by rw [evS]; first | done | rfl
      · cases h
  · split at h
    · cases h
    · rename_i hl
      split at h
      · rename_i h1 h2 h3
        cases h
        exact (ss_setI gd (ph_of f h1 ((N n).e f h1)) ((N n).e f h2) ((N n).e f h3) (isLc_of h3 (by simpa using hl)) (plain_of h2)).eq fun s => by rw [evS]; first | done | rfl
      · cases h
  · split at h
    · rename_i h1 h2
      cases h
      exact (ss_setF (g := T.g) f.wld.fld ((N n).e f h1) ((N n).e f h2)).eq fun s => by rw [evS]; first | done | rfl
    · cases h
  · split at h
    · rename_i h1 h2
      cases h
      exact (ss_aug gd (tg_of B' f h1) ip_add aug_add ((N n).e f h2)).eq fun s => by rw [evS]
    · cases h
  · split at h
    · rename_i h1 h2
      cases h
      exact (ss_aug gd (tg_of B' f h1) ip_sub aug_sub ((N n).e f h2)).eq fun s => by rw [evS]
    · cases h
  · split at h
    · rename_i h1 h2 h3
      cases h
      exact (ss_ite ((N n).t f h1) (ih h2 pn xe W tk po) (ih h3 pn xe W tk po)).eq fun s => by rw [evS]
    · cases h
  · split at h
    · rename_i h1 h2
      cases h
      exact (ss_whl (N := T.g.fuel) po ((N n).t f h1) (ih h2 pn xe W tk po)).eq fun s => by rw [evS]
    · cases h
  · split at h
    · rename_i hn
      split at h
      · rename_i h1 h2 h3
        cases h
        exact (ss_for (N := T.g.fuel) gd po (tg_of B' f h1) ((N n).fi f h2) (ih h3 pn xe W tk po) (set_none hn X.env)).eq fun s => by rw [evS]; first | done | rfl
      · cases h
    · cases h
  · cases h
    exact ss_brk.eq fun s => by rw [evS]
  · cases h
    exact ss_cont.eq fun s => by rw [evS]
  · split at h
    · rename_i hg
      split at h
      · rename_i cc hc
        split at h
        · rename_i he
          cases h
          obtain ⟨n1, m⟩ := f.gm.cls _ _ hc
          obtain ⟨e1, ⟨B0, i1, i2, bm, e2, e3⟩, e4, e5, _⟩ := f.gm.exc _ he
          have cn := f.c.cn
          refine (ss_raise gd ?_).eq fun s => by rw [evS]
          have ca : Ca cc = T.ca cc := congrFun f.ca cc
          rw [ca]
          exact pmk_own e2 (by rw [cn.K]; exact e3) (by rw [f.mg]; exact m) (by rw [cn.K]; exact e1) (raises_own (by rw [cn.K]; exact e4) (by rw [cn.K]; exact e5)) (f.gl hg) n1
        · cases h
      · cases h
    · cases h
  · rename_i b x np e y yp e' np2 p3 p4 pos
    split at h
    · rename_i hg
      simp only [Bool.and_eq_true, decide_eq_true_eq] at hg
      obtain ⟨⟨hg, rfl⟩, hne⟩ := hg
      split at h
      · rename_i cb cc i j h1 h2 h3 h4
        split at h
        · rename_i hc
          rw [Bool.and_eq_true, decide_eq_true_eq] at hc
          cases h
          obtain ⟨l1, m1⟩ := ix_loc h3
          obtain ⟨l2, m2⟩ := ix_loc h4
          obtain ⟨n1, m⟩ := f.gm.cls _ _ h2
          obtain ⟨_, _, _, _, ex⟩ := f.gm.exc _ hc.1
          obtain ⟨d1, d2⟩ := f.nn e (List.mem_of_getElem? m1)
          have cn := f.c.cn
          have ca : ∀ d, Ca d = T.ca d := fun d => congrFun f.ca d
          have t1 : Tg (X.tr pn xe) e i := ⟨by rw [f.N]; exact m1, .inl (by rw [f.sc]; exact l1), .inl (B.fn e)⟩
          have t2 : Tg (X.tr pn xe) y j := ⟨by rw [f.N]; exact m2, .inl (by rw [f.sc]; exact l2), .inl (B.fn y)⟩
          exact (ss_try (g := T.g) (cc := cc) (fb := evSs T.g cl cb) gd B.st B.fm t1 t2 (by unfold Env.kindOf; rw [f.sc]; exact l1) (.inl (by rw [f.sc]; exact l1)) d1 d2 ⟨f.gl hg, n1, .inl (by rw [f.mg, m, ca])⟩ hc.2 (fun d k hk => by rw [ca, ca, cn.K]; exact ex d k hk) (fun W' pn' xe' tk' po' => ih h1 pn' xe' W' tk' po')).eq fun s => by rw [evS]; unfold tryO; first | done | rfl | (cases evSs T.g cl cb s <;> rfl)
        · cases h
      · cases h
    · cases h
  · cases h
theorem ss_all (B : FitB T cl X Ca lv Γ) : ∀ (n : Nat) {sts : List Stmt} {c : Sms}, compSs n Γ sts = some c → SsOk T cl X Ca sts (evSs T.g cl c)
  | 0, sts, c, h => by unfold compSs at h; cases h
  | n + 1, [], c, h => by
    unfold compSs at h
    cases h
    intro pn xe W tk po
    exact PSs.imp ss_nil fun T' σ H q => by
      obtain ⟨Pr, F, ρ, s, S, w⟩ := q
      exact ⟨Pr, F, ρ, s, S, by rw [evSs] at w; exact w⟩
  | n + 1, st :: r, c, h => by
    unfold compSs at h
    split at h
    · rename_i a b h1 h2
      cases h
      intro pn xe W tk po
      have hs : PSv (X.tr pn xe) Ca W st (evS T.g cl a) := by
        cases n with
        | zero => unfold compS at h1; cases h1
        | succ m => exact s_step B (fun h => ss_all B m h) h1 pn xe W tk po
      exact PSs.imp (ss_cons hs (ss_all B n h2 pn xe W tk po)) fun T' σ H q => by
        obtain ⟨Pr, F, ρ, s, S, w⟩ := q
        exact ⟨Pr, F, ρ, s, S, by rw [evSs] at w; exact w⟩
    · cases h
end
end Iv
end
section
set_option Elab.async false
set_option linter.all false
set_option maxRecDepth 100000
set_option maxHeartbeats 4000000
/-! All functions of a text. My own work. -/
namespace Iv
open PySem L2 PySem.Spec PyProof.Rows
open PySem (Str)

/-- the text's lambdas fit -/
def Tx.full (T : Tx) : Tx := { T with lfit := fun i ps body sc => ps = noArgs ∧ (∃ sc0, lamC sc0 sc = true) ∧ i.names = caught sc ∧ ∃ n Γ, GmOk T Γ ∧ Γ.N = caught sc ∧ Γ.sc = sc ∧ Γ.lam = false ∧ (∀ x ∈ Γ.N, (x == ("__debug__" : Str)) = false ∧ (x == ("__classdict__" : Str)) = false) ∧ compE n Γ false body = some i.body }
theorem GmOk.full {T : Tx} {Γ : Gm} (h : GmOk T Γ) : GmOk T.full Γ := ⟨h.con, h.cls, h.ins, h.exc, h.fn, h.kw, h.bi⟩
/-- what the text's tables must hold of a def -/
structure FnT (T : Tx) (f : Nat) (d : Fn) : Prop where
  ex : ∃ (name qual : Str) (params : Arguments) (body : List Stmt) (scope : Scope) (dV kV doc pm cdv ct oc : Value) (an od : Option Addr) (osl : Array (Option Value)) (n : Nat) (Γ : Gm),
    T.K.lookup (T.fa f) = some ⟨oc, od, .func (PySem.W.fnOf name qual params body scope dV kV doc pm an cdv ct), osl⟩ ∧ T.fd f = PySem.W.fnOf name qual params body scope dV kV doc pm an cdv ct ∧ PySem.W.codeIn T.K cdv qual = true ∧ FnScope Γ.N (T.ps f) scope ∧
    compSs n Γ body = some d.body ∧ d.np = (T.ps f).length ∧ d.nl = Γ.N.length ∧ Γ.sc = scope ∧ GmOk T Γ ∧ (∀ x ∈ Γ.N, (x == ("__debug__" : Str)) = false ∧ (x == ("__classdict__" : Str)) = false) ∧
    (Γ.lam = true → Γ.qual = qual ++ ".<locals>." ∧ ∃ P, cdv = .ref (T.tc P) ∧ (P, Γ.qual ++ "<lambda>") ∈ T.tabs ∧ ∀ p ∈ T.tabs, p.1 = P → p.2 = Γ.qual ++ "<lambda>")
section
variable {T : Tx} {X : Cx}
theorem celB_ok {pins : List (Addr × Obj)} {σ : L2.St} {H : Hp} {s : Shared} {i : Lm} {cl : List (Str × Addr)} {vs : List V} (c : CelB X.base i cl vs) (I : Inv X pins σ H s) : ∀ (j : Nat) (y : Str) (v : V), i.names[j]? = some y → vs[j]? = some v → ∃ a u, cl.lookup y = some a ∧ RelV v u ∧ CelAt X s.heap H a u := fun j y v h1 h2 => by
  obtain ⟨a, u, o, e1, r, e2, e3⟩ := c.2.2 j y v h1 h2
  refine ⟨a, u, e1, r, o, (I.bs a o e2).1, e3, (I.bs a o e2).2, fun hm => ?_⟩
  have := (I.stack.mem hm).1
  rw [e2] at this; cases this
theorem cb_ok {i : Lm} {sc : Scope} {base : Heap} {A : Around} {outer : List Env} {s : Shared} {H : Hp} {E : XK} {f d : Addr} {cl : List (Str × Addr)} : CnOk T (lmCx T base A outer s H E i sc f d cl) (T.cb base) :=
  ⟨rfl, rfl, rfl, rfl, ⟨rfl, rfl, rfl⟩, fun j cl' vs c => ⟨c.1, c.2.1, fun pins σ H' s' I => celB_ok c I⟩, fun _ _ h => h.elim⟩
theorem lamC_of {sc scope : Scope} (h : lamC sc scope = true) : scope.kind = .function ∧ scope.isCoroutine = false ∧ scope.isGenerator = false ∧ (caught scope).Nodup ∧ (∀ y ∈ scope.names, y.2 ≠ .local ∧ y.2 ≠ .cell) ∧ (∀ y ∈ scope.names, y.2 = .free → y.1 ∈ caught scope) ∧ ∀ y ∈ scope.names, y.2 = .free → sc.names.lookup y.1 = some .cell ∨ sc.names.lookup y.1 = some .free := by
  unfold lamC at h
  simp only [Bool.and_eq_true, decide_eq_true_eq, Bool.not_eq_true', List.all_eq_true] at h
  obtain ⟨⟨⟨⟨h1, h2⟩, h3⟩, h4⟩, h5⟩ := h
  refine ⟨h1, h2, h3, h4, fun y hy => ?_, fun y hy e => ?_, fun y hy e => ?_⟩
  · have q := h5 y hy
    constructor <;> (intro e; simp [e] at q)
  · unfold caught
    exact List.mem_filterMap.mpr ⟨y, hy, by rw [e]⟩
  · have q := h5 y hy
    rw [e] at q
    dsimp only at q
    split at q <;> first | exact .inl (by assumption) | exact .inr (by assumption) | cases q
theorem caught_free {scope : Scope} {x : Str} (h : x ∈ caught scope) : (x, NameKind.free) ∈ scope.names := by
  unfold caught at h
  obtain ⟨y, hy, e⟩ := List.mem_filterMap.mp h
  obtain ⟨n, k⟩ := y
  cases k <;> simp at e
  subst e; exact hy
/-- cells of a lambda that a def makes -/
theorem clo_at {cells : List (Str × Addr)} {scope : Scope} {y : Str} {c : Addr} (h : (cloFrom cells scope.names []).lookup y = some c) (has : ∀ y ∈ scope.names, y.2 = .free → ∃ c, cells.lookup y.1 = some c) : cells.lookup y = some c ∧ y ∈ caught scope := by
  rcases cloFrom_mem (PySem.mem_of_lookup h) with hm | ⟨h1, h2⟩
  · cases hm
  · obtain ⟨c1, hc⟩ := has _ h1 rfl
    have hc : cells.lookup y = some c1 := hc
    refine ⟨by rw [h2, hc]; rfl, ?_⟩
    unfold caught
    exact List.mem_filterMap.mpr ⟨_, h1, rfl⟩
theorem clo_has {cells : List (Str × Addr)} {scope : Scope} {y : Str} {c : Addr} (h : y ∈ caught scope) (hc : cells.lookup y = some c) (has : ∀ y ∈ scope.names, y.2 = .free → ∃ c, cells.lookup y.1 = some c) : (cloFrom cells scope.names []).lookup y = some c := by
  obtain ⟨c', e⟩ := mem_lookup (cloFrom_has (cells := cells) (acc := []) (caught_free h))
  have := (clo_at e has).1
  rw [hc] at this
  cases this
  exact e
end
section
variable {T : Tx} {cl : Callee} {lv : Nat}
/-- a def's knowledge of the lambdas that it makes -/
def ownL (Γ : Gm) (cells : List (Str × Addr)) (i : Lm) (cs : List (Str × Addr)) : Prop := ∃ sc, lamC Γ.sc sc = true ∧ i.names = caught sc ∧ (caught sc).mapM (fun y => idx y Γ.N) = some i.cs ∧ cs = cloFrom cells sc.names []
theorem fn_one {base : Heap} {f : Nat} {d : Fn} (bo : BaseOk T.full base) (ft : FnT T f d) (wl : ∀ Cb : Cn, Cb.ca = T.ca → Wld T.K Cb T.g) (hf : ∀ f, Fns T.full lv (T.fa f) (T.fd f) (T.ps f) (cl (.inl f))) (hl : ∀ l, Lms T.full lv l (cl (.inr l))) :
    FnG T.full base (lv + 2) (T.fa f) (T.fd f) (T.ps f) (Spec (T.full.cb base) (runF T.g cl d)) := by
  obtain ⟨name, qual, params, body, scope, dV, kV, doc, pm, cdv, ct, oc, an, od, osl, n, Γ, lk, efd, cd, fs, hc, hnp, hnl, hsc, gm, nn, lam⟩ := ft.ex
  rw [efd]
  have len : ∀ vs H Q E, Spec (T.full.cb base) (runF T.g cl d) vs H Q E → vs.length = (T.ps f).length := fun vs H Q E ⟨Pr, F, ρ, μ, ds, S, l, q⟩ => by
    unfold runF at q
    by_cases hl : ds.length = d.np
    · rw [← l.len, hl, hnp]
    · rw [if_neg hl] at q
      exact q.elim
  refine fnG_of (T := T.full) lk cd fs len fun A fr s H vs Q E room gu sp => ?_
  have hlen := len _ _ _ _ sp
  obtain ⟨Pr, F, ρ, μ, ds, S, l, q⟩ := sp
  let X : Cx := cxOf (L2.CX T.P T.w) T.P T.w T.K T.mg base Γ.N qual scope (T.fa f) cdv A fr s H E
  let Ca : Cn := T.full.cn (ownL Γ X.env.cells) (CelB base)
  have al : Alike Ca (T.full.cb base) := ⟨rfl, rfl, rfl⟩
  have has : ∀ {y : Str}, (Γ.sc.names.lookup y = some .cell ∨ Γ.sc.names.lookup y = some .free) → ∃ c, X.env.cells.lookup y = some c := fun {y} h => by
    rw [hsc] at h
    rcases h with h | h
    · exact cell_has h
    · exact absurd rfl (fs.nofree _ (PySem.mem_of_lookup h))
  have hasL : ∀ {sc : Scope}, lamC Γ.sc sc = true → ∀ y ∈ sc.names, y.2 = .free → ∃ c, X.env.cells.lookup y.1 = some c := fun {sc} h y hy e => has ((lamC_of h).2.2.2.2.2.2 y hy e)
  have inj : ∀ x y c, X.env.cells.lookup x = some c → X.env.cells.lookup y = some c → x = y := fun x y c h1 h2 => by
    have h1 : (cellsFrom (s.heap.objs.size + 1) scope.names []).lookup x = some c := h1
    have h2 : (cellsFrom (s.heap.objs.size + 1) scope.names []).lookup y = some c := h2
    rw [← Heap.size_push s.heap { cls := .type "dict", data := .dict #[] }] at h1 h2
    exact cells_inj (fun p hp => by cases hp) (fun x y c h => by cases h) (PySem.mem_of_lookup h1) (PySem.mem_of_lookup h2)
  have cnok : ∀ (pn : List (Addr × Obj)) (xe : Value → Shared → Prop), CnOk T.full (X.tr pn xe) Ca := fun pn xe => by
    refine ⟨rfl, rfl, rfl, rfl, ⟨rfl, rfl, rfl⟩, fun i cs vs c => ⟨c.1, c.2.1, fun pins σ H' s' I => celB_ok c I⟩, fun i cs ow => ?_⟩
    obtain ⟨sc, h1, h2, h3, rfl⟩ := ow
    have hL := hasL h1
    obtain ⟨m1, m2⟩ := mapM_len h3
    refine ⟨⟨fun x y c e1 e2 => inj x y c (clo_at e1 hL).1 (clo_at e2 hL).1, fun y c e => by rw [h2]; exact (clo_at e hL).2⟩, by rw [m1, h2], fun pins σ H' s' I j m y v e1 e2 e3 => ?_⟩
    rw [h2] at e1
    obtain ⟨m', hm', hj⟩ := m2 j y e1
    rw [e2] at hj; cases hj
    have hN := idx_at hm'
    have my := List.mem_of_getElem? e1
    have hk := (lamC_of h1).2.2.2.2.2.2 _ (caught_free my) rfl
    obtain ⟨mm, hn, hv⟩ := I.loc
    have vis : Vis (X.tr pn xe).env.scope y := by
      show Vis scope y
      rw [hsc] at hk
      rcases hk with k | k
      · exact .inr (.inl k)
      · exact .inr (.inr k)
    obtain ⟨u, r, lo⟩ := hv m y v hN e3 vis
    rcases lo with ⟨k, _⟩ | ⟨_, c, ec, cell⟩
    · have k : scope.names.lookup y = some .local := k
      rw [hsc] at hk
      rcases hk with k2 | k2 <;> (rw [k] at k2; cases k2)
    · have ec' : X.env.cells.lookup y = some c := ec
      obtain ⟨o, ho, hd⟩ := cell
      refine ⟨c, u, clo_has my ec' hL, r, o, ho, hd, I.freeC y c ec, fun hm => ?_⟩
      have hm : c ∈ frs ((X.tr pn xe).env :: fr) := hm
      rcases List.mem_filterMap.mp hm with ⟨e, he, hfr⟩
      rcases List.mem_cons.mp he with rfl | he
      · have : c = (X.tr pn xe).env.locals := by cases hfr; rfl
        obtain ⟨ob, es, ep, ho2, hd2, _⟩ := hn
        rw [← this, ho] at ho2
        cases ho2
        rw [hd] at hd2; cases hd2
      · have hc2 : c ∈ frs fr := List.mem_filterMap.mpr ⟨e, he, hfr⟩
        obtain ⟨_, o2, ho2, _⟩ := I.ok.funs.mem hc2
        have a1 := Heap.lt_size ho2
        have a2 : s.heap.objs.size ≤ c := I.ok.cab y c rfl ec
        exact absurd (Nat.lt_of_lt_of_le a1 a2) (Nat.lt_irrefl _)
  have B : FitB T.full cl X Ca lv Γ := by
    refine ⟨fun pn xe W tk => ⟨⟨⟨rfl, tk, fs.nd, room.units, gu⟩, cnok pn xe, bo, room⟩, rfl, hsc.symm, by rw [hsc]; exact fs.kind, gm.full, wl, nn, hf, hl, fun hlam => ?_⟩, rfl, rfl, fun _ => rfl⟩
    obtain ⟨q1, P, q2, q3, q4⟩ := lam hlam
    refine ⟨q1.symm, ⟨P, q2, q3, q4⟩, fun sc cs body n e h1 h2 h3 => ⟨⟨sc, h1, rfl, h2, rfl⟩, ⟨rfl, ⟨_, h1⟩, rfl, n, lamΓ Γ sc, gm.lam, rfl, rfl, rfl, fun x hx => ?_, h3⟩, hasL h1⟩⟩
    obtain ⟨j, hj⟩ := List.mem_iff_getElem?.mp hx
    obtain ⟨z, hz, _⟩ := (mapM_len h2).2 j x hj
    exact nn x (List.mem_of_getElem? (idx_at hz))
  have ok := ss_all B n hc X.pn X.xe (fun cls dd _ H' => E cls dd H') (takes_of (X := X) (E := E) rfl rfl rfl rfl) (passes_of (X := X) rfl)
  refine ⟨_, ok, Pr, F, ρ, ⟨(ds.map fun a => some (false, a)) ++ List.replicate (d.nl - d.np) none, μ⟩, ?_, ?_⟩
  · have S1 : Sta Ca Pr F ρ ⟨[], μ⟩ [] H := S.cn al.symm (fun _ _ h => h.elim) fun _ _ _ h => h
    have l1 := RepL.alike al.symm.ca _ _ l
    refine S1.slots rfl ?_ fun j x e => .inr ?_
    · unfold L2.start
      simp only [List.length_append, List.length_map, List.length_replicate]
      rw [l.len, hnl, hnp, hlen]
      exact Nat.le_refl _
    · have e : ((ds.map fun a => some (false, a)) ++ List.replicate (d.nl - d.np) none)[j]? = some (some x) := e
      by_cases hj : j < ds.length
      · rw [List.getElem?_append_left (by simpa using hj), List.getElem?_map] at e
        obtain ⟨y, hy, ey⟩ := Option.map_eq_some_iff.mp e
        cases ey
        obtain ⟨v, hv, r⟩ := l1.get hy
        refine ⟨rfl, v, ?_, r⟩
        unfold L2.start
        rw [List.getElem?_append_left (by rw [List.length_map, ← l.len]; exact hj), List.getElem?_map, hv]; rfl
      · rw [List.getElem?_append_right (by simpa using hj), List.getElem?_replicate] at e
        split at e <;> cases e
  · unfold runF at q
    rw [if_pos (by rw [hnp, l.len, hlen])] at q
    revert q
    show _ → AnsS Ca _ Pr F ρ H (evSs T.g cl d.body _) _
    cases evSs T.g cl d.body ⟨(ds.map fun a => some (false, a)) ++ List.replicate (d.nl - d.np) none, μ⟩ with
    | nx st => exact fun q F' ρ' σ' H' gr S' => q F' ρ' H' .non gr (S'.shut al) (tmp_of (by simp only [Rep]))
    | rt o v st => exact fun q F' ρ' σ' H' v gr S' t => q F' ρ' H' v gr (S'.shut al) (Tmp.shut (Ca := Ca) (Cb := T.full.cb base) rfl t _)
    | ex c st => exact fun q F' ρ' σ' H' gr S' => q F' ρ' H' gr (S'.shut al)
    | bk st => exact fun q => q.elim
    | ct st => exact fun q => q.elim
    | no => exact fun q => q
theorem lm_one {base : Heap} {i : Lm} (bo : BaseOk T.full base) (wl : ∀ Cb : Cn, Cb.ca = T.ca → Wld T.K Cb T.g) (hf : ∀ f, Fns T.full lv (T.fa f) (T.fd f) (T.ps f) (cl (.inl f))) (hl : ∀ l, Lms T.full lv l (cl (.inr l))) :
    LmG T.full base (lv + 2) i (runL T.g cl i) := by
  refine lmG_of (fe := evE T.g cl i.body) (fun ds μ hd => ?_) fun ps body sc fit => ?_
  · unfold runL
    rw [if_pos hd]
  · obtain ⟨rfl, ⟨sc0, h0⟩, hn, n, Γ, gm, hN, hs, hlam, nn, hb⟩ := fit
    obtain ⟨k1, k2, k3, k4, k5, k6, k7⟩ := lamC_of h0
    refine ⟨⟨k1, k2, k3, k5, fun y hy e => by rw [hn]; exact k6 y hy e, fun cl pm cv ct => rfl⟩, fun A fr s H E f d cs hI room gu => ?_⟩
    refine (snd_all T.full cl n).e (lv := lv) (Γ := Γ) ⟨⟨⟨rfl, takes_of rfl rfl rfl rfl, by show i.names.Nodup; rw [hn]; exact k4, room.units, gu⟩, cb_ok, bo, room⟩, by show i.names = Γ.N; rw [hN, hn], hs.symm, by rw [hs]; exact k1, gm.full, wl, nn, hf, hl, fun h => by rw [hlam] at h; cases h⟩ hb
/-- all at once -/
theorem fns_all (T : Tx) (wl : ∀ Cb : Cn, Cb.ca = T.ca → Wld T.K Cb T.g) (ft : ∀ f d, T.g.fns[f]? = some d → FnT T f d) : ∀ k, (∀ f, Fns T.full (2 * k) (T.fa f) (T.fd f) (T.ps f) (runI T.g k (.inl f))) ∧ ∀ l, Lms T.full (2 * k) l (runI T.g k (.inr l))
  | 0 => ⟨fun f base bo => ⟨fun vs H Q E ⟨_, _, _, _, _, _, _, q⟩ => q.elim, fun A fr s H args us vs Q E _ _ _ _ _ ⟨_, _, _, _, _, _, _, q⟩ => q.elim⟩, fun l base bo => ⟨fun A fr s H f d cl vs Q E _ _ _ _ _ _ ⟨_, _, _, _, _, _, _, q⟩ => q.elim⟩⟩
  | k + 1 => by
    obtain ⟨hf, hl⟩ := fns_all T wl ft k
    refine ⟨fun f base bo => ?_, fun l base bo => lm_one bo wl hf hl⟩
    cases hg : T.g.fns[f]? with
    | some d =>
      have e : runI T.g (k + 1) (.inl f) = runF T.g (runI T.g k) d := by
        funext as μ
        show (match T.g.fns[f]? with | some d => runF T.g (runI T.g k) d as μ | none => CRes.no) = _
        rw [hg]
      rw [e]
      exact fn_one bo (ft f d hg) wl hf hl
    | none =>
      have e : runI T.g (k + 1) (.inl f) = fun _ _ => .no := by
        funext as μ
        show (match T.g.fns[f]? with | some d => runF T.g (runI T.g k) d as μ | none => CRes.no) = _
        rw [hg]
      rw [e]
      exact ⟨fun vs H Q E ⟨_, _, _, _, _, _, _, q⟩ => q.elim, fun A fr s H args us vs Q E _ _ _ _ _ ⟨_, _, _, _, _, _, _, q⟩ => q.elim⟩
end
end Iv
end
section
set_option Elab.async false
set_option linter.all false
set_option maxRecDepth 100000
set_option maxHeartbeats 4000000
/-! A law's end. My own work. -/
namespace Iv
open PySem L2 PySem.Spec PyProof.Rows
open PySem (Str)

/-- the law is called: the script stands still, the tables are empty -/
theorem law_callG {T : Tx} {mb : Str → Option Value} {k : Nat} {fa a : Addr} {cs : List (Addr × Addr)} {fd : FuncData} {x : Str} {sp : Heap → Sp} {s₁ : Shared} {vs : List Value} {ns : List Int}
    (KX : T.K.In s₁.heap) (hns : s₁.heap.Ns mainGlobals T.mg) (hb : s₁.heap.Ns builtinsNs mb) (hbb : ∀ x : Str, x ≠ "__name__" → mb x = bootBuiltins x) (hlim : s₁.heap.NoLimit) (hg : s₁.gens = #[])
    (hT : ∀ p ∈ cs, s₁.heap.get? p.2 = some { cls := .none, data := .fields #[] }) (nT : ∀ p ∈ cs, T.K.lookup p.2 = none) (C : ∀ p ∈ cs, PySem.W.CodeHd s₁.heap p.1 p.2)
    (hbm : ∃ (bm : Addr) (ob : Obj), T.mg "__builtins__" = some (.ref bm) ∧ bm ≠ builtinsNs ∧ s₁.heap.get? bm = some ob ∧ ob.cls = .type "module" ∧ ob.dict = some builtinsNs ∧ ob.data = .plain)
    (ha : s₁.heap.get? a = some { cls := .type "list", data := .seq vs.toArray }) (hi : IntsAre vs ns) (hl : ns.length ≤ sizeLine) (hr : Room k callerA) (nl : T.K.lookup a = none)
    (F : ∀ base : Heap, T.K.In base → base.Ns mainGlobals T.mg → (∀ p ∈ cs, LamX.TabB base T.mg p.1 p.2) → FnG T base k fa fd [x] (sp base)) (hbind : ∀ (s : Shared) (u : Value), BindsTo s fd ⟨[u], []⟩ [(x, u)])
    (hsp : ∀ (base : Heap) (H : Hp) (o : Obj), (∀ p ∈ cs, H p.2 = some (.tbl #[])) → H a = some (.frz o (.lst (ns.map V.int))) → (∀ b u, H b = some u → b = a ∨ ∃ p ∈ cs, b = p.2) → (∀ p ∈ cs, p.2 ≠ a) → sp base [.ref a] H (fun v _ => v = .bl true) fun _ _ _ => False) :
    codeAny (model T.P T.w) callerA (.call (.ref fa) ⟨[.ref a], []⟩) (fun r s' => r = .ok (.ret (.bool true)) ∧ OldK s₁.heap s'.heap ∧ s'.os = s₁.os ∧ AllBare s'.gens) s₁ := by
  let tabs := cs.map (·.2)
  have rv := vals_ints hi
  have isT : ∀ b ∈ tabs, s₁.heap.get? b = some { cls := .none, data := .fields #[] } := fun b hb => by
    obtain ⟨p, hp, rfl⟩ := List.mem_map.mp hb
    exact hT p hp
  have aT : a ∉ tabs := fun z => by
    have q := isT a z
    rw [ha] at q
    cases congrArg Obj.data (Option.some.inj q)
  have inT : ∀ p ∈ cs, p.2 ∈ tabs := fun p hp => List.mem_map.mpr ⟨p, hp, rfl⟩
  let sl : Obj := { cls := .type "list", data := .seq vs.toArray }
  let H : Hp := fun b => if b = a then some (.frz sl (.lst (ns.map V.int))) else if b ∈ tabs then some (.tbl #[]) else none
  have Ha : H a = some (.frz sl (.lst (ns.map V.int))) := if_pos rfl
  have Ht : ∀ b ∈ tabs, H b = some (.tbl #[]) := fun b hb => (if_neg (fun z : b = a => aT (by rw [← z]; exact hb))).trans (if_pos hb)
  have Hn : ∀ b, b ≠ a → b ∉ tabs → H b = none := fun b h1 h2 => (if_neg h1).trans (if_neg h2)
  have Hc : ∀ b u, H b = some u → (b = a ∧ u = .frz sl (.lst (ns.map V.int))) ∨ (b ∈ tabs ∧ u = .tbl #[]) := fun b u e => by
    by_cases h1 : b = a
    · subst h1; rw [Ha] at e; cases e; exact .inl ⟨rfl, rfl⟩
    · by_cases h2 : b ∈ tabs
      · rw [Ht b h2] at e; cases e; exact .inr ⟨h2, rfl⟩
      · rw [Hn b h1 h2] at e; cases e
  have free_ : ∀ {b : Addr} {o : Obj}, s₁.heap.get? b = some o → (∀ ys n, o.data ≠ .seq ys n) → o.data ≠ .fields #[] → H b = none := fun {b o} e h1 h2 => by
    refine Hn b (fun z => ?_) fun z => ?_
    · subst z; rw [ha] at e; cases e; exact h1 _ _ rfl
    · rw [isT b z] at e; cases e; exact h2 rfl
  have hok : HOk T.P T.w H s₁.heap := fun b u e => by
    rcases Hc b u e with ⟨rfl, rfl⟩ | ⟨h2, rfl⟩
    · exact ⟨ha, by rw [List.length_map]; exact hl, vs, _, rv, ha⟩
    · exact isT b h2
  let base := hidT s₁.heap H
  have up : ∀ {b : Addr} {o : Obj}, s₁.heap.get? b = some o → H b = none → base.get? b = some o := fun e n => hidT_get e n
  have nsUp : ∀ {b : Addr} {m : Str → Option Value}, s₁.heap.Ns b m → base.Ns b m := fun {b m} ⟨o, es, ep, e, d, r⟩ => ⟨o, es, ep, up e (free_ e (fun ys n z => by rw [d] at z; cases z) fun z => by rw [d] at z; cases z), d, r⟩
  have KB : T.K.In base := fun b o e => by
    refine up (KX b o e) (Hn b (fun z => ?_) fun z => ?_)
    · subst z; rw [nl] at e; cases e
    · obtain ⟨p, hp, rfl⟩ := List.mem_map.mp z
      rw [nT p hp] at e; cases e
  have hM : L2.Mod T.K T.mg base := ⟨KB, nsUp hns, ⟨mb, nsUp hb, hbb⟩, let ⟨mc, h1, h2⟩ := hlim; ⟨mc, nsUp h1, h2⟩⟩
  have TB : ∀ p ∈ cs, LamX.TabB base T.mg p.1 p.2 := fun p hp => by
    have hTp := hT p hp
    refine ⟨?_, ?_, fun z => ?_⟩
    · obtain ⟨o, us, file, tf, flags, tg, inF, text, tt, e1, r1, r2, r3, r⟩ := C p hp
      refine ⟨o, us, file, tf, flags, tg, inF, text, tt, up e1 (free_ e1 (fun ys n z => ?_) fun z => ?_), r1, r2, r3, r⟩
      · rw [r2] at z; cases z
      · rw [r2] at z; cases z
        simp at r3
    · obtain ⟨bm, ob, b1, b2, b3, b4, b5, b6⟩ := hbm
      refine ⟨bm, ob, b1, b2, fun q => ?_, fun q => ?_, up b3 (free_ b3 (fun ys n z => ?_) fun z => ?_), b4, b5, b6⟩
      · obtain ⟨o, es, ep, e, hd, _⟩ := hns
        rw [q, e] at b3
        cases b3
        rw [hd] at b6; cases b6
      · rw [q, hTp] at b3
        cases b3
        cases b6
      · rw [b6] at z; cases z
      · rw [b6] at z; cases z
    · obtain ⟨o, es, ep, e, hd, _⟩ := hns
      rw [z, hTp] at e
      cases e
      cases hd
  have e0 : Env0 T.P T.w T.K T.mg base callerA [] s₁ H := ⟨rfl, hM, fun b o e => of_hidT e, Nat.le_of_eq (hidT_size _ _), trivial, fun b hb => absurd (show b ∈ ([] : List Addr) from hb) (by simp), hok, .of_eq hg⟩
  refine codeAny_mono ((F base KB (nsUp hns) TB).go callerA [] s₁ H ⟨[.ref a], []⟩ [.ref a] [.ref a] _ _ hr rfl e0 (hbind s₁ (.ref a)) (.cons rfl .nil) (hsp base H sl (fun p hp => Ht _ (inT p hp)) Ha (fun b u e => ?_) fun p hp (z : p.2 = a) => aT (by rw [← z]; exact inT p hp))) fun r s' h => ?_
  · rcases Hc b u e with ⟨h1, _⟩ | ⟨h1, _⟩
    · exact .inl h1
    · obtain ⟨p, hp, q⟩ := List.mem_map.mp h1
      exact .inr ⟨p, hp, q.symm⟩
  · match r, h with
    | .error e, h =>
      obtain ⟨_, _, _, _, _, _, _, _, _, _, _, _, z⟩ := h
      exact z.elim
    | .ok (.ret u), ⟨v, H', os, bare, un, hok', r', q⟩ =>
      have q' : v = .bl true := q
      subst q'
      obtain rfl : u = Value.bool true := r'
      have grown : ∀ p ∈ cs, ∃ more : Array Value, s'.heap.get? p.2 = some { cls := .none, data := .fields more } := fun p hp => by
        obtain ⟨more, z⟩ := un.tbls p.2 #[] (Ht _ (inT p hp))
        exact ⟨_, hok' p.2 _ z⟩
      have same : ∀ b o, b ∉ tabs → s₁.heap.get? b = some o → s'.heap.get? b = some o := fun b o nb e => by
        by_cases h1 : b = a
        · subst h1
          obtain ⟨e1, _⟩ := hok' b _ (un.frzs b sl _ Ha)
          rw [ha] at e; cases e
          exact e1
        · exact un.keep b o e (Hn b h1 nb) (by intro z; exact absurd (show b ∈ ([] : List Addr) from z) (by simp)) (by simp)
      refine ⟨rfl, ⟨fun b o e => ?_, fun b o e => ?_⟩, os, bare⟩
      · by_cases hb : b ∈ tabs
        · obtain ⟨p, hp, rfl⟩ := List.mem_map.mp hb
          obtain ⟨more, hm⟩ := grown p hp
          rw [hT p hp] at e
          cases e
          exact .inr (.inl ⟨((C p hp).tab (hT p hp)).isCodeTable, rfl, #[], more, rfl, by rw [Array.empty_append]; exact hm⟩)
        · exact .inl (same b o hb e)
      · by_cases hb : b ∈ tabs
        · obtain ⟨p, hp, rfl⟩ := List.mem_map.mp hb
          exact ⟨_, (grown p hp).choose_spec⟩
        · exact ⟨o, same b o hb e⟩
/-- what the evaluator must tell of the law -/
theorem spec_law {T : Tx} {base : Heap} {run : List D → List Bx → CRes} {a : Addr} {H : Hp} {o : Obj} {ns : List Int} {cs : List (Addr × Addr)} (ht : ∀ p ∈ T.tabs, (∃ c, (c, p.1) ∈ cs)) (h1 : ∀ p ∈ cs, H p.2 = some (.tbl #[])) (h2 : H a = some (.frz o (.lst (ns.map V.int)))) (h3 : ∀ b u, H b = some u → b = a ∨ ∃ p ∈ cs, b = p.2) (h4 : ∀ p ∈ cs, p.2 ≠ a)
    (ev : ∃ ow μ, run [.scr (ns.map .int)] [] = .ok ow (.bl true) μ) : Spec (T.cb base) run [.ref a] H (fun v _ => v = .bl true) fun _ _ _ => False := by
  obtain ⟨ow, μ, ev⟩ := ev
  have S : Sta (T.cb base) (fun _ => none) (fun b => b = a) [] ⟨[], []⟩ [] H := by
    refine ⟨rfl, List.nodup_nil, fun b e => ⟨_, (congrArg H e).trans h2⟩, fun n b p e => (by simp at e), fun n b p e => (by simp at e), fun b hb => (by simp at hb), fun i x e => (by simp at e), fun i j d e v q => (by simp at q), fun b u e => (by cases e), fun b u e => (by cases e), fun b hb => rfl, Nat.le_refl _, fun p hp => ?_, fun b ps e => ⟨fun z => ?_, by simp, rfl⟩, fun b u e => by cases e⟩
    · obtain ⟨c, hc⟩ := ht p hp
      exact LamX.TabS.nil (h1 _ hc)
    · rw [z, h2] at e; cases e
  refine ⟨_, _, [], [], [.scr (ns.map .int)], S, .one ?_, ?_⟩
  · simp only [Rep]
    exact ⟨a, _, o, rfl, rfl, h2, .ofInts ns⟩
  · rw [ev]
    intro F' ρ' H' v gr S t
    cases ow with
    | true => obtain ⟨b, _, c, _⟩ := t.1; exact c.elim
    | false =>
      have r : Rep (T.cb base) F' ρ' H' (.bl true) v := t.1
      simpa only [Rep] using r
end Iv
end
section
set_option Elab.async false
set_option linter.all false
set_option maxRecDepth 100000
set_option maxHeartbeats 4000000
/-! A law's text as data. My own work. -/
namespace Iv
open PySem L2 PySem.Spec PyProof.Rows
open PySem (Str)

/-- a def: where it stands, its parameters, its slots, does it make lambdas, fuel -/
structure FI where
  d : He.DefD
  ps : List Str
  N : List Str
  lam : Bool
  n : Nat
/-- a text -/
structure LI where
  fis : List FI
  cns : List Str
  g : G
  consts : List (Str × D)
  clss : List (Str × Nat)
  fns : List (Str × Nat × List Str)
  dks : List (Nat × Nat)
  insts : List Nat
  excs : List Nat
  kws : List (Nat × List Str × List Nat)
  tf : List (He.Defn × Str)
def LI.Γ (L : LI) (i : FI) : Gm := { N := i.N, sc := i.d.scope, qual := i.d.qual ++ ".<locals>.", lam := i.lam, consts := L.consts, clss := L.clss, fns := L.fns, dks := L.dks, insts := L.insts, excs := L.excs, kws := L.kws }
def fdAt (K : PySem.W.Frag) (a : Addr) : FuncData := match K.lookup a with
  | some ⟨_, _, .func fd, _⟩ => fd
  | _ => PySem.W.fnOf "" "" ⟨[], [], none, [], [], none, []⟩ [] default .none .none .none .none none .none .none
def LI.T (L : LI) (P : Program) (w : World) (K : PySem.W.Frag) (mg : Str → Option Value) : Tx where
  P := P
  w := w
  K := K
  mg := mg
  g := L.g
  ca := fun c => match L.cns[c]? with | some x => He.ga K x | none => 0
  fa := fun f => match L.fis[f]? with | some i => He.fAd K i.d.at_ | none => 0
  fd := fun f => match L.fis[f]? with | some i => fdAt K (He.fAd K i.d.at_) | none => fdAt K 0
  ps := fun f => match L.fis[f]? with | some i => i.ps | none => []
  lfit := fun _ _ _ _ => True
  tabs := L.tf.map fun p => ((He.cT K p.1).2, p.2)
  tc := fun P => match (L.tf.map fun p => He.cT K p.1).find? (fun q => decide (q.2 = P)) with | some q => q.1 | none => 0
/-- what is told of a def by the text alone -/
structure FOk (L : LI) (i : FI) (d : Fn) : Prop where
  sc : FnScope i.N i.ps i.d.scope
  c : compSs i.n (L.Γ i) i.d.body = some d.body
  np : d.np = i.ps.length
  nl : d.nl = i.N.length
  nn : ∀ x ∈ i.N, (x == ("__debug__" : Str)) = false ∧ (x == ("__classdict__" : Str)) = false
  lam : i.lam = true → (i.d.at_, i.d.qual ++ ".<locals>." ++ "<lambda>") ∈ L.tf
  df : i.d.dfl = [] ∧ i.d.kwd = []
  bd : ∀ (kV doc pm : Value) (an : Option Addr) (cdv ct : Value) (us : List Value), us.length = i.ps.length → bindArgs (PySem.W.fnOf i.d.name i.d.qual i.d.params i.d.body i.d.scope .none kV doc pm an cdv ct) ⟨us, []⟩ = pure (i.ps.zip us)
/-- the lists of names fit together -/
structure LOk (L : LI) : Prop where
  len : L.cns.length = L.g.cls.length
  fn : ∀ (f : Nat) (d : Fn), L.g.fns[f]? = some d → ∃ i, L.fis[f]? = some i ∧ FOk L i d
  fns : ∀ p ∈ L.fns, (p.1 == ("__debug__" : Str)) = false ∧ ∃ i d, L.fis[p.2.1]? = some i ∧ L.g.fns[p.2.1]? = some d ∧ i.d.at_ = (p.1, none) ∧ i.ps = p.2.2
  clss : ∀ p ∈ L.clss, (p.1 == ("__debug__" : Str)) = false ∧ L.cns[p.2]? = some p.1
  consts : ∀ p ∈ L.consts, (p.1 == ("__debug__" : Str)) = false ∧ ((∃ i, p.2 = .int i) ∨ ∃ z, p.2 = .str z)
  insts : ∀ c ∈ L.insts, ∃ x k i d, L.cns[c]? = some x ∧ L.g.cls[c]? = some k ∧ L.fis[k.init]? = some i ∧ L.g.fns[k.init]? = some d ∧ i.d.at_ = (x, some ("__init__" : Str))
  kws : ∀ p ∈ L.kws, ∃ i d, L.fis[p.1]? = some i ∧ L.g.fns[p.1]? = some d ∧ ∀ (kV doc pm : Value) (an : Option Addr) (cdv ct : Value) (ws us : List Value), ws.length = p.2.1.length → pick p.2.2 ws = some us → bindArgs (PySem.W.fnOf i.d.name i.d.qual i.d.params i.d.body i.d.scope .none kV doc pm an cdv ct) ⟨[], p.2.1.zip ws⟩ = pure (i.ps.zip us)
def eqV (a b : Option (Option Value)) : Bool := decide (a = b)
/-- what the heap must tell of a class -/
def LI.clsB (L : LI) (K : PySem.W.Frag) (c : Nat) : Bool := match L.cns[c]?, L.g.cls[c]? with
  | some x, some k => (k.flds.all fun f => (He.Fa.cls x).ok K && (He.Fa.noat x f).ok K) &&
      (if k.inst then (He.Fa.cls x).ok K && eqV (PySem.W.findIn K (.ref (He.ga K x)) "__class__") (some (some (.builtin "object.__class__"))) && eqV (PySem.W.specialIn K (.builtin "object.__class__") "__get__") (some (some (.builtin "getset_descriptor.__get__"))) &&
          decide (PySem.W.takesIn K (.builtin "object.__class__") = some true) && decide (PySem.W.mroIn K (He.ga K x) (.type "object") = some true)
        else eqV (PySem.W.findIn K (.ref (He.ga K x)) "__getattribute__") (some (some (.builtin "BaseException.__getattribute__"))) && eqV (PySem.W.findIn K (.ref (He.ga K x)) "__getattr__") (some none) && decide (PySem.W.subIn K (.ref (He.ga K x)) (.type "BaseException") = some true) && PySem.W.hasDictIn K (He.ga K x) &&
          eqV (PySem.W.findIn K (.ref (He.ga K x)) "__class__") (some (some (.builtin "object.__class__"))) && eqV (PySem.W.specialIn K (.builtin "object.__class__") "__get__") (some (some (.builtin "getset_descriptor.__get__"))) && decide (PySem.W.takesIn K (.builtin "object.__class__") = some true) && decide (PySem.W.mroIn K (He.ga K x) (.type "object") = some true)) &&
      (tyAsked.all fun n => decide (PySem.W.kitOne K (.ref (He.ga K x)) (.type n) = some false)) && (tyKnown.all fun m => decide (PySem.W.kitOne K (.type m) (.ref (He.ga K x)) = some false)) &&
      ((List.range L.g.cls.length).all fun d => match L.cns[d]?, L.g.cls[d]? with
        | some y, some kd => decide (PySem.W.kitOne K (.ref (He.ga K y)) (.ref (He.ga K x)) = some (kd.subs.contains c))
        | _, _ => false)
  | _, _ => false
def noList (o : Obj) : Bool := match o.cls with
  | .type n => !(decide (n = "list"))
  | _ => true
/-- all that the heap must tell -/
def LI.ex (L : LI) (K : PySem.W.Frag) : Bool :=
  (L.consts.all fun p => match p.2 with
    | .int i => (He.Fa.int p.1 i).ok K
    | .str z => (He.Fa.str p.1 z).ok K
    | _ => false) && (L.clss.all fun p => (He.Fa.glo p.1).ok K) && (L.fns.all fun p => (He.Fa.glo p.1).ok K) && (biNames.all fun x => (He.Fa.free x).ok K) &&
  (L.insts.all fun c => match L.cns[c]? with | some x => (He.Fa.mkr x).ok K | none => false) &&
  (L.excs.all fun c => match L.cns[c]? with
    | some x => (He.Fa.exc x).ok K && ((List.range L.g.cls.length).all fun d => match L.cns[d]?, L.g.cls[d]? with
        | some y, some k => (He.Fa.exm y x (k.subs.contains c)).ok K
        | _, _ => false)
    | none => false) &&
  ((List.range L.g.cls.length).all fun c => L.clsB K c) && decide (L.tf.map fun p => (He.cT K p.1).2).Nodup && K.all fun q => noList q.2
section
variable {L : LI} {P : Program} {w : World} {K : PySem.W.Frag} {mg : Str → Option Value} {h : Heap}
structure ExOk (L : LI) (K : PySem.W.Frag) : Prop where
  consts : ∀ p ∈ L.consts, (match p.2 with
    | .int i => (He.Fa.int p.1 i).ok K
    | .str z => (He.Fa.str p.1 z).ok K
    | _ => false) = true
  clss : ∀ p ∈ L.clss, (He.Fa.glo p.1).ok K = true
  fns : ∀ p ∈ L.fns, (He.Fa.glo p.1).ok K = true
  bi : ∀ x ∈ biNames, (He.Fa.free x).ok K = true
  insts : ∀ c ∈ L.insts, (match L.cns[c]? with | some x => (He.Fa.mkr x).ok K | none => false) = true
  excs : ∀ c ∈ L.excs, (match L.cns[c]? with
    | some x => (He.Fa.exc x).ok K && ((List.range L.g.cls.length).all fun d => match L.cns[d]?, L.g.cls[d]? with
        | some y, some k => (He.Fa.exm y x (k.subs.contains c)).ok K
        | _, _ => false)
    | none => false) = true
  cls : ∀ c, c < L.g.cls.length → L.clsB K c = true
  nd : (L.tf.map fun p => (He.cT K p.1).2).Nodup
  nl : ∀ q ∈ K, noList q.2 = true
theorem ex_of (e : L.ex K = true) : ExOk L K := by
  unfold LI.ex at e
  simp only [Bool.and_eq_true, List.all_eq_true, decide_eq_true_eq, List.mem_range] at e
  obtain ⟨⟨⟨⟨⟨⟨⟨⟨e1, e2⟩, e3⟩, e4⟩, e5⟩, e6⟩, e7⟩, e8⟩, e9⟩ := e
  refine ⟨e1, e2, e3, e4, e5, fun c hc => ?_, e7, e8, e9⟩
  have := e6 c hc
  split at this
  · exact this
  · cases this
theorem ca_at {c : Nat} {x : Str} (h : L.cns[c]? = some x) : (L.T P w K mg).ca c = He.ga K x := by
  show (match L.cns[c]? with | some x => He.ga K x | none => 0) = _
  rw [h]
theorem fa_at {f : Nat} {i : FI} (h : L.fis[f]? = some i) : (L.T P w K mg).fa f = He.fAd K i.d.at_ ∧ (L.T P w K mg).fd f = fdAt K (He.fAd K i.d.at_) ∧ (L.T P w K mg).ps f = i.ps := by
  refine ⟨?_, ?_, ?_⟩
  · show (match L.fis[f]? with | some i => He.fAd K i.d.at_ | none => 0) = _
    rw [h]
  · show (match L.fis[f]? with | some i => fdAt K (He.fAd K i.d.at_) | none => fdAt K 0) = _
    rw [h]
  · show (match L.fis[f]? with | some i => i.ps | none => []) = _
    rw [h]
theorem cls_get {c : Nat} (ok : LOk L) (hc : c < L.g.cls.length) : ∃ x k, L.cns[c]? = some x ∧ L.g.cls[c]? = some k := ⟨_, _, List.getElem?_eq_getElem (by rw [ok.len]; exact hc), List.getElem?_eq_getElem hc⟩
theorem eqV_ok {a b : Option (Option Value)} (h : eqV a b = true) : a = b := of_decide_eq_true h
theorem wld_of (ok : LOk L) (e : ExOk L K) {Cb : Cn} (hc : Cb.ca = (L.T P w K mg).ca) : Wld K Cb L.g := by
  have one : ∀ {c : Nat} {k : Cl}, L.g.cls[c]? = some k → ∃ x, L.cns[c]? = some x ∧ Cb c = He.ga K x ∧ c < L.g.cls.length := fun {c k} h => by
    have lt := (List.getElem?_eq_some_iff.mp h).1
    obtain ⟨x, _, hx, _⟩ := cls_get ok lt
    exact ⟨x, hx, by rw [hc]; exact ca_at hx, lt⟩
  have part : ∀ {c : Nat} {k : Cl} {x : Str}, L.g.cls[c]? = some k → L.cns[c]? = some x → L.clsB K c = true → _ := fun {c k x} h1 h2 h3 => by
    unfold LI.clsB at h3
    rw [h1, h2] at h3
    simp only [Bool.and_eq_true, List.all_eq_true, List.mem_range, decide_eq_true_eq] at h3
    exact h3
  refine ⟨fun c f hf => ?_, fun c hi => ?_, fun c k hk hi => ?_, fun c n hl hn => ?_, fun m c hl hm => ?_, fun c d k hd hl => ?_⟩
  · unfold hasFld at hf
    cases hk : L.g.cls[c]? with
    | none => rw [hk] at hf; cases hf
    | some k =>
      rw [hk] at hf
      obtain ⟨x, hx, ea, lt⟩ := one hk
      obtain ⟨⟨⟨⟨q, _⟩, _⟩, _⟩, _⟩ := part hk hx (e.cls c lt)
      have hf : f ∈ k.flds := by simpa using hf
      obtain ⟨q1, q2⟩ := q f hf
      rw [ea]
      exact ⟨He.cls_ok q1, He.noat_ok q2⟩
  · unfold isInst at hi
    cases hk : L.g.cls[c]? with
    | none => rw [hk] at hi; cases hi
    | some k =>
      rw [hk] at hi
      have hi : k.inst = true := hi
      obtain ⟨x, hx, ea, lt⟩ := one hk
      obtain ⟨⟨⟨⟨_, q⟩, _⟩, _⟩, _⟩ := part hk hx (e.cls c lt)
      rw [if_pos hi] at q
      simp only [Bool.and_eq_true, decide_eq_true_eq] at q
      obtain ⟨⟨⟨⟨q1, q2⟩, q3⟩, q4⟩, q5⟩ := q
      rw [ea]
      exact ⟨He.cls_ok q1, eqV_ok q2, eqV_ok q3, q4, q5⟩
  · obtain ⟨x, hx, ea, lt⟩ := one hk
    obtain ⟨⟨⟨⟨_, q⟩, _⟩, _⟩, _⟩ := part hk hx (e.cls c lt)
    rw [if_neg (by rw [hi]; decide)] at q
    simp only [Bool.and_eq_true, decide_eq_true_eq] at q
    obtain ⟨⟨⟨⟨⟨⟨⟨q1, q2⟩, q3⟩, q4⟩, q5⟩, q6⟩, q7⟩, q8⟩ := q
    rw [ea]
    exact ⟨eqV_ok q1, eqV_ok q2, q3, q4, eqV_ok q5, eqV_ok q6, q7, q8⟩
  · obtain ⟨_, k, _, hk⟩ := cls_get ok hl
    obtain ⟨x, hx, ea, lt⟩ := one hk
    obtain ⟨⟨⟨⟨_, _⟩, q⟩, _⟩, _⟩ := part hk hx (e.cls c lt)
    rw [ea]
    exact q n (by simpa using hn)
  · obtain ⟨_, k, _, hk⟩ := cls_get ok hl
    obtain ⟨x, hx, ea, lt⟩ := one hk
    obtain ⟨⟨⟨⟨_, _⟩, _⟩, q⟩, _⟩ := part hk hx (e.cls c lt)
    rw [ea]
    exact q m (by simpa using hm)
  · obtain ⟨_, kc, _, hk⟩ := cls_get ok hl
    obtain ⟨x, hx, ea, lt⟩ := one hk
    obtain ⟨y, hy, eb, ltd⟩ := one hd
    obtain ⟨⟨⟨⟨_, _⟩, _⟩, _⟩, q⟩ := part hk hx (e.cls c lt)
    have := q d ltd
    rw [hd, hy] at this
    rw [ea, eb]
    exact of_decide_eq_true this
theorem def_at {d : He.DefD} (s : ∃ fd, FunD K d.name d.qual d.params d.body d.scope (d.dvs K) (d.kws K) (He.fAd K d.at_) fd) (df : d.dfl = [] ∧ d.kwd = []) : FunD K d.name d.qual d.params d.body d.scope [] [] (He.fAd K d.at_) (fdAt K (He.fAd K d.at_)) := by
  obtain ⟨fd, F⟩ := s
  have e1 : d.dvs K = [] := by unfold He.DefD.dvs; rw [df.1]; rfl
  have e2 : d.kws K = [] := by unfold He.DefD.kws; rw [df.2]; rfl
  rw [e1, e2] at F
  obtain ⟨oc, od, dV, kV, doc, pm, an, cdv, ct, osl, q, lk, r⟩ := F.ex
  have : fdAt K (He.fAd K d.at_) = fd := by
    unfold fdAt
    rw [lk]
  rw [this]
  exact F
theorem gm_of (X : K.In h) (G : h.Ns mainGlobals mg) (ok : LOk L) (e : ExOk L K) (defs : ∀ (f : Nat) (i : FI) (d : Fn), L.fis[f]? = some i → L.g.fns[f]? = some d → FunD K i.d.name i.d.qual i.d.params i.d.body i.d.scope [] [] (He.fAd K i.d.at_) (fdAt K (He.fAd K i.d.at_))) (i : FI) : GmOk (L.T P w K mg) (L.Γ i) := by
  refine ⟨fun x d hx => ?_, fun x c hx => ?_, fun c hc => ?_, fun c hc => ?_, fun x f ps hx => ?_, fun p hp => ?_, fun x hx => He.free_ok X G (e.bi x hx)⟩
  · have hm := PySem.mem_of_lookup hx
    obtain ⟨n1, n2⟩ := ok.consts _ hm
    refine ⟨n1, ?_⟩
    have q := e.consts _ hm
    rcases n2 with ⟨j, ej⟩ | ⟨z, ez⟩
    · have ej : d = .int j := ej
      subst ej
      obtain ⟨t, ht⟩ := He.int_ok X G q
      exact ⟨.int j, _, ht, ⟨t, rfl⟩, fun _ _ _ _ => by simp only [Rep]⟩
    · have ez : d = .str z := ez
      subst ez
      obtain ⟨t, ht⟩ := He.str_ok X G q
      exact ⟨.str z, _, ht, ⟨t, rfl⟩, fun _ _ _ _ => by simp only [Rep]⟩
  · have hm := PySem.mem_of_lookup hx
    obtain ⟨n1, n2⟩ := ok.clss _ hm
    refine ⟨n1, ?_⟩
    rw [ca_at n2]
    exact He.glo_ok X G (e.clss _ hm)
  · obtain ⟨x, k, j, d, h1, h2, h3, h3', h4⟩ := ok.insts c (by have hc : L.insts.contains c = true := hc; simpa using hc)
    refine ⟨k, h2, ?_⟩
    have q := e.insts c (by have hc : L.insts.contains c = true := hc; simpa using hc)
    rw [h1] at q
    obtain ⟨a1, a2, a3⟩ := fa_at (P := P) (w := w) (K := K) (mg := mg) h3
    obtain ⟨i', hi', fo⟩ := ok.fn _ _ h3'
    rw [h3] at hi'; cases hi'
    rw [ca_at h1, a1, a2, a3]
    have m := He.mkr_ok q
    have D := defs _ _ _ h3 h3'
    refine ⟨?_, FunD.bindsN D fo.bd⟩
    have : He.fAd K j.d.at_ = He.ma K (He.ga K x) "__init__" := by rw [h4]; rfl
    rw [this]
    exact m
  · have q := e.excs c (by have hc : L.excs.contains c = true := hc; simpa using hc)
    split at q
    · rename_i x hx
      rw [Bool.and_eq_true] at q
      obtain ⟨q1, q2⟩ := q
      obtain ⟨r1, r2, r3, r4⟩ := He.exc_ok q1
      rw [ca_at hx]
      refine ⟨r2, ⟨_, _, _, _, PySem.F.excBase_ValueError, r1⟩, r3, r4, fun d k hk => ?_⟩
      have lt := (List.getElem?_eq_some_iff.mp hk).1
      obtain ⟨y, _, hy, _⟩ := cls_get ok lt
      have := List.all_eq_true.mp q2 d (List.mem_range.mpr lt)
      rw [hy, show L.g.cls[d]? = some k from hk] at this
      rw [ca_at hy]
      exact He.exm_ok this
    · cases q
  · have hm := PySem.mem_of_lookup hx
    obtain ⟨n1, j, d, h1, h2, h3, h4⟩ := ok.fns _ hm
    obtain ⟨a1, a2, a3⟩ := fa_at (P := P) (w := w) (K := K) (mg := mg) h1
    obtain ⟨i', hi', fo⟩ := ok.fn _ _ h2
    rw [h1] at hi'; cases hi'
    have D := defs _ _ _ h1 h2
    rw [a1, a2, a3]
    have eg : He.fAd K j.d.at_ = He.ga K x := by rw [h3]; rfl
    refine ⟨n1, ?_, D.kp, h4.symm, FunD.bindsN D fo.bd⟩
    rw [eg]
    exact He.glo_ok X G (e.fns _ hm)
  · obtain ⟨j, d, h1, h2, kb⟩ := ok.kws p hp
    obtain ⟨a1, a2, a3⟩ := fa_at (P := P) (w := w) (K := K) (mg := mg) h1
    have D := defs _ _ _ h1 h2
    rw [a2, a3]
    intro s ws us hK hl hpk hl2
    obtain ⟨oc, od, dV, kV, doc, pm, an, cdv, ct, osl, q, lk, cd, hD, hKw⟩ := D.ex
    rw [q]
    rcases hD with ⟨_, rfl⟩ | ⟨e', _⟩
    · exact .of_eq (kb kV doc pm an cdv ct ws us hl hpk)
    · exact absurd rfl e'
theorem tc_of (e : ExOk L K) {p : He.Defn × Str} (hp : p ∈ L.tf) : (L.T P w K mg).tc (He.cT K p.1).2 = (He.cT K p.1).1 := by
  show (match (L.tf.map fun p => He.cT K p.1).find? (fun q => decide (q.2 = (He.cT K p.1).2)) with | some q => q.1 | none => 0) = _
  have nd := e.nd
  revert hp nd
  generalize L.tf = l
  induction l with
  | nil => intro hp; cases hp
  | cons q r ih =>
    intro hp nd
    rw [List.map_cons, List.nodup_cons] at nd
    rw [List.map_cons, List.find?_cons]
    by_cases eq : (He.cT K q.1).2 = (He.cT K p.1).2
    · rw [decide_eq_true eq]
      rcases List.mem_cons.mp hp with rfl | hp
      · rfl
      · exact absurd (List.mem_map.mpr ⟨p, hp, eq.symm⟩) nd.1
    · rw [decide_eq_false eq]
      rcases List.mem_cons.mp hp with rfl | hp
      · exact absurd rfl eq
      · exact ih hp nd.2
theorem fnT_of (X : K.In h) (G : h.Ns mainGlobals mg) (ok : LOk L) (e : ExOk L K) (defs : ∀ (f : Nat) (i : FI) (d : Fn), L.fis[f]? = some i → L.g.fns[f]? = some d → FunD K i.d.name i.d.qual i.d.params i.d.body i.d.scope [] [] (He.fAd K i.d.at_) (fdAt K (He.fAd K i.d.at_)))
    (f : Nat) (d : Fn) (hd : (L.T P w K mg).g.fns[f]? = some d) : FnT (L.T P w K mg) f d := by
  obtain ⟨i, hi, fo⟩ := ok.fn f d hd
  obtain ⟨a1, a2, a3⟩ := fa_at (P := P) (w := w) (K := K) (mg := mg) hi
  have D := defs _ _ _ hi hd
  obtain ⟨oc, od, dV, kV, doc, pm, an, cdv, ct, osl, q, lk, cd, hD, hKw⟩ := D.ex
  refine ⟨i.d.name, i.d.qual, i.d.params, i.d.body, i.d.scope, dV, kV, doc, pm, cdv, ct, oc, an, od, osl, i.n, L.Γ i, ?_, ?_, cd, ?_, fo.c, ?_, fo.nl, rfl, gm_of X G ok e defs i, fo.nn, fun hl => ⟨rfl, (He.cT K i.d.at_).2, ?_, ?_, ?_⟩⟩
  · rw [a1]; show K.lookup _ = _; rw [lk, q]
  · rw [a2, q]
  · rw [a3]; exact fo.sc
  · rw [a3]; exact fo.np
  · have m := fo.lam hl
    rw [tc_of e m]
    obtain ⟨c, rfl⟩ := He.codeIn_ref cd
    rw [q] at lk
    exact congrArg Value.ref (He.codeOf_eq lk rfl).symm
  · exact List.mem_map.mpr ⟨_, fo.lam hl, rfl⟩
  · intro p hp hpe
    obtain ⟨t, ht, rfl⟩ := List.mem_map.mp hp
    have m := fo.lam hl
    have nd := e.nd
    have : t = (i.d.at_, i.d.qual ++ ".<locals>." ++ "<lambda>") := by
      revert ht m nd
      generalize L.tf = l
      intro ht m nd
      obtain ⟨u, hu⟩ := List.mem_iff_getElem?.mp ht
      obtain ⟨v, hv⟩ := List.mem_iff_getElem?.mp m
      have e1 : (l.map fun p => (He.cT K p.1).2)[u]? = some (He.cT K t.1).2 := by rw [List.getElem?_map, hu]; rfl
      have e2 : (l.map fun p => (He.cT K p.1).2)[v]? = some (He.cT K i.d.at_).2 := by rw [List.getElem?_map, hv]; rfl
      have hpe : (He.cT K t.1).2 = (He.cT K i.d.at_).2 := hpe
      rw [hpe] at e1
      have := nd_ix nd e1 e2
      subst this
      rw [hu] at hv
      exact Option.some.inj hv
    rw [this]; rfl
end
end Iv
end
section
set_option Elab.async false
set_option linter.all false
set_option maxRecDepth 100000
set_option maxHeartbeats 4000000
/-! A law holds where the evaluator says so. My own work. -/
namespace Iv
open PySem L2 PySem.Spec PyProof.Rows
open PySem (Str)

def LI.defs (L : LI) : List He.DefD := L.fis.map (·.d)
def LI.tabs (L : LI) : List He.Defn := L.tf.map (·.1)
theorem law_walk {l : PySem.W.OpenLaw} {q : Program} {loose : List Str} {XP : (Str → Option Value) → Heap → Prop} {d : DefRec} {n k f : Nat} {L : LI} {i : FI} (hn : l.most = some 63) (hdf : d.params.defaults = []) (hr : Room (2 * k) callerA) (ok : LOk L)
    (hf : L.fis[f]? = some i) (hps : i.ps = [("script" : Str)]) (hat : i.d.at_ = (d.name, none)) (hfd : ∃ fd, L.g.fns[f]? = some fd)
    (ev : ∀ ns : List Int, ns.length ≤ 63 → (∀ z ∈ ns, Builtin.Int.intBits z ≤ 1048576) → ∃ ow μ, runI L.g k (.inl f) [.scr (ns.map .int)] [] = .ok ow (.bl true) μ) :
    PySem.W.WalkO q loose XP (He.hookX n [.glo d.name] L.defs [] L.tabs L.ex).says l.row.toRowW d [] (fun f vs => PySem.call f vs) := by
  refine Att.attach_callB hn hdf fun w s₀ s₁ mg mb fa o pm cd doc a vs ns G Y ho hd hcd hmg hobj hints hlen hbits hg => ?_
  obtain ⟨K, KX, says⟩ := Y
  have e := ex_of says.more
  have defs : ∀ (f : Nat) (i : FI) (d : Fn), L.fis[f]? = some i → L.g.fns[f]? = some d → FunD K i.d.name i.d.qual i.d.params i.d.body i.d.scope [] [] (He.fAd K i.d.at_) (fdAt K (He.fAd K i.d.at_)) := fun f i d h1 h2 => by
    obtain ⟨i', h1', fo⟩ := ok.fn f d h2
    rw [h1] at h1'; cases h1'
    exact def_at (says.t.d.defs (List.mem_map.mpr ⟨i, List.mem_of_getElem? h1, rfl⟩)) fo.df
  obtain ⟨fdl, hfd⟩ := hfd
  obtain ⟨i', hi', fo⟩ := ok.fn f fdl hfd
  rw [hf] at hi'; cases hi'
  have D := defs f i fdl hf hfd
  obtain ⟨a1, a2, a3⟩ := fa_at (P := l.prog) (w := w) (K := K) (mg := mg) hf
  have efa : fa = (L.T l.prog w K mg).fa f := by
    rw [a1, hat]
    have z := hmg.symm.trans (He.glo_ok KX G.T.g (says.t.d.facts (f := .glo d.name) List.mem_cons_self))
    cases z
    rfl
  have wl : ∀ Cb : Cn, Cb.ca = (L.T l.prog w K mg).ca → Wld (L.T l.prog w K mg).K Cb (L.T l.prog w K mg).g := fun Cb hc => wld_of ok e hc
  have all := fns_all (L.T l.prog w K mg) wl (fun f d hd => fnT_of KX G.T.g ok e defs f d hd) k
  let cs : List (Addr × Addr) := L.tf.map fun p => He.cT K p.1
  have mem : ∀ p ∈ cs, ∃ t ∈ L.tabs, p = He.cT K t := fun p hp => by
    obtain ⟨t, ht, rfl⟩ := List.mem_map.mp hp
    exact ⟨t.1, List.mem_map.mpr ⟨t, ht, rfl⟩, rfl⟩
  have nl : K.lookup a = none := by
    cases hk : K.lookup a with
    | none => rfl
    | some o' =>
      have h1 := e.nl _ (He.lookup_mem hk)
      have h2 := KX a o' hk
      rw [hobj] at h2
      cases h2
      cases h1
  refine law_callG (T := (L.T l.prog w K mg).full) (k := 2 * k) (fa := fa) (cs := cs) (fd := fdAt K (He.fAd K i.d.at_)) (x := "script") (sp := fun base => Spec ((L.T l.prog w K mg).full.cb base) (runI L.g k (.inl f))) KX G.T.g G.T.b G.T.builtins G.T.nolimit hg
    (fun p hp => ?_) (fun p hp => ?_) (fun p hp => ?_) G.T.bmain hobj hints (Nat.le_trans hlen (by decide)) hr nl (fun base hK hG hTB => ?_) (fun s u => ?_) (fun base H o' h1 h2 h3 h4 => ?_)
  · obtain ⟨t, ht, rfl⟩ := mem p hp
    exact says.empty t ht
  · obtain ⟨t, ht, rfl⟩ := mem p hp
    exact says.out t ht
  · obtain ⟨t, ht, rfl⟩ := mem p hp
    exact PySem.W.codeHd_of_K KX (says.hd t ht)
  · have := all.1 f base ⟨hK, hG, fun p hp => ?_⟩
    · rw [a1, a2, a3, hps] at this
      rw [efa, a1]
      exact this
    · obtain ⟨t, ht, rfl⟩ := List.mem_map.mp hp
      have e1 : (L.T l.prog w K mg).full.tc (He.cT K t.1).2 = (He.cT K t.1).1 := tc_of (P := l.prog) (w := w) (mg := mg) e ht
      show LamX.TabB base mg ((L.T l.prog w K mg).full.tc (He.cT K t.1).2) (He.cT K t.1).2
      rw [e1]
      exact hTB _ (List.mem_map.mpr ⟨t, ht, rfl⟩)
  · have b := FunD.bindsA (ps := i.ps) D fo.bd s [u] (by rw [hps]; rfl)
    rw [hps] at b
    exact b
  · refine spec_law (fun p hp => ?_) h1 h2 h3 h4 (ev ns hlen hbits)
    obtain ⟨t, ht, rfl⟩ := List.mem_map.mp hp
    exact ⟨(He.cT K t.1).1, List.mem_map.mpr ⟨t, ht, rfl⟩⟩
end Iv
end
section
set_option linter.all false
set_option maxRecDepth 100000
namespace K72
open Iv PySem
open PySem (Str)
def topS (i : Nat) : Stmt := PySem.Challenge.pw_inkforall_k72_whole_sizes_that_have_line.main.body.getD i (.Pass ⟨0, 0, 0, 0⟩)
def inCls : Stmt → Nat → Stmt
  | .ClassDef (body := b) .., i => b.getD i (.Pass ⟨0, 0, 0, 0⟩)
  | s, _ => s
def bodyOf : Stmt → List Stmt
  | .FunctionDef (body := b) .. => b
  | _ => []
def argsOf : Stmt → Arguments
  | .FunctionDef (args := b) .. => b
  | _ => ⟨[], [], none, [], [], none, []⟩
def scopeOf : Stmt → Scope
  | .FunctionDef (scope := s) .. => s
  | _ => ⟨.module, [], false, false, []⟩
def consts : List (Str × D) := [("MOST_PAINTS", .int 4), ("MOST_ROOMS", .int 60), ("MOST_STEPS", .int 5000)]
def clssN : List (Str × Nat) := [("InkError", 0), ("NoMachine", 1), ("NoNumber", 2), ("TooMany", 3), ("Machine", 4)]
def fnsN : List (Str × Nat × List Str) := [("is_between", 0, ["thing", "least", "most"]), ("is_table", 1, ["thing", "colours"]), ("are_truths", 2, ["thing", "size"]), ("shortest_told", 4, ["ahead", "ring"]), ("rooms_of_size", 5, ["machine", "rooms"]), ("sizes", 6, ["machine"]), ("has_lines", 7, ["machine", "size"]), ("_law_begun", 8, ["script"]), ("_law_mixed", 9, ["draw"]), ("_law_take", 10, ["draw", "amount"]), ("_law_pick", 11, ["draw", "some"]), ("_law_caught", 12, ["work"]), ("_law_table", 13, ["draw", "rooms", "colours"]), ("_law_plan", 14, ["draw", "most"]), ("_law_told_sizes", 15, ["plan", "most"]), ("_law_shortest", 16, ["ahead", "ring"]), ("_law_rings", 17, ["draw", "lengths"]), ("law", 18, ["script"])]
def kwsN : List (Nat × List Str × List Nat) := [(6, ["machine"], [0]), (7, ["size", "machine"], [1, 0])]
abbrev s_is_between : Stmt := topS 7
abbrev s_is_table : Stmt := topS 11
abbrev s_are_truths : Stmt := topS 12
abbrev s_Machine_init : Stmt := inCls (topS 13) 0
abbrev s_shortest_told : Stmt := topS 15
abbrev s_rooms_of_size : Stmt := topS 18
abbrev s_sizes : Stmt := topS 19
abbrev s_has_lines : Stmt := topS 20
abbrev s__law_begun : Stmt := topS 22
abbrev s__law_mixed : Stmt := topS 23
abbrev s__law_take : Stmt := topS 24
abbrev s__law_pick : Stmt := topS 25
abbrev s__law_caught : Stmt := topS 26
abbrev s__law_table : Stmt := topS 27
abbrev s__law_plan : Stmt := topS 28
abbrev s__law_told_sizes : Stmt := topS 29
abbrev s__law_shortest : Stmt := topS 30
abbrev s__law_rings : Stmt := topS 31
abbrev s_law : Stmt := topS 32
/-- 0 thing 1 least 2 most -/
def N_is_between : List Str := ["thing", "least", "most"]
/-- 0 thing 1 colours 2 row 3 room -/
def N_is_table : List Str := ["thing", "colours", "row", "room"]
/-- 0 thing 1 size 2 one -/
def N_are_truths : List Str := ["thing", "size", "one"]
/-- 0 self 1 colours 2 table 3 good -/
def N_Machine_init : List Str := ["self", "colours", "table", "good"]
/-- 0 ahead 1 ring 2 size -/
def N_shortest_told : List Str := ["ahead", "ring", "size"]
/-- 0 machine 1 rooms 2 room 3 goal -/
def N_rooms_of_size : List Str := ["machine", "rooms", "room", "goal"]
/-- 0 machine 1 rooms 2 met 3 told 4 room -/
def N_sizes : List Str := ["machine", "rooms", "met", "told", "room"]
/-- 0 machine 1 size 2 ahead 3 ring -/
def N_has_lines : List Str := ["machine", "size", "ahead", "ring"]
/-- 0 script 1 large 2 cell -/
def N__law_begun : List Str := ["script", "large", "cell"]
/-- 0 draw 1 turn 2 found 3 great 4 blend 5 cell -/
def N__law_mixed : List Str := ["draw", "turn", "found", "great", "blend", "cell"]
/-- 0 draw 1 amount 2 found -/
def N__law_take : List Str := ["draw", "amount", "found"]
/-- 0 draw 1 some -/
def N__law_pick : List Str := ["draw", "some"]
/-- 0 work 1 caught 2 error -/
def N__law_caught : List Str := ["work", "caught", "error"]
/-- 0 draw 1 rooms 2 colours 3 way 4 table 5 room 6 row 7 ink 8 goals 9 dense 10 good -/
def N__law_table : List Str := ["draw", "rooms", "colours", "way", "table", "room", "row", "ink", "goals", "dense", "good"]
/-- 0 draw 1 most 2 colours 3 rooms -/
def N__law_plan : List Str := ["draw", "most", "colours", "rooms"]
/-- 0 plan 1 most 2 crowd 3 met 4 told_here 5 room -/
def N__law_told_sizes : List Str := ["plan", "most", "crowd", "met", "told_here", "room"]
/-- 0 ahead 1 ring 2 sizes_of_ring 3 size -/
def N__law_shortest : List Str := ["ahead", "ring", "sizes_of_ring", "size"]
/-- 0 draw 1 lengths 2 table 3 good 4 begins 5 length 6 spot 7 at 8 goal -/
def N__law_rings : List Str := ["draw", "lengths", "table", "good", "begins", "length", "spot", "at", "goal"]
/-- 0 script 1 draw 2 lap 3 rings 4 plan 5 machine 6 due 7 size 8 truth 9 bad 10 far 11 near 12 works 13 work 14 one -/
def N_law : List Str := ["script", "draw", "lap", "rings", "plan", "machine", "due", "size", "truth", "bad", "far", "near", "works", "work", "one"]
def c_is_between : Sms := .cons (.ret (.and (.bcall .isinst (.cons (.var false 0) (.cons (.con (.ty "int")) .nil))) (.and (.not (.tru (.bcall .isinst (.cons (.var false 0) (.cons (.con (.ty "bool")) .nil))))) (.chain .le .le (.var false 1) (.var false 0) (.var false 2))))) .nil
def c_is_table : Sms := .cons (.ite (.or (.not (.tru (.bcall .isinst (.cons (.var false 0) (.cons (.con (.ty "tuple")) .nil))))) (.not (.tru (.chain .le .le (.con (.int 1)) (.bcall .len (.cons (.var false 0) .nil)) (.con (.int 60)))))) (.cons (.ret (.con (.bl false))) .nil) .nil) (.cons (.for_ 2 .seq (.cons (.var false 0) .nil) (.cons (.ite (.or (.not (.tru (.bcall .isinst (.cons (.var false 2) (.cons (.con (.ty "tuple")) .nil))))) (.tru (.cmp .ne (.bcall .len (.cons (.var false 2) .nil)) (.bin .add (.var false 1) (.con (.int 1)))))) (.cons (.ret (.con (.bl false))) .nil) .nil) (.cons (.ite (.not (.tru (.bcall .all (.cons (.lc [3] .seq (.cons (.var false 2) .nil) 3 .yes (.call 0 (.cons (.var false 3) (.cons (.con (.int 0)) (.cons (.bin .sub (.bcall .len (.cons (.var false 0) .nil)) (.con (.int 1))) .nil))))) .nil)))) (.cons (.ret (.con (.bl false))) .nil) .nil) .nil))) (.cons (.ret (.con (.bl true))) .nil))
def c_are_truths : Sms := .cons (.ret (.and (.bcall .isinst (.cons (.var false 0) (.cons (.con (.ty "tuple")) .nil))) (.and (.cmp .eq (.bcall .len (.cons (.var false 0) .nil)) (.var false 1)) (.bcall .all (.cons (.lc [2] .seq (.cons (.var false 0) .nil) 2 .yes (.bcall .isinst (.cons (.var false 2) (.cons (.con (.ty "bool")) .nil)))) .nil))))) .nil
def c_Machine_init : Sms := .cons (.ite (.or (.not (.tru (.call 0 (.cons (.var false 1) (.cons (.con (.int 1)) (.cons (.con (.int 4)) .nil)))))) (.or (.not (.tru (.call 1 (.cons (.var false 2) (.cons (.var false 1) .nil))))) (.not (.tru (.call 2 (.cons (.var false 3) (.cons (.bcall .len (.cons (.var false 2) .nil)) .nil))))))) (.cons (.raise 1) .nil) .nil) (.cons (.setF (.var false 0) "colours" (.var false 1)) (.cons (.setF (.var false 0) "table" (.var false 2)) (.cons (.setF (.var false 0) "good" (.var false 3)) .nil)))
def c_shortest_told : Sms := .cons (.for_ 2 .rng2 (.cons (.con (.int 1)) (.cons (.bin .add (.bcall .len (.cons (.var false 1) .nil)) (.con (.int 1))) .nil)) (.cons (.ite (.and (.tru (.cmp .eq (.bin .mod (.bcall .len (.cons (.var false 1) .nil)) (.var false 2)) (.con (.int 0)))) (.tru (.cmp .eq (.var false 1) (.bin .mul (.slc (.var false 1) .skip (.var false 2)) (.bin .div (.bcall .len (.cons (.var false 1) .nil)) (.var false 2)))))) (.cons (.asg 1 (.slc (.var false 1) .skip (.var false 2))) (.cons .brk .nil)) .nil) .nil)) (.cons (.whl (.and (.tru (.cmp .ne (.var false 0) (.lst .nil))) (.tru (.cmp .eq (.sub (.var false 0) (.neg (.con (.int 1)))) (.sub (.var false 1) (.neg (.con (.int 1))))))) (.cons (.asg 0 (.slc (.var false 0) .skip (.neg (.con (.int 1))))) (.cons (.asg 1 (.bin .add (.slc (.var false 1) (.neg (.con (.int 1))) .skip) (.slc (.var false 1) .skip (.neg (.con (.int 1)))))) .nil))) (.cons (.ret (.tup (.cons (.bcall .tuple (.cons (.var false 0) .nil)) (.cons (.bcall .tuple (.cons (.var false 1) .nil)) .nil)))) .nil))
def c_rooms_of_size : Sms := .cons (.ret (.bcall .tuple (.cons (.bcall .sortedSet (.cons (.lc2 [2, 3] .seq (.cons (.var false 1) .nil) 2 [3] .seq (.cons (.sub (.fld (.var false 0) "table") (.var false 2)) .nil) 3 .yes (.var false 3)) .nil)) .nil))) .nil
def c_sizes : Sms := .cons (.par [1, 2, 3] (.cons (.tup (.cons (.con (.int 0)) .nil)) (.cons (.dn true) (.cons (.lst .nil) .nil)))) (.cons (.whl (.tru (.cmp .notIn (.var false 1) (.var false 2))) (.cons (.ite (.tru (.cmp .eq (.bcall .len (.cons (.var false 3) .nil)) (.con (.int 5000)))) (.cons (.raise 3) .nil) .nil) (.cons (.setI (.var false 2) (.var false 1) (.bcall .len (.cons (.var false 3) .nil))) (.cons (.exp (.bm .append (.var false 3) (.cons (.bcall .any (.cons (.lc [4] .seq (.cons (.var false 1) .nil) 4 .yes (.sub (.fld (.var false 0) "good") (.var false 4))) .nil)) .nil))) (.cons (.asg 1 (.call 5 (.cons (.var false 0) (.cons (.var false 1) .nil)))) .nil))))) (.cons (.ret (.call 4 (.cons (.slc (.var false 3) .skip (.sub (.var false 2) (.var false 1))) (.cons (.slc (.var false 3) (.sub (.var false 2) (.var false 1)) .skip) .nil)))) .nil))
def c_has_lines : Sms := .cons (.ite (.not (.tru (.call 0 (.cons (.var false 1) (.cons (.con (.int 0)) (.cons (.bin .pow (.con (.int 10)) (.con (.int 60))) .nil)))))) (.cons (.raise 2) .nil) .nil) (.cons (.asgT [2, 3] (.call 6 (.cons (.var false 0) .nil))) (.cons (.ret (.ife (.tru (.cmp .lt (.var false 1) (.bcall .len (.cons (.var false 2) .nil)))) (.sub (.var false 2) (.var false 1)) (.sub (.var false 3) (.bin .mod (.bin .sub (.var false 1) (.bcall .len (.cons (.var false 2) .nil))) (.bcall .len (.cons (.var false 3) .nil)))))) .nil))
def c__law_begun : Sms := .cons (.asg 1 (.lc [2] .seq (.cons (.var false 0) .nil) 2 (.tru (.cmp .ge (.bcall .abs (.cons (.var false 2) .nil)) (.bin .pow (.con (.int 10)) (.con (.int 18))))) (.bin .sub (.bcall .abs (.cons (.var false 2) .nil)) (.bin .pow (.con (.int 10)) (.con (.int 18)))))) (.cons (.ret (.dct ["large", "rest", "cells", "turn"] (.cons (.var true 1) (.cons (.con (.int 0)) (.cons (.lc [2] .seq (.cons (.var false 0) .nil) 2 .yes (.bcall .abs (.cons (.var false 2) .nil))) (.cons (.con (.int 0)) .nil)))))) .nil)
def c__law_mixed : Sms := .cons (.setI (.var false 0) (.con (.str "turn")) (.bin .add (.sub (.var false 0) (.con (.str "turn"))) (.con (.int 1)))) (.cons (.par [1, 2] (.cons (.bcall .int (.cons (.sub (.var false 0) (.con (.str "turn"))) .nil)) (.cons (.con (.int 0)) .nil))) (.cons (.for_ 3 .seq (.cons (.lst (.cons (.con (.int 2147483647)) (.cons (.con (.int 2147483629)) (.cons (.con (.int 2147483587)) .nil)))) .nil) (.cons (.asg 4 (.bin .mod (.bin .add (.bin .mul (.var false 1) (.con (.int 48271))) (.bin .div (.var false 3) (.con (.int 11)))) (.var false 3))) (.cons (.for_ 5 .seq (.cons (.sub (.var false 0) (.con (.str "cells"))) .nil) (.cons (.asg 4 (.bin .mod (.bin .add (.bin .add (.bin .mul (.var false 4) (.con (.int 69621))) (.bcall .int (.cons (.var false 5) .nil))) (.var false 1)) (.var false 3))) .nil)) (.cons (.asg 2 (.bin .add (.bin .mul (.var false 2) (.con (.int 2147483659))) (.bin .mod (.bin .pow (.var false 4) (.con (.int 5))) (.var false 3)))) .nil)))) (.cons (.ret (.var true 2)) .nil)))
def c__law_take : Sms := .cons (.ite (.tru (.cmp .eq (.sub (.var false 0) (.con (.str "rest"))) (.con (.int 0)))) (.cons (.setI (.var false 0) (.con (.str "rest")) (.ife (.tru (.cmp .ne (.sub (.var false 0) (.con (.str "large"))) (.lst .nil))) (.bm .popAt (.sub (.var false 0) (.con (.str "large"))) (.cons (.con (.int 0)) .nil)) (.call 9 (.cons (.var false 0) .nil)))) .nil) .nil) (.cons (.asg 2 (.bin .mod (.bcall .int (.cons (.sub (.var false 0) (.con (.str "rest"))) .nil)) (.var false 1))) (.cons (.setI (.var false 0) (.con (.str "rest")) (.bin .div (.bcall .int (.cons (.sub (.var false 0) (.con (.str "rest"))) .nil)) (.var false 1))) (.cons (.ret (.var true 2)) .nil)))
def c__law_pick : Sms := .cons (.ret (.sub (.var false 1) (.call 10 (.cons (.var false 0) (.cons (.bcall .len (.cons (.var false 1) .nil)) .nil))))) .nil
def c__law_caught : Sms := .cons (.asg 1 (.con .non)) (.cons (.try_ (.cons (.exp (.app 0 .nil)) .nil) 0 2 1) (.cons (.ret (.var true 1)) .nil))
def c__law_table : Sms := .cons (.par [3, 4] (.cons (.call 10 (.cons (.var false 0) (.cons (.con (.int 6)) .nil))) (.cons (.lst .nil) .nil))) (.cons (.for_ 5 .rng1 (.cons (.var false 1) .nil) (.cons (.asg 6 (.lst .nil)) (.cons (.for_ 7 .rng1 (.cons (.bin .add (.var false 2) (.con (.int 1))) .nil) (.cons (.asg 8 (.lst (.cons (.call 10 (.cons (.var false 0) (.cons (.var false 1) .nil))) .nil))) (.cons (.ite (.tru (.cmp .eq (.var false 3) (.con (.int 0)))) (.cons (.asg 8 (.lst (.cons (.bin .mod (.bin .add (.var false 5) (.con (.int 1))) (.var false 1)) (.cons (.bin .mod (.bin .add (.var false 5) (.con (.int 1))) (.var false 1)) (.cons (.con (.int 0)) .nil))))) .nil) .nil) (.cons (.ite (.tru (.cmp .eq (.var false 3) (.con (.int 1)))) (.cons (.asg 8 (.lst (.cons (.var false 5) (.cons (.bcall .min (.cons (.bin .add (.var false 5) (.con (.int 1))) (.cons (.bin .sub (.var false 1) (.con (.int 1))) .nil))) .nil)))) .nil) .nil) (.cons (.ite (.tru (.cmp .eq (.var false 3) (.con (.int 2)))) (.cons (.asg 8 (.lst (.cons (.bcall .min (.cons (.bin .add (.bin .add (.var false 5) (.con (.int 1))) (.call 10 (.cons (.var false 0) (.cons (.con (.int 2)) .nil)))) (.cons (.bin .sub (.var false 1) (.con (.int 1))) .nil))) .nil))) .nil) .nil) (.cons (.ite (.tru (.cmp .eq (.var false 3) (.con (.int 3)))) (.cons (.asg 8 (.lst (.cons (.bin .mod (.bin .add (.var false 5) (.var false 7)) (.var false 1)) (.cons (.call 10 (.cons (.var false 0) (.cons (.var false 1) .nil))) (.cons (.bin .sub (.var false 1) (.con (.int 1))) .nil))))) .nil) .nil) (.cons (.ite (.and (.tru (.cmp .eq (.var false 3) (.con (.int 4)))) (.tru (.cmp .eq (.var false 5) (.bin .sub (.var false 1) (.con (.int 1)))))) (.cons (.asg 8 (.lst (.cons (.var false 5) .nil))) .nil) .nil) (.cons (.exp (.bm .append (.var false 6) (.cons (.call 11 (.cons (.var false 0) (.cons (.var false 8) .nil))) .nil))) .nil)))))))) (.cons (.exp (.bm .append (.var false 4) (.cons (.bcall .tuple (.cons (.var false 6) .nil)) .nil))) .nil)))) (.cons (.asg 9 (.call 11 (.cons (.var false 0) (.cons (.lst (.cons (.con (.int 1)) (.cons (.con (.int 1)) (.cons (.con (.int 2)) (.cons (.con (.int 3)) .nil))))) .nil)))) (.cons (.asg 10 (.bcall .tuple (.cons (.lc [5] .rng1 (.cons (.var false 1) .nil) 5 .yes (.cmp .lt (.call 10 (.cons (.var false 0) (.cons (.con (.int 4)) .nil))) (.var false 9))) .nil))) (.cons (.ret (.tup (.cons (.bcall .tuple (.cons (.var false 4) .nil)) (.cons (.var true 10) .nil)))) .nil))))
def c__law_plan : Sms := .cons (.asg 2 (.bin .add (.con (.int 1)) (.call 10 (.cons (.var false 0) (.cons (.con (.int 4)) .nil))))) (.cons (.asg 3 (.call 11 (.cons (.var false 0) (.cons (.lst (.cons (.con (.int 1)) (.cons (.con (.int 2)) (.cons (.con (.int 3)) (.cons (.con (.int 4)) (.cons (.con (.int 5)) (.cons (.bin .add (.con (.int 1)) (.call 10 (.cons (.var false 0) (.cons (.var false 1) .nil)))) (.cons (.var false 1) .nil)))))))) .nil)))) (.cons (.ret (.bin .add (.tup (.cons (.var false 2) .nil)) (.call 13 (.cons (.var false 0) (.cons (.var false 3) (.cons (.var false 2) .nil)))))) .nil))
def c__law_told_sizes : Sms := .cons (.par [2, 3, 4] (.cons (.tup (.cons (.con (.int 0)) .nil)) (.cons (.dn true) (.cons (.lst .nil) .nil)))) (.cons (.whl (.tru (.cmp .notIn (.var false 2) (.var false 3))) (.cons (.ite (.tru (.cmp .gt (.bcall .len (.cons (.var false 4) .nil)) (.var false 1))) (.cons (.ret (.con .non)) .nil) .nil) (.cons (.setI (.var false 3) (.var false 2) (.bcall .len (.cons (.var false 4) .nil))) (.cons (.exp (.bm .append (.var false 4) (.cons (.cmp .ne (.lc [5] .seq (.cons (.var false 2) .nil) 5 (.tru (.sub (.sub (.var false 0) (.con (.int 2))) (.var false 5))) (.var false 5)) (.lst .nil)) .nil))) (.cons (.asg 2 (.bcall .tuple (.cons (.bcall .sortedSet (.cons (.bcall .sumL (.cons (.lc [5] .seq (.cons (.var false 2) .nil) 5 .yes (.bcall .list (.cons (.sub (.sub (.var false 0) (.con (.int 1))) (.var false 5)) .nil))) .nil)) .nil)) .nil))) .nil))))) (.cons (.ret (.tup (.cons (.slc (.var false 4) .skip (.sub (.var false 3) (.var false 2))) (.cons (.slc (.var false 4) (.sub (.var false 3) (.var false 2)) .skip) .nil)))) .nil))
def c__law_shortest : Sms := .cons (.asg 2 (.lc [3] .rng2 (.cons (.con (.int 1)) (.cons (.bin .add (.bcall .len (.cons (.var false 1) .nil)) (.con (.int 1))) .nil)) 3 (.tru (.cmp .eq (.bin .mod (.bcall .len (.cons (.var false 1) .nil)) (.var false 3)) (.con (.int 0)))) (.var false 3))) (.cons (.asg 1 (.sub (.lc [3] .seq (.cons (.var false 2) .nil) 3 (.tru (.cmp .eq (.bin .mul (.slc (.var false 1) .skip (.var false 3)) (.bin .div (.bcall .len (.cons (.var false 1) .nil)) (.var false 3))) (.var false 1))) (.slc (.var false 1) .skip (.var false 3))) (.con (.int 0)))) (.cons (.whl (.and (.tru (.cmp .ne (.var false 0) (.lst .nil))) (.tru (.cmp .eq (.sub (.var false 0) (.neg (.con (.int 1)))) (.sub (.var false 1) (.neg (.con (.int 1))))))) (.cons (.asgT [0, 1] (.tup (.cons (.slc (.var false 0) .skip (.neg (.con (.int 1)))) (.cons (.bin .add (.slc (.var false 1) (.neg (.con (.int 1))) .skip) (.slc (.var false 1) .skip (.neg (.con (.int 1))))) .nil)))) .nil)) (.cons (.ret (.tup (.cons (.bcall .tuple (.cons (.var false 0) .nil)) (.cons (.bcall .tuple (.cons (.var false 1) .nil)) .nil)))) .nil)))
def c__law_rings : Sms := .cons (.par [2, 3, 4] (.cons (.lst (.cons (.tup .nil) .nil)) (.cons (.lst (.cons (.cmp .eq (.call 10 (.cons (.var false 0) (.cons (.con (.int 2)) .nil))) (.con (.int 0))) .nil)) (.cons (.lst .nil) .nil)))) (.cons (.for_ 5 .seq (.cons (.var false 1) .nil) (.cons (.exp (.bm .append (.var false 4) (.cons (.bcall .len (.cons (.var false 2) .nil)) .nil))) (.cons (.asg 6 (.call 10 (.cons (.var false 0) (.cons (.var false 5) .nil)))) (.cons (.for_ 7 .rng1 (.cons (.var false 5) .nil) (.cons (.asg 8 (.bin .add (.sub (.var false 4) (.neg (.con (.int 1)))) (.ife (.tru (.cmp .lt (.bin .add (.var false 7) (.con (.int 1))) (.var false 5))) (.bin .add (.var false 7) (.con (.int 1))) (.con (.int 0))))) (.cons (.exp (.bm .append (.var false 2) (.cons (.bin .mul (.tup (.cons (.var false 8) .nil)) (.bcall .len (.cons (.var false 1) .nil))) .nil))) (.cons (.exp (.bm .append (.var false 3) (.cons (.or (.cmp .eq (.var false 7) (.var false 6)) (.cmp .eq (.call 10 (.cons (.var false 0) (.cons (.con (.int 9)) .nil))) (.con (.int 0)))) .nil))) .nil)))) .nil)))) (.cons (.setI (.var false 2) (.con (.int 0)) (.bcall .tuple (.cons (.var false 4) .nil))) (.cons (.ret (.tup (.cons (.bin .sub (.bcall .len (.cons (.var false 1) .nil)) (.con (.int 1))) (.cons (.bcall .tuple (.cons (.var false 2) .nil)) (.cons (.bcall .tuple (.cons (.var false 3) .nil)) .nil))))) .nil)))
def c_law : Sms := .cons (.asg 1 (.call 8 (.cons (.var false 0) .nil))) (.cons (.for_ 2 .rng1 (.cons (.bin .add (.con (.int 3)) (.bcall .min (.cons (.bcall .len (.cons (.var false 0) .nil)) (.cons (.con (.int 5)) .nil)))) .nil) (.cons (.asg 3 (.call 11 (.cons (.var false 1) (.cons (.lst (.cons (.lst (.cons (.con (.int 2)) (.cons (.con (.int 3)) .nil))) (.cons (.lst (.cons (.con (.int 4)) (.cons (.con (.int 6)) .nil))) (.cons (.lst (.cons (.con (.int 5)) (.cons (.con (.int 7)) (.cons (.con (.int 3)) .nil)))) (.cons (.lst (.cons (.con (.int 2)) (.cons (.con (.int 3)) (.cons (.con (.int 5)) (.cons (.con (.int 7)) .nil))))) (.cons (.lst (.cons (.con (.int 1)) (.cons (.con (.int 8)) .nil))) (.cons (.lst (.cons (.con (.int 9)) (.cons (.con (.int 4)) (.cons (.con (.int 5)) .nil)))) .nil))))))) .nil)))) (.cons (.asg 4 (.call 11 (.cons (.var false 1) (.cons (.lst (.cons (.call 14 (.cons (.var false 1) (.cons (.con (.int 12)) .nil))) (.cons (.call 17 (.cons (.var false 1) (.cons (.var false 3) .nil))) .nil))) .nil)))) (.cons (.asg 5 (.make 4 (.cons (.sub (.var false 4) (.con (.int 0))) (.cons (.sub (.var false 4) (.con (.int 1))) (.cons (.sub (.var false 4) (.con (.int 2))) .nil))))) (.cons (.asg 6 (.call 16 (.cons (.sub (.call 15 (.cons (.var false 4) (.cons (.con (.int 4999)) .nil))) (.con (.int 0))) (.cons (.sub (.call 15 (.cons (.var false 4) (.cons (.con (.int 4999)) .nil))) (.con (.int 1))) .nil)))) (.cons (.ite (.tru (.cmp .ne (.bcall .repr (.cons (.lst (.cons (.call 6 (.cons (.var false 5) .nil)) (.cons (.callK 6 [0] (.cons (.var false 5) .nil)) .nil))) .nil)) (.bcall .repr (.cons (.lst (.cons (.var false 6) (.cons (.var false 6) .nil))) .nil)))) (.cons (.ret (.con (.bl false))) .nil) .nil) (.cons (.for_ 7 .seq (.cons (.lst (.cons (.con (.int 0)) (.cons (.con (.int 1)) (.cons (.call 10 (.cons (.var false 1) (.cons (.con (.int 900)) .nil))) (.cons (.bin .pow (.con (.int 10)) (.con (.int 60))) (.cons (.bin .sub (.bin .pow (.con (.int 10)) (.con (.int 60))) (.call 10 (.cons (.var false 1) (.cons (.con (.int 99)) .nil)))) .nil)))))) .nil) (.cons (.asg 8 (.ife (.tru (.cmp .lt (.var false 7) (.bcall .len (.cons (.sub (.var false 6) (.con (.int 0))) .nil)))) (.sub (.sub (.var false 6) (.con (.int 0))) (.var false 7)) (.sub (.sub (.var false 6) (.con (.int 1))) (.bin .mod (.bcall .int (.cons (.bin .sub (.var false 7) (.bcall .len (.cons (.sub (.var false 6) (.con (.int 0))) .nil))) .nil)) (.bcall .len (.cons (.sub (.var false 6) (.con (.int 1))) .nil)))))) (.cons (.ite (.tru (.cmp .ne (.bcall .repr (.cons (.lst (.cons (.call 7 (.cons (.var false 5) (.cons (.var false 7) .nil))) (.cons (.callK 7 [1, 0] (.cons (.var false 7) (.cons (.var false 5) .nil))) .nil))) .nil)) (.bcall .repr (.cons (.lst (.cons (.var false 8) (.cons (.var false 8) .nil))) .nil)))) (.cons (.ret (.con (.bl false))) .nil) .nil) .nil))) (.cons (.for_ 9 .seq (.cons (.lst (.cons (.con .non) (.cons (.neg (.con (.int 1))) (.cons (.bin .add (.bin .pow (.con (.int 10)) (.con (.int 60))) (.con (.int 1))) (.cons (.con (.bl true)) (.cons (.con (.str "3")) .nil)))))) .nil) (.cons (.ite (.not (.tru (.bcall .isinst (.cons (.call 12 (.cons (.lam "law.<locals>.<lambda>" ["bad", "machine"] [9, 5] (.call 7 (.cons (.var false 1) (.cons (.var false 0) .nil)))) .nil)) (.cons (.con (.cls 2)) .nil))))) (.cons (.ret (.con (.bl false))) .nil) .nil) .nil)) .nil)))))))) (.cons (.ite (.tru (.cmp .eq (.call 10 (.cons (.var false 1) (.cons (.con (.int 5)) .nil))) (.con (.int 0)))) (.cons (.asg 10 (.call 17 (.cons (.var false 1) (.cons (.lst (.cons (.con (.int 5)) (.cons (.con (.int 7)) (.cons (.con (.int 9)) (.cons (.con (.int 16)) .nil))))) .nil)))) (.cons (.asg 11 (.call 17 (.cons (.var false 1) (.cons (.lst (.cons (.con (.int 4)) (.cons (.con (.int 5)) (.cons (.con (.int 13)) (.cons (.con (.int 19)) .nil))))) .nil)))) (.cons (.asg 12 (.lst (.cons (.lam "law.<locals>.<lambda>" ["far"] [10] (.call 6 (.cons (.make 4 (.cons (.sub (.var false 0) (.con (.int 0))) (.cons (.sub (.var false 0) (.con (.int 1))) (.cons (.sub (.var false 0) (.con (.int 2))) .nil)))) .nil))) .nil))) (.cons (.exp (.bm .append (.var false 12) (.cons (.lam "law.<locals>.<lambda>" ["far"] [10] (.call 7 (.cons (.make 4 (.cons (.sub (.var false 0) (.con (.int 0))) (.cons (.sub (.var false 0) (.con (.int 1))) (.cons (.sub (.var false 0) (.con (.int 2))) .nil)))) (.cons (.con (.int 5)) .nil)))) .nil))) (.cons (.ite (.tru (.cmp .ne (.lc [13] .seq (.cons (.var false 12) .nil) 13 (.not (.tru (.bcall .isinst (.cons (.call 12 (.cons (.var false 13) .nil)) (.cons (.con (.cls 3)) .nil))))) (.con (.int 1))) (.lst .nil))) (.cons (.ret (.con (.bl false))) .nil) .nil) (.cons (.ite (.tru (.cmp .isNot (.call 12 (.cons (.lam "law.<locals>.<lambda>" ["near"] [11] (.call 6 (.cons (.make 4 (.cons (.sub (.var false 0) (.con (.int 0))) (.cons (.sub (.var false 0) (.con (.int 1))) (.cons (.sub (.var false 0) (.con (.int 2))) .nil)))) .nil))) .nil)) (.con .non))) (.cons (.ret (.con (.bl false))) .nil) .nil) .nil)))))) .nil) (.cons (.asg 14 (.make 4 (.cons (.con (.int 1)) (.cons (.tup (.cons (.tup (.cons (.con (.int 1)) (.cons (.con (.int 1)) .nil))) (.cons (.tup (.cons (.con (.int 2)) (.cons (.con (.int 2)) .nil))) (.cons (.tup (.cons (.con (.int 2)) (.cons (.con (.int 2)) .nil))) .nil)))) (.cons (.tup (.cons (.con (.bl false)) (.cons (.con (.bl true)) (.cons (.con (.bl false)) .nil)))) .nil))))) (.cons (.ret (.cmp .eq (.bcall .repr (.cons (.lst (.cons (.call 6 (.cons (.var false 14) .nil)) (.cons (.call 6 (.cons (.make 4 (.cons (.con (.int 2)) (.cons (.tup (.cons (.tup (.cons (.con (.int 0)) (.cons (.con (.int 0)) (.cons (.con (.int 0)) .nil)))) .nil)) (.cons (.tup (.cons (.con (.bl true)) .nil)) .nil)))) .nil)) .nil))) .nil)) (.bcall .repr (.cons (.lst (.cons (.tup (.cons (.tup (.cons (.con (.bl false)) (.cons (.con (.bl true)) .nil))) (.cons (.tup (.cons (.con (.bl false)) .nil)) .nil))) (.cons (.tup (.cons (.tup .nil) (.cons (.tup (.cons (.con (.bl true)) .nil)) .nil))) .nil))) .nil)))) .nil))))
def fns : List Fn := [⟨3, 3, c_is_between⟩, ⟨2, 4, c_is_table⟩, ⟨2, 3, c_are_truths⟩, ⟨4, 4, c_Machine_init⟩, ⟨2, 3, c_shortest_told⟩, ⟨2, 4, c_rooms_of_size⟩, ⟨1, 5, c_sizes⟩, ⟨2, 4, c_has_lines⟩, ⟨1, 3, c__law_begun⟩, ⟨1, 6, c__law_mixed⟩, ⟨2, 3, c__law_take⟩, ⟨2, 2, c__law_pick⟩, ⟨1, 3, c__law_caught⟩, ⟨3, 11, c__law_table⟩, ⟨2, 4, c__law_plan⟩, ⟨2, 6, c__law_told_sizes⟩, ⟨2, 4, c__law_shortest⟩, ⟨2, 9, c__law_rings⟩, ⟨1, 15, c_law⟩]
def clss : List Cl := [⟨0, [], [0], [], false⟩, ⟨0, [], [1, 0], [], false⟩, ⟨0, [], [2, 0], [], false⟩, ⟨0, [], [3, 0], [], false⟩, ⟨3, [], [4], ["colours", "table", "good"], true⟩]
def g : G := ⟨fns, clss, 1000000⟩
def d_is_between : He.DefD := ⟨("is_between", none), "is_between", "is_between", argsOf s_is_between, bodyOf s_is_between, scopeOf s_is_between, [], []⟩
def i_is_between : FI := ⟨d_is_between, ["thing", "least", "most"], N_is_between, false, 60⟩
def d_is_table : He.DefD := ⟨("is_table", none), "is_table", "is_table", argsOf s_is_table, bodyOf s_is_table, scopeOf s_is_table, [], []⟩
def i_is_table : FI := ⟨d_is_table, ["thing", "colours"], N_is_table, false, 60⟩
def d_are_truths : He.DefD := ⟨("are_truths", none), "are_truths", "are_truths", argsOf s_are_truths, bodyOf s_are_truths, scopeOf s_are_truths, [], []⟩
def i_are_truths : FI := ⟨d_are_truths, ["thing", "size"], N_are_truths, false, 60⟩
def d_Machine_init : He.DefD := ⟨("Machine", some "__init__"), "__init__", "Machine.__init__", argsOf s_Machine_init, bodyOf s_Machine_init, scopeOf s_Machine_init, [], []⟩
def i_Machine_init : FI := ⟨d_Machine_init, ["self", "colours", "table", "good"], N_Machine_init, false, 60⟩
def d_shortest_told : He.DefD := ⟨("shortest_told", none), "shortest_told", "shortest_told", argsOf s_shortest_told, bodyOf s_shortest_told, scopeOf s_shortest_told, [], []⟩
def i_shortest_told : FI := ⟨d_shortest_told, ["ahead", "ring"], N_shortest_told, false, 60⟩
def d_rooms_of_size : He.DefD := ⟨("rooms_of_size", none), "rooms_of_size", "rooms_of_size", argsOf s_rooms_of_size, bodyOf s_rooms_of_size, scopeOf s_rooms_of_size, [], []⟩
def i_rooms_of_size : FI := ⟨d_rooms_of_size, ["machine", "rooms"], N_rooms_of_size, false, 60⟩
def d_sizes : He.DefD := ⟨("sizes", none), "sizes", "sizes", argsOf s_sizes, bodyOf s_sizes, scopeOf s_sizes, [], []⟩
def i_sizes : FI := ⟨d_sizes, ["machine"], N_sizes, false, 60⟩
def d_has_lines : He.DefD := ⟨("has_lines", none), "has_lines", "has_lines", argsOf s_has_lines, bodyOf s_has_lines, scopeOf s_has_lines, [], []⟩
def i_has_lines : FI := ⟨d_has_lines, ["machine", "size"], N_has_lines, false, 60⟩
def d__law_begun : He.DefD := ⟨("_law_begun", none), "_law_begun", "_law_begun", argsOf s__law_begun, bodyOf s__law_begun, scopeOf s__law_begun, [], []⟩
def i__law_begun : FI := ⟨d__law_begun, ["script"], N__law_begun, false, 60⟩
def d__law_mixed : He.DefD := ⟨("_law_mixed", none), "_law_mixed", "_law_mixed", argsOf s__law_mixed, bodyOf s__law_mixed, scopeOf s__law_mixed, [], []⟩
def i__law_mixed : FI := ⟨d__law_mixed, ["draw"], N__law_mixed, false, 60⟩
def d__law_take : He.DefD := ⟨("_law_take", none), "_law_take", "_law_take", argsOf s__law_take, bodyOf s__law_take, scopeOf s__law_take, [], []⟩
def i__law_take : FI := ⟨d__law_take, ["draw", "amount"], N__law_take, false, 60⟩
def d__law_pick : He.DefD := ⟨("_law_pick", none), "_law_pick", "_law_pick", argsOf s__law_pick, bodyOf s__law_pick, scopeOf s__law_pick, [], []⟩
def i__law_pick : FI := ⟨d__law_pick, ["draw", "some"], N__law_pick, false, 60⟩
def d__law_caught : He.DefD := ⟨("_law_caught", none), "_law_caught", "_law_caught", argsOf s__law_caught, bodyOf s__law_caught, scopeOf s__law_caught, [], []⟩
def i__law_caught : FI := ⟨d__law_caught, ["work"], N__law_caught, false, 60⟩
def d__law_table : He.DefD := ⟨("_law_table", none), "_law_table", "_law_table", argsOf s__law_table, bodyOf s__law_table, scopeOf s__law_table, [], []⟩
def i__law_table : FI := ⟨d__law_table, ["draw", "rooms", "colours"], N__law_table, false, 60⟩
def d__law_plan : He.DefD := ⟨("_law_plan", none), "_law_plan", "_law_plan", argsOf s__law_plan, bodyOf s__law_plan, scopeOf s__law_plan, [], []⟩
def i__law_plan : FI := ⟨d__law_plan, ["draw", "most"], N__law_plan, false, 60⟩
def d__law_told_sizes : He.DefD := ⟨("_law_told_sizes", none), "_law_told_sizes", "_law_told_sizes", argsOf s__law_told_sizes, bodyOf s__law_told_sizes, scopeOf s__law_told_sizes, [], []⟩
def i__law_told_sizes : FI := ⟨d__law_told_sizes, ["plan", "most"], N__law_told_sizes, false, 60⟩
def d__law_shortest : He.DefD := ⟨("_law_shortest", none), "_law_shortest", "_law_shortest", argsOf s__law_shortest, bodyOf s__law_shortest, scopeOf s__law_shortest, [], []⟩
def i__law_shortest : FI := ⟨d__law_shortest, ["ahead", "ring"], N__law_shortest, false, 60⟩
def d__law_rings : He.DefD := ⟨("_law_rings", none), "_law_rings", "_law_rings", argsOf s__law_rings, bodyOf s__law_rings, scopeOf s__law_rings, [], []⟩
def i__law_rings : FI := ⟨d__law_rings, ["draw", "lengths"], N__law_rings, false, 60⟩
def d_law : He.DefD := ⟨("law", none), "law", "law", argsOf s_law, bodyOf s_law, scopeOf s_law, [], []⟩
def i_law : FI := ⟨d_law, ["script"], N_law, true, 60⟩
def L : LI := ⟨[i_is_between, i_is_table, i_are_truths, i_Machine_init, i_shortest_told, i_rooms_of_size, i_sizes, i_has_lines, i__law_begun, i__law_mixed, i__law_take, i__law_pick, i__law_caught, i__law_table, i__law_plan, i__law_told_sizes, i__law_shortest, i__law_rings, i_law], ["InkError", "NoMachine", "NoNumber", "TooMany", "Machine"], g, consts, clssN, fnsN, [], [4], [0, 1, 2, 3], kwsN, [(("law", none), "law.<locals>.<lambda>")]⟩
theorem t_is_between : compSs 60 (L.Γ i_is_between) (bodyOf s_is_between) = some c_is_between := by rfl
theorem o_is_between : FOk L i_is_between ⟨3, 3, c_is_between⟩ := ⟨⟨rfl, rfl, rfl, by decide +kernel, rfl, by decide +kernel, by decide +kernel⟩, t_is_between, rfl, rfl, by decide +kernel, fun h => (by cases h), ⟨rfl, rfl⟩, fun kV doc pm an cdv ct us h => match us, h with | [_, _, _], _ => rfl⟩
theorem t_is_table : compSs 60 (L.Γ i_is_table) (bodyOf s_is_table) = some c_is_table := by rfl
theorem o_is_table : FOk L i_is_table ⟨2, 4, c_is_table⟩ := ⟨⟨rfl, rfl, rfl, by decide +kernel, rfl, by decide +kernel, by decide +kernel⟩, t_is_table, rfl, rfl, by decide +kernel, fun h => (by cases h), ⟨rfl, rfl⟩, fun kV doc pm an cdv ct us h => match us, h with | [_, _], _ => rfl⟩
theorem t_are_truths : compSs 60 (L.Γ i_are_truths) (bodyOf s_are_truths) = some c_are_truths := by rfl
theorem o_are_truths : FOk L i_are_truths ⟨2, 3, c_are_truths⟩ := ⟨⟨rfl, rfl, rfl, by decide +kernel, rfl, by decide +kernel, by decide +kernel⟩, t_are_truths, rfl, rfl, by decide +kernel, fun h => (by cases h), ⟨rfl, rfl⟩, fun kV doc pm an cdv ct us h => match us, h with | [_, _], _ => rfl⟩
theorem t_Machine_init : compSs 60 (L.Γ i_Machine_init) (bodyOf s_Machine_init) = some c_Machine_init := by rfl
theorem o_Machine_init : FOk L i_Machine_init ⟨4, 4, c_Machine_init⟩ := ⟨⟨rfl, rfl, rfl, by decide +kernel, rfl, by decide +kernel, by decide +kernel⟩, t_Machine_init, rfl, rfl, by decide +kernel, fun h => (by cases h), ⟨rfl, rfl⟩, fun kV doc pm an cdv ct us h => match us, h with | [_, _, _, _], _ => rfl⟩
theorem t_shortest_told : compSs 60 (L.Γ i_shortest_told) (bodyOf s_shortest_told) = some c_shortest_told := by rfl
theorem o_shortest_told : FOk L i_shortest_told ⟨2, 3, c_shortest_told⟩ := ⟨⟨rfl, rfl, rfl, by decide +kernel, rfl, by decide +kernel, by decide +kernel⟩, t_shortest_told, rfl, rfl, by decide +kernel, fun h => (by cases h), ⟨rfl, rfl⟩, fun kV doc pm an cdv ct us h => match us, h with | [_, _], _ => rfl⟩
theorem t_rooms_of_size : compSs 60 (L.Γ i_rooms_of_size) (bodyOf s_rooms_of_size) = some c_rooms_of_size := by rfl
theorem o_rooms_of_size : FOk L i_rooms_of_size ⟨2, 4, c_rooms_of_size⟩ := ⟨⟨rfl, rfl, rfl, by decide +kernel, rfl, by decide +kernel, by decide +kernel⟩, t_rooms_of_size, rfl, rfl, by decide +kernel, fun h => (by cases h), ⟨rfl, rfl⟩, fun kV doc pm an cdv ct us h => match us, h with | [_, _], _ => rfl⟩
theorem t_sizes : compSs 60 (L.Γ i_sizes) (bodyOf s_sizes) = some c_sizes := by rfl
theorem o_sizes : FOk L i_sizes ⟨1, 5, c_sizes⟩ := ⟨⟨rfl, rfl, rfl, by decide +kernel, rfl, by decide +kernel, by decide +kernel⟩, t_sizes, rfl, rfl, by decide +kernel, fun h => (by cases h), ⟨rfl, rfl⟩, fun kV doc pm an cdv ct us h => match us, h with | [_], _ => rfl⟩
theorem t_has_lines : compSs 60 (L.Γ i_has_lines) (bodyOf s_has_lines) = some c_has_lines := by rfl
theorem o_has_lines : FOk L i_has_lines ⟨2, 4, c_has_lines⟩ := ⟨⟨rfl, rfl, rfl, by decide +kernel, rfl, by decide +kernel, by decide +kernel⟩, t_has_lines, rfl, rfl, by decide +kernel, fun h => (by cases h), ⟨rfl, rfl⟩, fun kV doc pm an cdv ct us h => match us, h with | [_, _], _ => rfl⟩
theorem t__law_begun : compSs 60 (L.Γ i__law_begun) (bodyOf s__law_begun) = some c__law_begun := by rfl
theorem o__law_begun : FOk L i__law_begun ⟨1, 3, c__law_begun⟩ := ⟨⟨rfl, rfl, rfl, by decide +kernel, rfl, by decide +kernel, by decide +kernel⟩, t__law_begun, rfl, rfl, by decide +kernel, fun h => (by cases h), ⟨rfl, rfl⟩, fun kV doc pm an cdv ct us h => match us, h with | [_], _ => rfl⟩
theorem t__law_mixed : compSs 60 (L.Γ i__law_mixed) (bodyOf s__law_mixed) = some c__law_mixed := by rfl
theorem o__law_mixed : FOk L i__law_mixed ⟨1, 6, c__law_mixed⟩ := ⟨⟨rfl, rfl, rfl, by decide +kernel, rfl, by decide +kernel, by decide +kernel⟩, t__law_mixed, rfl, rfl, by decide +kernel, fun h => (by cases h), ⟨rfl, rfl⟩, fun kV doc pm an cdv ct us h => match us, h with | [_], _ => rfl⟩
theorem t__law_take : compSs 60 (L.Γ i__law_take) (bodyOf s__law_take) = some c__law_take := by rfl
theorem o__law_take : FOk L i__law_take ⟨2, 3, c__law_take⟩ := ⟨⟨rfl, rfl, rfl, by decide +kernel, rfl, by decide +kernel, by decide +kernel⟩, t__law_take, rfl, rfl, by decide +kernel, fun h => (by cases h), ⟨rfl, rfl⟩, fun kV doc pm an cdv ct us h => match us, h with | [_, _], _ => rfl⟩
theorem t__law_pick : compSs 60 (L.Γ i__law_pick) (bodyOf s__law_pick) = some c__law_pick := by rfl
theorem o__law_pick : FOk L i__law_pick ⟨2, 2, c__law_pick⟩ := ⟨⟨rfl, rfl, rfl, by decide +kernel, rfl, by decide +kernel, by decide +kernel⟩, t__law_pick, rfl, rfl, by decide +kernel, fun h => (by cases h), ⟨rfl, rfl⟩, fun kV doc pm an cdv ct us h => match us, h with | [_, _], _ => rfl⟩
theorem t__law_caught : compSs 60 (L.Γ i__law_caught) (bodyOf s__law_caught) = some c__law_caught := by rfl
theorem o__law_caught : FOk L i__law_caught ⟨1, 3, c__law_caught⟩ := ⟨⟨rfl, rfl, rfl, by decide +kernel, rfl, by decide +kernel, by decide +kernel⟩, t__law_caught, rfl, rfl, by decide +kernel, fun h => (by cases h), ⟨rfl, rfl⟩, fun kV doc pm an cdv ct us h => match us, h with | [_], _ => rfl⟩
theorem t__law_table : compSs 60 (L.Γ i__law_table) (bodyOf s__law_table) = some c__law_table := by rfl
theorem o__law_table : FOk L i__law_table ⟨3, 11, c__law_table⟩ := ⟨⟨rfl, rfl, rfl, by decide +kernel, rfl, by decide +kernel, by decide +kernel⟩, t__law_table, rfl, rfl, by decide +kernel, fun h => (by cases h), ⟨rfl, rfl⟩, fun kV doc pm an cdv ct us h => match us, h with | [_, _, _], _ => rfl⟩
theorem t__law_plan : compSs 60 (L.Γ i__law_plan) (bodyOf s__law_plan) = some c__law_plan := by rfl
theorem o__law_plan : FOk L i__law_plan ⟨2, 4, c__law_plan⟩ := ⟨⟨rfl, rfl, rfl, by decide +kernel, rfl, by decide +kernel, by decide +kernel⟩, t__law_plan, rfl, rfl, by decide +kernel, fun h => (by cases h), ⟨rfl, rfl⟩, fun kV doc pm an cdv ct us h => match us, h with | [_, _], _ => rfl⟩
theorem t__law_told_sizes : compSs 60 (L.Γ i__law_told_sizes) (bodyOf s__law_told_sizes) = some c__law_told_sizes := by rfl
theorem o__law_told_sizes : FOk L i__law_told_sizes ⟨2, 6, c__law_told_sizes⟩ := ⟨⟨rfl, rfl, rfl, by decide +kernel, rfl, by decide +kernel, by decide +kernel⟩, t__law_told_sizes, rfl, rfl, by decide +kernel, fun h => (by cases h), ⟨rfl, rfl⟩, fun kV doc pm an cdv ct us h => match us, h with | [_, _], _ => rfl⟩
theorem t__law_shortest : compSs 60 (L.Γ i__law_shortest) (bodyOf s__law_shortest) = some c__law_shortest := by rfl
theorem o__law_shortest : FOk L i__law_shortest ⟨2, 4, c__law_shortest⟩ := ⟨⟨rfl, rfl, rfl, by decide +kernel, rfl, by decide +kernel, by decide +kernel⟩, t__law_shortest, rfl, rfl, by decide +kernel, fun h => (by cases h), ⟨rfl, rfl⟩, fun kV doc pm an cdv ct us h => match us, h with | [_, _], _ => rfl⟩
theorem t__law_rings : compSs 60 (L.Γ i__law_rings) (bodyOf s__law_rings) = some c__law_rings := by rfl
theorem o__law_rings : FOk L i__law_rings ⟨2, 9, c__law_rings⟩ := ⟨⟨rfl, rfl, rfl, by decide +kernel, rfl, by decide +kernel, by decide +kernel⟩, t__law_rings, rfl, rfl, by decide +kernel, fun h => (by cases h), ⟨rfl, rfl⟩, fun kV doc pm an cdv ct us h => match us, h with | [_, _], _ => rfl⟩
theorem t_law : compSs 60 (L.Γ i_law) (bodyOf s_law) = some c_law := by rfl
theorem o_law : FOk L i_law ⟨1, 15, c_law⟩ := ⟨⟨rfl, rfl, rfl, by decide +kernel, rfl, by decide +kernel, by decide +kernel⟩, t_law, rfl, rfl, by decide +kernel, fun _ => (by decide +kernel), ⟨rfl, rfl⟩, fun kV doc pm an cdv ct us h => match us, h with | [_], _ => rfl⟩
theorem ok : LOk L := by
  refine ⟨rfl, fun f d h => ?_, ?_, by decide +kernel, ?_, ?_, ?_⟩
  · match f, h with
    | 0, h => cases h; exact ⟨_, rfl, o_is_between⟩
    | 1, h => cases h; exact ⟨_, rfl, o_is_table⟩
    | 2, h => cases h; exact ⟨_, rfl, o_are_truths⟩
    | 3, h => cases h; exact ⟨_, rfl, o_Machine_init⟩
    | 4, h => cases h; exact ⟨_, rfl, o_shortest_told⟩
    | 5, h => cases h; exact ⟨_, rfl, o_rooms_of_size⟩
    | 6, h => cases h; exact ⟨_, rfl, o_sizes⟩
    | 7, h => cases h; exact ⟨_, rfl, o_has_lines⟩
    | 8, h => cases h; exact ⟨_, rfl, o__law_begun⟩
    | 9, h => cases h; exact ⟨_, rfl, o__law_mixed⟩
    | 10, h => cases h; exact ⟨_, rfl, o__law_take⟩
    | 11, h => cases h; exact ⟨_, rfl, o__law_pick⟩
    | 12, h => cases h; exact ⟨_, rfl, o__law_caught⟩
    | 13, h => cases h; exact ⟨_, rfl, o__law_table⟩
    | 14, h => cases h; exact ⟨_, rfl, o__law_plan⟩
    | 15, h => cases h; exact ⟨_, rfl, o__law_told_sizes⟩
    | 16, h => cases h; exact ⟨_, rfl, o__law_shortest⟩
    | 17, h => cases h; exact ⟨_, rfl, o__law_rings⟩
    | 18, h => cases h; exact ⟨_, rfl, o_law⟩
    | n + 19, h => simp [L, g, fns] at h
  · intro p hp; simp only [L, fnsN, List.mem_cons, List.not_mem_nil, or_false] at hp; rcases hp with rfl | rfl | rfl | rfl | rfl | rfl | rfl | rfl | rfl | rfl | rfl | rfl | rfl | rfl | rfl | rfl | rfl | rfl <;> exact ⟨by decide +kernel, _, _, rfl, rfl, rfl, rfl⟩
  · intro p hp; simp only [L, consts, List.mem_cons, List.not_mem_nil, or_false] at hp; rcases hp with rfl | rfl | rfl <;> first | exact ⟨by decide +kernel, .inl ⟨_, rfl⟩⟩ | exact ⟨by decide +kernel, .inr ⟨_, rfl⟩⟩
  · intro c hc; simp only [L, List.mem_cons, List.not_mem_nil, or_false] at hc; rcases hc with rfl <;> exact ⟨_, _, _, _, rfl, rfl, rfl, rfl, rfl⟩
  · intro p hp; simp only [L, kwsN, List.mem_cons, List.not_mem_nil, or_false] at hp; rcases hp with rfl | rfl
    · refine ⟨_, _, rfl, rfl, fun kV doc pm an cdv ct ws us hl hp => ?_⟩; match ws, hl with | [a0], _ => (cases (Option.some.inj (show some [a0] = some us from hp)); rfl)
    · refine ⟨_, _, rfl, rfl, fun kV doc pm an cdv ct ws us hl hp => ?_⟩; match ws, hl with | [a0, a1], _ => (cases (Option.some.inj (show some [a1, a0] = some us from hp)); rfl)
end K72
end
section
set_option linter.all false
set_option maxRecDepth 100000
namespace Iw
open Iv
open PySem (Str)
/-! running the evaluator by rewriting -/
@[simp] theorem bind_ok {α β : Type} (a : α) (s : S) (f : α → S → Res β) : (Res.ok a s).bind f = f a s := (rfl)
@[simp] theorem bind_ex {α β : Type} (c : Nat) (s : S) (f : α → S → Res β) : (Res.ex c s).bind f = .ex c s := (rfl)
@[simp] theorem out_ok {α : Type} (a : α) (s : S) (f : α → S → Out) : (Res.ok a s).out f = f a s := (rfl)
@[simp] theorem out_ex {α : Type} (c : Nat) (s : S) (f : α → S → Out) : (Res.ex c s : Res α).out f = .ex c s := (rfl)
@[simp] theorem of_some {α : Type} (a : α) (s : S) : Res.of (some a) s = .ok a s := (rfl)
@[simp] theorem then_nx (s : S) (f : S → Out) : (Out.nx s).then f = f s := (rfl)
@[simp] theorem then_rt (o : Bool) (d : D) (s : S) (f : S → Out) : (Out.rt o d s).then f = .rt o d s := (rfl)
@[simp] theorem then_ex (c : Nat) (s : S) (f : S → Out) : (Out.ex c s).then f = .ex c s := (rfl)
@[simp] theorem then_bk (s : S) (f : S → Out) : (Out.bk s).then f = .bk s := (rfl)
@[simp] theorem then_ct (s : S) (f : S → Out) : (Out.ct s).then f = .ct s := (rfl)
@[simp] theorem evSs_nil (g : G) (cl : Callee) (s : S) : evSs g cl .nil s = .nx s := (rfl)
@[simp] theorem evSs_cons (g : G) (cl : Callee) (a : Sm) (r : Sms) (s : S) : evSs g cl (.cons a r) s = (evS g cl a s).then fun s => evSs g cl r s := (rfl)
@[simp] theorem evS_asg (g : G) (cl : Callee) (i : Nat) (e : Ex) (s : S) : evS g cl (.asg i e) s = (evE g cl e s).out fun x s => .nx { s with σ := s.σ.set i (some x) } := (rfl)
@[simp] theorem evS_asgT (g : G) (cl : Callee) (is : List Nat) (e : Ex) (s : S) : evS g cl (.asgT is e) s = (evE g cl e s).out fun x s => match x.2 with
    | .tup ds => (Res.of (setSlots s is ds) s).out fun s' _ => .nx s'
    | _ => .no := (rfl)
@[simp] theorem evS_par (g : G) (cl : Callee) (is : List Nat) (es : Exs) (s : S) : evS g cl (.par is es) s = (evEs2 g cl es s).out fun xs s => (Res.of (setPar s is xs) s).out fun s' _ => .nx s' := (rfl)
@[simp] theorem evS_setI (g : G) (cl : Callee) (o i v : Ex) (s : S) : evS g cl (.setI o i v) s = (evE g cl v s).out fun v s => (match asVar o with | some i => hVar i s | none => (evE g cl o s).bind fun x s => .ok (hOf x) s).out fun h s => (evE g cl i s).out fun k s =>
      (Res.of ((s.cont h).bind fun c => (putI c k.2 v.2).bind fun c' => s.put h c') s).out fun s' _ => .nx s' := (rfl)
@[simp] theorem evS_setF (g : G) (cl : Callee) (o : Ex) (f : Str) (v : Ex) (s : S) : evS g cl (.setF o f v) s = (evE g cl v s).out fun v s => (evE g cl o s).out fun x s => match x.2 with
    | .box n => match s.μ[n]? with
      | some (.ins c fs) => if fs.length < 1000 ∧ hasFld g c f = true then .nx { s with μ := s.μ.set n (.ins c (putF f v.2 fs)) } else .no
      | _ => .no
    | _ => .no := (rfl)
@[simp] theorem evS_exp (g : G) (cl : Callee) (e : Ex) (s : S) : evS g cl (.exp e) s = (evE g cl e s).out fun _ s => .nx s := (rfl)
@[simp] theorem evS_ret (g : G) (cl : Callee) (e : Ex) (s : S) : evS g cl (.ret e) s = (evE g cl e s).out fun x s => .rt x.1 x.2 s := (rfl)
@[simp] theorem evS_brk (g : G) (cl : Callee) (s : S) : evS g cl .brk s = .bk s := (rfl)
@[simp] theorem evS_cont (g : G) (cl : Callee) (s : S) : evS g cl .cont s = .ct s := (rfl)
@[simp] theorem evS_ite (g : G) (cl : Callee) (c : Ex) (a b : Sms) (s : S) : evS g cl (.ite c a b) s = (evT g cl c s).out fun t s => if t then evSs g cl a s else evSs g cl b s := (rfl)
@[simp] theorem evS_raise (g : G) (cl : Callee) (c : Nat) (s : S) : evS g cl (.raise c) s = .ex c s := (rfl)
theorem evS_whl (g : G) (cl : Callee) (c : Ex) (b : Sms) (s : S) : evS g cl (.whl c b) s = whileL (evT g cl c) (evSs g cl b) g.fuel s := rfl
theorem evS_for (g : G) (cl : Callee) (t : Nat) (k : IK) (it : Exs) (b : Sms) (s : S) : evS g cl (.for_ t k it b) s = (evEs g cl it s).out fun xs s => match k, xs with
    | .seq, [.box n] => loopB t n (evSs g cl b) g.fuel 0 s
    | _, _ => (Res.of (items k xs) s).out fun l s => loop t (evSs g cl b) l s := rfl
def tSel (g : G) (c i j : Nat) (r : Out) : Out := match r with
    | .ex d s => match g.cls[d]? with
      | some k => if k.subs.contains c then .nx { s with σ := (s.σ.set j (some (false, .exc d))).set i none } else .ex d s
      | none => .no
    | o => o
theorem evS_try (g : G) (cl : Callee) (b : Sms) (c i j : Nat) (s : S) : evS g cl (.try_ b c i j) s = tSel g c i j (evSs g cl b s) := rfl
@[simp] theorem evE_con (g : G) (cl : Callee) (d : D) (s : S) : evE g cl (.con d) s = .ok (false, d) s := (rfl)
@[simp] theorem evE_var (g : G) (cl : Callee) (m : Bool) (i : Nat) (s : S) : evE g cl (.var m i) s = rVar m i s := (rfl)
@[simp] theorem evE_bin (g : G) (cl : Callee) (op : Op) (a b : Ex) (s : S) : evE g cl (.bin op a b) s = (evE g cl a s).bind fun x s => (evE g cl b s).bind fun y s => Res.of (opB op x.2 y.2) s := (rfl)
@[simp] theorem evE_neg (g : G) (cl : Callee) (a : Ex) (s : S) : evE g cl (.neg a) s = (evE g cl a s).bind fun x s => match x.2 with | .int i => .ok (false, .int (-i)) s | _ => .no := (rfl)
@[simp] theorem evE_not (g : G) (cl : Callee) (a : Ex) (s : S) : evE g cl (.not a) s = (evT g cl a s).bind fun b s => .ok (false, .bl (!b)) s := (rfl)
@[simp] theorem evE_cmp (g : G) (cl : Callee) (op : Cp) (a b : Ex) (s : S) : evE g cl (.cmp op a b) s = (match asVar a with | some i => hVar i s | none => (evE g cl a s).bind fun x s => .ok (hOf x) s).bind fun x s =>
      (match asVar b with | some i => hVar i s | none => (evE g cl b s).bind fun y s => .ok (hOf y) s).bind fun y s =>
        Res.of ((match op with
          | .is | .isNot => some x.self
          | _ => s.cont x).bind fun u => (s.cont y).bind fun v => (opC op u v).map fun b => (false, .bl b)) s := (rfl)
@[simp] theorem evE_chain (g : G) (cl : Callee) (p q : Cp) (a b c : Ex) (s : S) : evE g cl (.chain p q a b c) s = (evE g cl a s).bind fun x s => (evE g cl b s).bind fun y s => (Res.of (opC p x.2 y.2) s).bind fun t s =>
      if t then (evE g cl c s).bind fun z s => (Res.of (opC q y.2 z.2) s).bind fun t s => .ok (false, .bl t) s else .ok (false, .bl false) s := (rfl)
@[simp] theorem evE_and (g : G) (cl : Callee) (a b : Ex) (s : S) : evE g cl (.and a b) s = (evE g cl a s).bind fun x s => match x.2 with
    | .bl true => evE g cl b s
    | .bl false => .ok (false, .bl false) s
    | _ => .no := (rfl)
@[simp] theorem evE_or (g : G) (cl : Callee) (a b : Ex) (s : S) : evE g cl (.or a b) s = (evE g cl a s).bind fun x s => match x.2 with
    | .bl true => .ok (false, .bl true) s
    | .bl false => evE g cl b s
    | _ => .no := (rfl)
@[simp] theorem evE_ife (g : G) (cl : Callee) (c a b : Ex) (s : S) : evE g cl (.ife c a b) s = (evT g cl c s).bind fun t s => if t then evE g cl a s else evE g cl b s := (rfl)
@[simp] theorem evE_bcall (g : G) (cl : Callee) (f : BF) (as : Exs) (s : S) : evE g cl (.bcall f as) s = (evHs g cl as s).bind fun hs s => Res.of ((s.args hs).bind fun as => bfun g s.μ f as) s := (rfl)
@[simp] theorem evE_call (g : G) (cl : Callee) (f : Nat) (as : Exs) (s : S) : evE g cl (.call f as) s = (evEs g cl as s).bind fun xs s => called (cl (.inl f) xs (enter s)) s := (rfl)
@[simp] theorem evE_callK (g : G) (cl : Callee) (f : Nat) (ord : List Nat) (as : Exs) (s : S) : evE g cl (.callK f ord as) s = (evEs g cl as s).bind fun xs s => (Res.of (ord.mapM fun i => xs[i]?) s).bind fun ds s => called (cl (.inl f) ds (enter s)) s := (rfl)
@[simp] theorem evE_make (g : G) (cl : Callee) (c : Nat) (as : Exs) (s : S) : evE g cl (.make c as) s = (evEs g cl as s).bind fun xs s => newI g cl c xs s := (rfl)
@[simp] theorem evE_bm (g : G) (cl : Callee) (m : BM) (o : Ex) (as : Exs) (s : S) : evE g cl (.bm m o as) s = (match asVar o with | some i => hVar i s | none => (evE g cl o s).bind fun x s => .ok (hOf x) s).bind fun h s => if bmOk m (s.cont h) = false then .no else (evEs g cl as s).bind fun xs s =>
      (Res.of ((s.cont h).bind fun c => bmeth m c xs) s).bind fun r s => match r.2 with
        | none => .ok (false, r.1) s
        | some c' => (Res.of (s.put h c') s).bind fun s' _ => .ok (false, r.1) s' := (rfl)
@[simp] theorem evE_fld (g : G) (cl : Callee) (o : Ex) (f : Str) (s : S) : evE g cl (.fld o f) s = (evE g cl o s).bind fun x s => match x.2 with
    | .box n => match s.μ[n]? with
      | some (.ins c fs) => if hasFld g c f then Res.of ((fs.lookup f).map fun d => (false, d)) s else .no
      | _ => .no
    | _ => .no := (rfl)
@[simp] theorem evE_sub (g : G) (cl : Callee) (o i : Ex) (s : S) : evE g cl (.sub o i) s = (match asVar o with | some i => hVar i s | none => (evE g cl o s).bind fun x s => .ok (hOf x) s).bind fun h s => (evE g cl i s).bind fun k s =>
      Res.of ((s.cont h).bind fun c => (getI c k.2).map fun d => (false, d)) s := (rfl)
def sSel (c : Option D) (l u : Option Int) (s : S) : Res (Bool × D) := match c with
          | some (.lst xs) => .ok (true, .lst (cut xs l u)) s
          | some (.tup xs) => .ok (false, .tup (cut xs l u)) s
          | _ => .no
@[simp] theorem sSel_l (xs : List D) (l u : Option Int) (s : S) : sSel (some (.lst xs)) l u s = .ok (true, .lst (cut xs l u)) s := (rfl)
@[simp] theorem sSel_t (xs : List D) (l u : Option Int) (s : S) : sSel (some (.tup xs)) l u s = .ok (false, .tup (cut xs l u)) s := (rfl)
@[simp] theorem evE_slc (g : G) (cl : Callee) (o lo hi : Ex) (s : S) : evE g cl (.slc o lo hi) s = (match asVar o with | some i => hVar i s | none => (evE g cl o s).bind fun x s => .ok (hOf x) s).bind fun h s =>
      (if lo.isSkip then (Res.ok none s : Res (Option Int)) else (evE g cl lo s).bind fun x s => match x.2 with | .int i => .ok (some i) s | _ => .no).bind fun l s =>
        (if hi.isSkip then (Res.ok none s : Res (Option Int)) else (evE g cl hi s).bind fun x s => match x.2 with | .int i => .ok (some i) s | _ => .no).bind fun u s =>
          sSel (s.cont h) l u s := (rfl)
@[simp] theorem evE_lst (g : G) (cl : Callee) (as : Exs) (s : S) : evE g cl (.lst as) s = (evEs g cl as s).bind fun xs s => if xs.length ≤ sizeL then .ok (true, .lst xs) s else .no := (rfl)
@[simp] theorem evE_tup (g : G) (cl : Callee) (as : Exs) (s : S) : evE g cl (.tup as) s = (evEs g cl as s).bind fun xs s => if xs.length ≤ sizeL then .ok (false, .tup xs) s else .no := (rfl)
@[simp] theorem evE_dn (g : G) (cl : Callee) (t : Bool) (s : S) : evE g cl (.dn t) s = .ok (true, if t then .dT [] else .dK []) s := (rfl)
@[simp] theorem evE_lam (g : G) (cl : Callee) (q : Str) (nm : List Str) (cs : List Nat) (e : Ex) (s : S) : evE g cl (.lam q nm cs e) s = .ok (false, .box s.μ.length) { σ := cs.foldl (fun σ j => match σ[j]? with | some (some (true, d)) => σ.set j (some (false, d)) | _ => σ) s.σ, μ := s.μ ++ [.lam ⟨q, nm, cs, e⟩] } := (rfl)
@[simp] theorem evE_app (g : G) (cl : Callee) (i : Nat) (as : Exs) (s : S) : evE g cl (.app i as) s = (rVar false i s).bind fun f s => (evEs g cl as s).bind fun xs s => match f.2 with
    | .box n => match (enter s)[n]? with
      | some (.clo l ds) => called (cl (.inr l) (ds ++ xs) (enter s)) s
      | _ => .no
    | _ => .no := (rfl)
@[simp] theorem evT_not (g : G) (cl : Callee) (a : Ex) (s : S) : evT g cl (.not a) s = (evT g cl a s).bind fun b s => .ok (!b) s := (rfl)
@[simp] theorem evT_and (g : G) (cl : Callee) (a b : Ex) (s : S) : evT g cl (.and a b) s = (evT g cl a s).bind fun t s => if t then evT g cl b s else .ok false s := (rfl)
@[simp] theorem evT_or (g : G) (cl : Callee) (a b : Ex) (s : S) : evT g cl (.or a b) s = (evT g cl a s).bind fun t s => if t then .ok true s else evT g cl b s := (rfl)
@[simp] theorem evT_yes (g : G) (cl : Callee) (s : S) : evT g cl .yes s = .ok true s := (rfl)
@[simp] theorem evT_tru (g : G) (cl : Callee) (a : Ex) (s : S) : evT g cl (.tru a) s = (match asVar a with | some i => hVar i s | none => (evE g cl a s).bind fun x s => .ok (hOf x) s).bind fun h s => Res.of ((s.cont h).bind truth) s := (rfl)
@[simp] theorem evEs_nil (g : G) (cl : Callee) (s : S) : evEs g cl .nil s = .ok [] s := (rfl)
@[simp] theorem evEs_cons (g : G) (cl : Callee) (e : Ex) (es : Exs) (s : S) : evEs g cl (.cons e es) s = (evE g cl e s).bind fun x s => (evEs g cl es s).bind fun xs s => .ok (x.2 :: xs) s := (rfl)
@[simp] theorem evEs2_nil (g : G) (cl : Callee) (s : S) : evEs2 g cl .nil s = .ok [] s := (rfl)
@[simp] theorem evEs2_cons (g : G) (cl : Callee) (e : Ex) (es : Exs) (s : S) : evEs2 g cl (.cons e es) s = (evE g cl e s).bind fun x s => (evEs2 g cl es s).bind fun xs s => .ok (x :: xs) s := (rfl)
@[simp] theorem evHs_nil (g : G) (cl : Callee) (s : S) : evHs g cl .nil s = .ok [] s := (rfl)
@[simp] theorem evHs_cons (g : G) (cl : Callee) (e : Ex) (es : Exs) (s : S) : evHs g cl (.cons e es) s = (match asVar e with | some i => hVar i s | none => (evE g cl e s).bind fun x s => .ok (hOf x) s).bind fun h s => (evHs g cl es s).bind fun hs s => .ok (h :: hs) s := (rfl)
/-- a list made in one walk -/
theorem evE_lc (g : G) (cl : Callee) (own : List Nat) (k : IK) (it : Exs) (t : Nat) (c e : Ex) (s : S) : evE g cl (.lc own k it t c e) s = (evEs g cl it s).bind fun xs s => (Res.of (items k xs) s).bind fun l s =>
      match turns t own (fun s acc => (evT g cl c s).bind fun b s => if b then (evE g cl e s).bind fun x s => if acc.length < sizeL then .ok (acc ++ [x.2]) s else .no else .ok acc s) l { s with μ := enter s } [] with
      | .ok acc s1 => .ok (true, .lst acc) { σ := back s.σ s1.σ own, μ := leave s.μ s1.μ }
      | _ => .no := rfl
theorem evE_lc2 (g : G) (cl : Callee) (own : List Nat) (k : IK) (it : Exs) (t : Nat) (own1 : List Nat) (k1 : IK) (it1 : Exs) (t1 : Nat) (c e : Ex) (s : S) : evE g cl (.lc2 own k it t own1 k1 it1 t1 c e) s = (evEs g cl it s).bind fun xs s => (Res.of (items k xs) s).bind fun l s =>
      match turns t own (fun s acc => (evEs g cl it1 s).bind fun ys s => (Res.of (items k1 ys) s).bind fun m s =>
          turns t1 own1 (fun s acc => (evT g cl c s).bind fun b s => if b then (evE g cl e s).bind fun x s => if acc.length < sizeL then .ok (acc ++ [x.2]) s else .no else .ok acc s) m s acc) l { s with μ := shut s.μ } [] with
      | .ok acc s1 => .ok (true, .lst acc) { σ := back s.σ s1.σ own, μ := leave s.μ s1.μ }
      | _ => .no := rfl
theorem evE_dct (g : G) (cl : Callee) (ks : List Str) (as : Exs) (s : S) : evE g cl (.dct ks as) s = (evEs2 g cl as s).bind fun xs s => let r := boxed xs s.μ
      if ks.length = xs.length ∧ ks.length ≤ 15 then .ok (false, .box r.2.length) { s with μ := r.2 ++ [.val (.dK (((ks.map fun k => (Sum.inr k : Key)).zip r.1).foldl (fun a p => putK a p.1 p.2) []))] } else .no := rfl
/-- the i-th statement; the statements inside -/
def nth : Sms → Nat → Sm
  | .nil, _ => .brk
  | .cons a _, 0 => a
  | .cons _ r, i + 1 => nth r i
def inn : Sm → Sms
  | .for_ _ _ _ b => b
  | .whl _ b => b
  | .ite _ a _ => a
  | _ => .nil
def cnd : Sm → Ex
  | .whl c _ => c
  | .ite c _ _ => c
  | _ => .skip
def notBox : List D → Bool
  | [.box _] => false
  | _ => true
theorem for_run {g : G} {cl : Callee} {t : Nat} {k : IK} {it : Exs} {b : Sms} {s s' : S} {xs l : List D} (h : evEs g cl it s = .ok xs s') (hb : notBox xs = true) (hl : items k xs = some l) : evS g cl (.for_ t k it b) s = loop t (evSs g cl b) l s' := by
  rw [evS_for, h, out_ok]
  split
  · rename_i n
    simp [notBox] at hb
  · rw [hl]; rfl
/-! slots -/
@[simp] theorem asVar_con (d : D) : asVar (.con d) = none := (rfl)
@[simp] theorem isSkip_con (d : D) : Ex.isSkip (.con d) = false := (rfl)
@[simp] theorem asVar_bin (o : Op) (a b : Ex) : asVar (.bin o a b) = none := (rfl)
@[simp] theorem isSkip_bin (o : Op) (a b : Ex) : Ex.isSkip (.bin o a b) = false := (rfl)
@[simp] theorem asVar_neg (a : Ex) : asVar (.neg a) = none := (rfl)
@[simp] theorem isSkip_neg (a : Ex) : Ex.isSkip (.neg a) = false := (rfl)
@[simp] theorem asVar_not (a : Ex) : asVar (.not a) = none := (rfl)
@[simp] theorem isSkip_not (a : Ex) : Ex.isSkip (.not a) = false := (rfl)
@[simp] theorem asVar_cmp (o : Cp) (a b : Ex) : asVar (.cmp o a b) = none := (rfl)
@[simp] theorem isSkip_cmp (o : Cp) (a b : Ex) : Ex.isSkip (.cmp o a b) = false := (rfl)
@[simp] theorem asVar_chain (p q : Cp) (a b c : Ex) : asVar (.chain p q a b c) = none := (rfl)
@[simp] theorem isSkip_chain (p q : Cp) (a b c : Ex) : Ex.isSkip (.chain p q a b c) = false := (rfl)
@[simp] theorem asVar_and (a b : Ex) : asVar (.and a b) = none := (rfl)
@[simp] theorem isSkip_and (a b : Ex) : Ex.isSkip (.and a b) = false := (rfl)
@[simp] theorem asVar_or (a b : Ex) : asVar (.or a b) = none := (rfl)
@[simp] theorem isSkip_or (a b : Ex) : Ex.isSkip (.or a b) = false := (rfl)
@[simp] theorem asVar_ife (c a b : Ex) : asVar (.ife c a b) = none := (rfl)
@[simp] theorem isSkip_ife (c a b : Ex) : Ex.isSkip (.ife c a b) = false := (rfl)
@[simp] theorem asVar_bcall (f : BF) (a : Exs) : asVar (.bcall f a) = none := (rfl)
@[simp] theorem isSkip_bcall (f : BF) (a : Exs) : Ex.isSkip (.bcall f a) = false := (rfl)
@[simp] theorem asVar_call (f : Nat) (a : Exs) : asVar (.call f a) = none := (rfl)
@[simp] theorem isSkip_call (f : Nat) (a : Exs) : Ex.isSkip (.call f a) = false := (rfl)
@[simp] theorem asVar_callK (f : Nat) (o : List Nat) (a : Exs) : asVar (.callK f o a) = none := (rfl)
@[simp] theorem isSkip_callK (f : Nat) (o : List Nat) (a : Exs) : Ex.isSkip (.callK f o a) = false := (rfl)
@[simp] theorem asVar_make (f : Nat) (a : Exs) : asVar (.make f a) = none := (rfl)
@[simp] theorem isSkip_make (f : Nat) (a : Exs) : Ex.isSkip (.make f a) = false := (rfl)
@[simp] theorem asVar_bm (m : BM) (o : Ex) (a : Exs) : asVar (.bm m o a) = none := (rfl)
@[simp] theorem isSkip_bm (m : BM) (o : Ex) (a : Exs) : Ex.isSkip (.bm m o a) = false := (rfl)
@[simp] theorem asVar_fld (o : Ex) (f : Str) : asVar (.fld o f) = none := (rfl)
@[simp] theorem isSkip_fld (o : Ex) (f : Str) : Ex.isSkip (.fld o f) = false := (rfl)
@[simp] theorem asVar_sub (a b : Ex) : asVar (.sub a b) = none := (rfl)
@[simp] theorem isSkip_sub (a b : Ex) : Ex.isSkip (.sub a b) = false := (rfl)
@[simp] theorem asVar_slc (a b c : Ex) : asVar (.slc a b c) = none := (rfl)
@[simp] theorem isSkip_slc (a b c : Ex) : Ex.isSkip (.slc a b c) = false := (rfl)
@[simp] theorem asVar_lst (a : Exs) : asVar (.lst a) = none := (rfl)
@[simp] theorem isSkip_lst (a : Exs) : Ex.isSkip (.lst a) = false := (rfl)
@[simp] theorem asVar_tup (a : Exs) : asVar (.tup a) = none := (rfl)
@[simp] theorem isSkip_tup (a : Exs) : Ex.isSkip (.tup a) = false := (rfl)
@[simp] theorem asVar_dn (t : Bool) : asVar (.dn t) = none := (rfl)
@[simp] theorem isSkip_dn (t : Bool) : Ex.isSkip (.dn t) = false := (rfl)
@[simp] theorem asVar_dct (k : List Str) (a : Exs) : asVar (.dct k a) = none := (rfl)
@[simp] theorem isSkip_dct (k : List Str) (a : Exs) : Ex.isSkip (.dct k a) = false := (rfl)
@[simp] theorem asVar_lc (own : List Nat) (k : IK) (it : Exs) (t : Nat) (c e : Ex) : asVar (.lc own k it t c e) = none := (rfl)
@[simp] theorem isSkip_lc (own : List Nat) (k : IK) (it : Exs) (t : Nat) (c e : Ex) : Ex.isSkip (.lc own k it t c e) = false := (rfl)
@[simp] theorem asVar_lc2 (own : List Nat) (k : IK) (it : Exs) (t : Nat) (own1 : List Nat) (k1 : IK) (it1 : Exs) (t1 : Nat) (c e : Ex) : asVar (.lc2 own k it t own1 k1 it1 t1 c e) = none := (rfl)
@[simp] theorem isSkip_lc2 (own : List Nat) (k : IK) (it : Exs) (t : Nat) (own1 : List Nat) (k1 : IK) (it1 : Exs) (t1 : Nat) (c e : Ex) : Ex.isSkip (.lc2 own k it t own1 k1 it1 t1 c e) = false := (rfl)
@[simp] theorem asVar_lam (q : Str) (names : List Str) (cs : List Nat) (e : Ex) : asVar (.lam q names cs e) = none := (rfl)
@[simp] theorem isSkip_lam (q : Str) (names : List Str) (cs : List Nat) (e : Ex) : Ex.isSkip (.lam q names cs e) = false := (rfl)
@[simp] theorem asVar_app (i : Nat) (a : Exs) : asVar (.app i a) = none := (rfl)
@[simp] theorem isSkip_app (i : Nat) (a : Exs) : Ex.isSkip (.app i a) = false := (rfl)
@[simp] theorem asVar_var (m : Bool) (i : Nat) : asVar (.var m i) = some i := (rfl)
@[simp] theorem isSkip_var (m : Bool) (i : Nat) : Ex.isSkip (.var m i) = false := (rfl)
@[simp] theorem isSkip_skip : Ex.isSkip .skip = true := (rfl)
def hSel (i : Nat) (s : S) : Option (Option (Bool × D)) → Res Hd
  | some (some (true, _)) => .ok (.slot i) s
  | some (some (false, d)) => .ok (hOf (false, d)) s
  | _ => .no
@[simp] theorem hVar_sel (i : Nat) (s : S) : hVar i s = hSel i s s.σ[i]? := by
  unfold hVar hSel hOf
  split <;> simp_all
@[simp] theorem hSel_t (i : Nat) (s : S) (d : D) : hSel i s (some (some (true, d))) = .ok (.slot i) s := (rfl)
@[simp] theorem hSel_f (i : Nat) (s : S) (d : D) : hSel i s (some (some (false, d))) = .ok (hOf (false, d)) s := (rfl)
@[simp] theorem hOf_box (o : Bool) (n : Nat) : hOf (o, .box n) = .box n := (rfl)
@[simp] theorem hOf_int (o : Bool) (i : Int) : hOf (o, .int i) = .val (.int i) := (rfl)
@[simp] theorem hOf_bl (o : Bool) (i : Bool) : hOf (o, .bl i) = .val (.bl i) := (rfl)
@[simp] theorem hOf_non (o : Bool) : hOf (o, .non) = .val .non := (rfl)
@[simp] theorem hOf_str (o : Bool) (i : Str) : hOf (o, .str i) = .val (.str i) := (rfl)
@[simp] theorem hOf_ty (o : Bool) (i : String) : hOf (o, .ty i) = .val (.ty i) := (rfl)
@[simp] theorem hOf_cls (o : Bool) (i : Nat) : hOf (o, .cls i) = .val (.cls i) := (rfl)
@[simp] theorem hOf_exc (o : Bool) (i : Nat) : hOf (o, .exc i) = .val (.exc i) := (rfl)
@[simp] theorem hOf_rep (o : Bool) (i : D) : hOf (o, .rep i) = .val (.rep i) := (rfl)
@[simp] theorem hOf_tup (o : Bool) (i : List D) : hOf (o, .tup i) = .val (.tup i) := (rfl)
@[simp] theorem hOf_lst (o : Bool) (i : List D) : hOf (o, .lst i) = .val (.lst i) := (rfl)
@[simp] theorem hOf_scr (o : Bool) (i : List D) : hOf (o, .scr i) = .val (.scr i) := (rfl)
@[simp] theorem hOf_dK (o : Bool) (i : List (Key × D)) : hOf (o, .dK i) = .val (.dK i) := (rfl)
@[simp] theorem hOf_dT (o : Bool) (i : List (List Key × D)) : hOf (o, .dT i) = .val (.dT i) := (rfl)
def rSel (mv : Bool) (i : Nat) (s : S) : Option (Option (Bool × D)) → Res (Bool × D)
  | some (some (false, d)) => .ok (false, d) s
  | some (some (true, d)) => if mv then .ok (true, d) { s with σ := s.σ.set i none } else .ok (false, d) { s with σ := s.σ.set i (some (false, d)) }
  | _ => .no
@[simp] theorem rVar_sel (mv : Bool) (i : Nat) (s : S) : rVar mv i s = rSel mv i s s.σ[i]? := by
  unfold rVar rSel
  split <;> simp_all
@[simp] theorem rSel_f (mv : Bool) (i : Nat) (s : S) (d : D) : rSel mv i s (some (some (false, d))) = .ok (false, d) s := (rfl)
@[simp] theorem rSel_t (i : Nat) (s : S) (d : D) : rSel true i s (some (some (true, d))) = .ok (true, d) { s with σ := s.σ.set i none } := (rfl)
@[simp] theorem rSel_s (i : Nat) (s : S) (d : D) : rSel false i s (some (some (true, d))) = .ok (false, d) { s with σ := s.σ.set i (some (false, d)) } := (rfl)
@[simp] theorem cont_val (s : S) (d : D) : s.cont (.val d) = some d := (rfl)
def cSel : Option (Option (Bool × D)) → Option D
  | some (some (_, d)) => some d
  | _ => none
@[simp] theorem cont_slot (s : S) (i : Nat) : s.cont (.slot i) = cSel s.σ[i]? := by
  simp only [S.cont]; unfold cSel
  split <;> simp_all
@[simp] theorem cSel_s (o : Bool) (d : D) : cSel (some (some (o, d))) = some d := (rfl)
def bSel : Option Bx → Option D
  | some (.val d) => some d
  | _ => none
@[simp] theorem cont_box (s : S) (n : Nat) : s.cont (.box n) = bSel s.μ[n]? := by
  simp only [S.cont]; unfold bSel
  split <;> simp_all
@[simp] theorem bSel_s (d : D) : bSel (some (.val d)) = some d := (rfl)
@[simp] theorem bSel_i (c : Nat) (fs : List (Str × D)) : bSel (some (.ins c fs)) = none := (rfl)
@[simp] theorem arg_slot (s : S) (i : Nat) : s.arg (.slot i) = (s.cont (.slot i)).map fun d => (d, d) := (rfl)
@[simp] theorem arg_box (s : S) (n : Nat) : s.arg (.box n) = some (.box n, (s.cont (.box n)).getD (.box n)) := (rfl)
@[simp] theorem arg_val (s : S) (d : D) : s.arg (.val d) = some (d, d) := (rfl)
@[simp] theorem args_nil (s : S) : s.args [] = some [] := (rfl)
@[simp] theorem args_cons (s : S) (h : Hd) (hs : List Hd) : s.args (h :: hs) = (s.arg h).bind fun x => (s.args hs).bind fun xs => some (x :: xs) := by
  simp only [S.args]
  cases s.arg h <;> simp
  cases s.args hs <;> simp
@[simp] theorem put_slot (s : S) (i : Nat) (d d0 : D) (h : s.σ[i]? = some (some (true, d0))) : s.put (.slot i) d = some { s with σ := s.σ.set i (some (true, d)) } := by simp [S.put, h]
@[simp] theorem put_box (s : S) (n : Nat) (d d0 : D) (h : s.μ[n]? = some (.val d0)) : s.put (.box n) d = some { s with μ := s.μ.set n (.val d) } := by simp [S.put, h]
/-! operators -/
@[simp] theorem add_i (i j : Int) : opB .add (.int i) (.int j) = some (false, .int (i + j)) := (rfl)
@[simp] theorem sub_i (i j : Int) : opB .sub (.int i) (.int j) = some (false, .int (i - j)) := (rfl)
@[simp] theorem mul_i (i j : Int) (h : mulOk i j = true) : opB .mul (.int i) (.int j) = some (false, .int (i * j)) := by simp [opB, h]
@[simp] theorem div_i (i j : Int) (h : j ≠ 0) (h1 : j.natAbs < 1073741824) : opB .div (.int i) (.int j) = some (false, .int (i.fdiv j)) := by simp [opB, h, h1]
@[simp] theorem mod_i (i j : Int) (h : j ≠ 0) : opB .mod (.int i) (.int j) = some (false, .int (i.fmod j)) := by simp [opB, h]
@[simp] theorem pow_i (i j : Int) (h : 0 ≤ j) (h1 : j ≤ 1000000) (h2 : i.natAbs < 18446744073709551616) : opB .pow (.int i) (.int j) = some (false, .int (i ^ j.toNat)) := by simp [opB, h, h1, h2]
@[simp] theorem add_l (xs ys : List D) (h : xs.length + ys.length ≤ sizeL) : opB .add (.lst xs) (.lst ys) = some (true, .lst (xs ++ ys)) := by simp [opB, h]
@[simp] theorem add_t (xs ys : List D) (h : xs.length + ys.length ≤ sizeL) : opB .add (.tup xs) (.tup ys) = some (false, .tup (xs ++ ys)) := by simp [opB, h]
@[simp] theorem eq_d (x y : D) (h : ∀ z, x ≠ .rep z) : opC .eq x y = eqD x y := by
  cases x <;> first | rfl | exact absurd rfl (h _)
@[simp] theorem ne_d (x y : D) (h : ∀ z, x ≠ .rep z) : opC .ne x y = (eqD x y).map fun b => !b := by
  cases x <;> first | rfl | exact absurd rfl (h _)
@[simp] theorem lt_i (i j : Int) : opC .lt (.int i) (.int j) = some (decide (i < j)) := (rfl)
@[simp] theorem le_i (i j : Int) : opC .le (.int i) (.int j) = some (decide (i ≤ j)) := (rfl)
@[simp] theorem gt_i (i j : Int) : opC .gt (.int i) (.int j) = some (decide (j < i)) := (rfl)
@[simp] theorem ge_i (i j : Int) : opC .ge (.int i) (.int j) = some (decide (j ≤ i)) := (rfl)
@[simp] theorem in_d (x y : D) : opC .in_ x y = hasI y x := by cases x <;> rfl
@[simp] theorem notIn_d (x y : D) : opC .notIn x y = (hasI y x).map fun b => !b := by cases x <;> rfl
@[simp] theorem isNot_n (x : D) : opC .isNot x .non = some (!x.isNon) := by cases x <;> rfl
@[simp] theorem is_n (x : D) : opC .is x .non = some x.isNon := by cases x <;> rfl
@[simp] theorem eqD_i (i j : Int) : eqD (.int i) (.int j) = some (i == j) := rfl
/-! built-in functions -/
section
variable (g : G) (μ : List Bx)
@[simp] theorem len_l (a : D) (xs : List D) : bfun g μ .len [(a, .lst xs)] = some (false, .int xs.length) := (rfl)
@[simp] theorem len_t (a : D) (xs : List D) : bfun g μ .len [(a, .tup xs)] = some (false, .int xs.length) := (rfl)
@[simp] theorem len_s (a : D) (xs : List D) : bfun g μ .len [(a, .scr xs)] = some (false, .int xs.length) := (rfl)
@[simp] theorem abs_i (a : D) (i : Int) : bfun g μ .abs [(a, .int i)] = some (false, .int (if i < 0 then -i else i)) := (rfl)
@[simp] theorem min_i (a b : D) (i j : Int) : bfun g μ .min [(a, .int i), (b, .int j)] = some (false, .int (if j < i then j else i)) := (rfl)
@[simp] theorem int_i (a : D) (i : Int) : bfun g μ .int [(a, .int i)] = some (false, .int i) := (rfl)
@[simp] theorem tuple_l (a : D) (xs : List D) : bfun g μ .tuple [(a, .lst xs)] = some (false, .tup xs) := (rfl)
@[simp] theorem tuple_t (a : D) (xs : List D) : bfun g μ .tuple [(a, .tup xs)] = some (false, .tup xs) := (rfl)
@[simp] theorem list_t (a : D) (xs : List D) : bfun g μ .list [(a, .tup xs)] = some (true, .lst xs) := (rfl)
@[simp] theorem list_l (a : D) (xs : List D) : bfun g μ .list [(a, .lst xs)] = some (true, .lst xs) := (rfl)
@[simp] theorem any_l (a : D) (xs : List D) : bfun g μ .any [(a, .lst xs)] = (bools xs).map fun l => (false, .bl (l.any id)) := (rfl)
@[simp] theorem all_l (a : D) (xs : List D) : bfun g μ .all [(a, .lst xs)] = (bools xs).map fun l => (false, .bl (l.all id)) := (rfl)
@[simp] theorem sumL_l (a : D) (xs : List D) : bfun g μ .sumL [(a, .lst xs)] = (lists xs).bind fun l => if l.length ≤ sizeL ∧ xs.isEmpty = false then some (true, .lst l) else none := (rfl)
@[simp] theorem sortedSet_l (a : D) (xs : List D) : bfun g μ .sortedSet [(a, .lst xs)] = («ints» xs).bind fun l => if (sortU l).length < 64 ∧ l.length < 4000 then some (true, .lst ((sortU l).map .int)) else none := (rfl)
@[simp] theorem repr_d (a d : D) : bfun g μ .repr [(a, d)] = if (seqOf d).isSome && okD 60 d && smallI 60 d && decide (szR 60 d ≤ sizeL) then some (false, .rep d) else none := (rfl)
@[simp] theorem isinst_ty (x a : D) (d : D) (n : String) : bfun g μ .isinst [(x, d), (.ty n, a)] = (tyName g μ x).bind fun t => (isTy g t (.ty n)).map fun b => (false, .bl b) := (rfl)
@[simp] theorem isinst_cls (x a : D) (d : D) (n : Nat) : bfun g μ .isinst [(x, d), (.cls n, a)] = (tyName g μ x).bind fun t => (isTy g t (.cls n)).map fun b => (false, .bl b) := (rfl)
@[simp] theorem tyName_non : tyName g μ .non = some (.inl "NoneType") := (rfl)
@[simp] theorem tyName_bl (b : Bool) : tyName g μ (.bl b) = some (.inl "bool") := (rfl)
@[simp] theorem tyName_int (b : Int) : tyName g μ (.int b) = some (.inl "int") := (rfl)
@[simp] theorem tyName_str (b : Str) : tyName g μ (.str b) = some (.inl "str") := (rfl)
@[simp] theorem tyName_lst (b : List D) : tyName g μ (.lst b) = some (.inl "list") := (rfl)
@[simp] theorem tyName_tup (b : List D) : tyName g μ (.tup b) = some (.inl "tuple") := (rfl)
end
@[simp] theorem isTy_ty (g : G) (m n : String) (h : tyAsked.contains n = true) (h1 : tyKnown.contains m = true) : isTy g (.inl m) (.ty n) = some (m == n || (m == "bool" && n == "int")) := by simp only [isTy, h, h1, if_true]
@[simp] theorem truth_bl (b : Bool) : truth (.bl b) = some b := (rfl)
@[simp] theorem truth_non : truth .non = some false := (rfl)
@[simp] theorem endS_nx (s : S) : endS (.nx s) = .ok false .non (shut s.μ) := (rfl)
@[simp] theorem endS_rt (o : Bool) (d : D) (s : S) : endS (.rt o d s) = .ok o d (shut s.μ) := (rfl)
@[simp] theorem endS_ex (c : Nat) (s : S) : endS (.ex c s) = .ex c (shut s.μ) := (rfl)
@[simp] theorem items_l (xs : List D) : items .seq [.lst xs] = some xs := (rfl)
@[simp] theorem items_t (xs : List D) : items .seq [.tup xs] = some xs := (rfl)
@[simp] theorem items_s (xs : List D) : items .seq [.scr xs] = some xs := (rfl)
theorem runF_eq (g : G) (cl : Callee) (d : Fn) (as : List D) (μ : List Bx) (h : as.length = d.np) : runF g cl d as μ = endS (evSs g cl d.body { σ := (as.map fun a => some (false, a)) ++ List.replicate (d.nl - d.np) none, μ := μ }) := by simp [runF, h]

/-! heaps that come back -/
theorem shutB_shutB (b : Bx) : shutB (shutB b) = shutB b := by cases b <;> rfl
@[simp] theorem shut_shut (μ : List Bx) : shut (shut μ) = shut μ := by simp [shut, Function.comp_def, shutB_shutB]
theorem shutB_seen (s : S) (b : Bx) : shutB (seen s b) = shutB b := by
  cases b with
  | lam i => simp only [seen]; cases snap s i.cs <;> rfl
  | _ => rfl
@[simp] theorem shut_enter (s : S) : shut (enter s) = shut s.μ := by simp [shut, enter, Function.comp_def, shutB_seen]
@[simp] theorem enter_len (s : S) : (enter s).length = s.μ.length := by simp [enter]
@[simp] theorem shut_len (μ : List Bx) : (shut μ).length = μ.length := by simp [shut]
theorem leave_nil (ν : List Bx) : leave [] ν = shut ν := by simp [leave]
@[simp] theorem leave_shut (μ : List Bx) : leave μ (shut μ) = μ := by
  induction μ with
  | nil => rfl
  | cons b r ih =>
    show leave (b :: r) (shutB b :: shut r) = _
    simp only [leave, ih]
    cases b <;> rfl
theorem leave_app (μ ν ρ : List Bx) (h : μ.length ≤ ν.length) : leave μ (ν ++ ρ) = leave μ ν ++ shut ρ := by
  induction μ generalizing ν with
  | nil => simp [leave, shut]
  | cons b r ih => cases ν with
    | nil => simp at h
    | cons c t => simp only [List.cons_append, leave]; rw [ih t (by simpa using h)]
theorem leave_enter (s : S) (μ : List Bx) : leave μ (μ.map (seen s)) = μ := by
  induction μ with
  | nil => rfl
  | cons b r ih =>
    simp only [List.map, leave, ih]
    cases b <;> simp [seen, shutB]
@[simp] theorem leave_enter' (s : S) : leave s.μ (enter s) = s.μ := leave_enter s s.μ
theorem enter_at {s : S} {n c : Nat} {fs : List (Str × D)} (h : s.μ[n]? = some (.ins c fs)) : (enter s)[n]? = some (.ins c fs) := by simp [enter, h, seen]
theorem shut_at {μ : List Bx} {n c : Nat} {fs : List (Str × D)} (h : μ[n]? = some (.ins c fs)) : (shut μ)[n]? = some (.ins c fs) := by simp [shut, h, shutB]
/-- a call that leaves all as it was -/
theorem called_same {r : CRes} {s : S} {o : Bool} {d : D} (h : r = .ok o d (shut s.μ)) : called r s = .ok (o, d) s := by simp [h, called]
theorem called_ex {r : CRes} {s : S} {c : Nat} (h : r = .ex c (shut s.μ)) : called r s = .ex c s := by simp [h, called]
theorem run_succ (g : G) (k f : Nat) (as : List D) (μ : List Bx) {d : Fn} (h : g.fns[f]? = some d) : runI g (k + 1) (.inl f) as μ = runF g (runI g k) d as μ := by
  show (match g.fns[f]? with | some d => runF g (runI g k) d as μ | none => CRes.no) = _
  rw [h]
/-! walks -/
theorem turns_inv {t : Nat} {own : List Nat} {f : S → List D → Res (List D)} (P : Nat → List D → S → Prop) (l : List D)
    (hf : ∀ i x, l[i]? = some x → ∀ acc s, P i acc s → ∃ acc' s', f { s with σ := (wipe s.σ own).set t (some (false, x)) } acc = .ok acc' s' ∧ P (i + 1) acc' s') :
    ∀ acc s, P 0 acc s → ∃ acc' s', turns t own f l s acc = .ok acc' s' ∧ P l.length acc' s' := by
  induction l generalizing P with
  | nil => intro acc s h; exact ⟨acc, s, rfl, h⟩
  | cons x xs ih =>
    intro acc s h
    obtain ⟨a1, s1, e1, h1⟩ := hf 0 x rfl acc s h
    obtain ⟨a2, s2, e2, h2⟩ := ih (fun i => P (i + 1)) (fun i y hy => hf (i + 1) y (by simpa using hy)) a1 s1 h1
    exact ⟨a2, s2, by simp only [turns, e1, bind_ok, e2], h2⟩
theorem loop_inv {t : Nat} {f : S → Out} (P : Nat → S → Prop) (l : List D)
    (hf : ∀ i x, l[i]? = some x → ∀ s, P i s → ∃ s', f { s with σ := s.σ.set t (some (false, x)) } = .nx s' ∧ P (i + 1) s') :
    ∀ s, P 0 s → ∃ s', loop t f l s = .nx s' ∧ P l.length s' := by
  induction l generalizing P with
  | nil => intro s h; exact ⟨s, rfl, h⟩
  | cons x xs ih =>
    intro s h
    obtain ⟨s1, e1, h1⟩ := hf 0 x rfl s h
    obtain ⟨s2, e2, h2⟩ := ih (fun i => P (i + 1)) (fun i y hy => hf (i + 1) y (by simpa using hy)) s1 h1
    exact ⟨s2, by simp only [loop, e1, e2], h2⟩
theorem loop_cons_nx {t : Nat} {f : S → Out} {x : D} {xs : List D} {s s' : S} (h : f { s with σ := s.σ.set t (some (false, x)) } = .nx s') : loop t f (x :: xs) s = loop t f xs s' := by simp only [loop, h]
theorem while_end {c : S → Res Bool} {f : S → Out} (st : Nat → S) (N : Nat) (hc : ∀ n < N, c (st n) = .ok true (st n)) (hf : ∀ n < N, f (st n) = .nx (st (n + 1))) (he : c (st N) = .ok false (st N)) :
    ∀ fuel m, m ≤ N → N - m < fuel → whileL c f fuel (st m) = .nx (st N) := by
  intro fuel
  induction fuel with
  | zero => intro m h1 h2; omega
  | succ n ih =>
    intro m h1 h2
    by_cases h : m = N
    · subst h; simp [whileL, he]
    · simp only [whileL, hc m (by omega), out_ok, if_true, hf m (by omega)]
      exact ih (m + 1) (by omega) (by omega)
theorem while_exc {c : S → Res Bool} {f : S → Out} (st : Nat → S) (N : Nat) {e : Nat} {s' : S} (hc : ∀ n ≤ N, c (st n) = .ok true (st n)) (hf : ∀ n < N, f (st n) = .nx (st (n + 1))) (he : f (st N) = .ex e s') :
    ∀ fuel m, m ≤ N → N - m < fuel → whileL c f fuel (st m) = .ex e s' := by
  intro fuel
  induction fuel with
  | zero => intro m h1 h2; omega
  | succ n ih =>
    intro m h1 h2
    by_cases h : m = N
    · subst h; simp [whileL, hc, he]
    · simp only [whileL, hc m (by omega), out_ok, if_true, hf m (by omega)]
      exact ih (m + 1) (by omega) (by omega)
theorem wipe_len (σ : List (Option (Bool × D))) (own : List Nat) : (wipe σ own).length = σ.length := by
  induction own with
  | nil => rfl
  | cons v vs ih => simp [wipe, ih]
theorem wipe_get (σ : List (Option (Bool × D))) (own : List Nat) (i : Nat) : (wipe σ own)[i]? = if i ∈ own ∧ i < σ.length then some none else σ[i]? := by
  induction own with
  | nil => simp [wipe]
  | cons v vs ih =>
    simp only [wipe, List.getElem?_set, wipe_len, ih, List.mem_cons]
    by_cases hv : v = i
    · subst hv
      by_cases hl : v < σ.length
      · simp [hl]
      · simp [hl]
    · have : i ≠ v := fun h => hv h.symm
      simp [hv, this]
theorem back_len (σ τ : List (Option (Bool × D))) (own : List Nat) : (back σ τ own).length = τ.length := by
  induction own with
  | nil => rfl
  | cons v vs ih => simp [back, ih]
theorem back_get (σ τ : List (Option (Bool × D))) (own : List Nat) (i : Nat) : (back σ τ own)[i]? = if i ∈ own ∧ i < τ.length then some (match σ[i]? with
    | some (some (false, d)) => some (false, d)
    | _ => none) else τ[i]? := by
  induction own with
  | nil => simp [back]
  | cons v vs ih =>
    simp only [back, List.getElem?_set, back_len, ih, List.mem_cons]
    by_cases hv : v = i
    · subst hv
      by_cases hl : v < τ.length
      · simp [hl] <;> rfl
      · simp [hl]
    · have : i ≠ v := fun h => hv h.symm
      simp [hv, this]
theorem back_wipe {σ τ τ' : List (Option (Bool × D))} {own : List Nat} (h : wipe τ own = wipe τ' own) : back σ τ own = back σ τ' own := by
  have hl : τ.length = τ'.length := by have := congrArg List.length h; simpa [wipe_len] using this
  apply List.ext_getElem?
  intro i
  have := congrArg (fun l => l[i]?) h
  simp only [wipe_get] at this
  simp only [back_get, hl]
  by_cases hc : i ∈ own ∧ i < τ'.length
  · simp [hc]
  · rw [hl] at this
    simpa [hc] using this
/-- a comprehension whose turns change nothing -/
theorem lc_pure {g : G} {cl : Callee} {own : List Nat} {k : IK} {it : Exs} {t : Nat} {c e : Ex} {σ σi : List (Option (Bool × D))} {μ : List Bx} {xs l : List D} (p : D → Bool) (F : D → D)
    (hit : evEs g cl it ⟨σ, μ⟩ = .ok xs ⟨σi, μ⟩) (hl : items k xs = some l) (hn : l.length < sizeL)
    (hf : ∀ x ∈ l, ∃ σ1, wipe σ1 own = wipe σi own ∧ evT g cl c ⟨(wipe σi own).set t (some (false, x)), enter ⟨σi, μ⟩⟩ = .ok (p x) ⟨σ1, enter ⟨σi, μ⟩⟩ ∧
      (p x = true → ∃ o σ2, wipe σ2 own = wipe σi own ∧ evE g cl e ⟨σ1, enter ⟨σi, μ⟩⟩ = .ok (o, F x) ⟨σ2, enter ⟨σi, μ⟩⟩)) :
    evE g cl (.lc own k it t c e) ⟨σ, μ⟩ = .ok (true, .lst ((l.filter p).map F)) ⟨back σi σi own, μ⟩ := by
  obtain ⟨acc, s1, e1, h1, h2, h3⟩ := turns_inv (t := t) (own := own) (f := fun s acc => (evT g cl c s).bind fun b s => if b then (evE g cl e s).bind fun x s => if acc.length < sizeL then .ok (acc ++ [x.2]) s else .no else .ok acc s)
    (fun i acc s => acc = ((l.take i).filter p).map F ∧ s.μ = enter ⟨σi, μ⟩ ∧ wipe s.σ own = wipe σi own) l
    (by
      intro i x hx acc s ⟨ha, hm, hw⟩
      have hi : i < l.length := (List.getElem?_eq_some_iff.1 hx).1
      have hmem : x ∈ l := List.mem_of_getElem? hx
      obtain ⟨σ1, w1, t1, r1⟩ := hf x hmem
      have hs : ({ s with σ := (wipe s.σ own).set t (some (false, x)) } : S) = ⟨(wipe σi own).set t (some (false, x)), enter ⟨σi, μ⟩⟩ := by rw [hw, ← hm]
      simp only [hs, t1, bind_ok]
      have htk : l.take (i + 1) = l.take i ++ [x] := by rw [List.take_add_one, hx]; rfl
      have hal : acc.length < sizeL := by
        rw [ha, List.length_map]
        exact Nat.lt_of_le_of_lt (List.length_filter_le _ _) (by simp only [List.length_take]; omega)
      cases hp : p x with
      | true =>
        obtain ⟨o, σ2, w2, t2⟩ := r1 hp
        refine ⟨acc ++ [F x], ⟨σ2, enter ⟨σi, μ⟩⟩, by simp [t2, hal], ?_, rfl, w2⟩
        rw [htk, List.filter_append, List.map_append, ha]
        simp [hp]
      | false =>
        refine ⟨acc, ⟨σ1, enter ⟨σi, μ⟩⟩, by simp, ?_, rfl, w1⟩
        rw [htk, List.filter_append, List.map_append, ha]
        simp [hp])
    [] { σ := σi, μ := enter ⟨σi, μ⟩ } ⟨by simp, rfl, rfl⟩
  simp only [evE_lc, hit, bind_ok, hl, of_some, e1]
  rw [h1, h2, back_wipe h3, show leave μ (enter ⟨σi, μ⟩) = μ from leave_enter ⟨σi, μ⟩ μ]
  simp
theorem wipe_set {σ : List (Option (Bool × D))} {own : List Nat} {t : Nat} (ht : t ∈ own) (x : Option (Bool × D)) : wipe ((wipe σ own).set t x) own = wipe σ own := by
  apply List.ext_getElem?
  intro i
  simp only [wipe_get, List.getElem?_set, List.length_set, wipe_len]
  by_cases h : i ∈ own ∧ i < σ.length
  · simp [h]
  · by_cases hi : t = i
    · subst hi
      have : ¬ t < σ.length := fun hl => h ⟨ht, hl⟩
      simp [this]
    · simp [h, hi]
theorem lc_filt {g : G} {cl : Callee} {own : List Nat} {k : IK} {it : Exs} {t : Nat} {c e : Ex} {σ0 σ : List (Option (Bool × D))} {μ : List Bx} (xs l : List D) (p : D → Bool) (F : D → D) (o : Bool)
    (hit : evEs g cl it ⟨σ0, μ⟩ = .ok xs ⟨σ, μ⟩) (hl : items k xs = some l) (hn : l.length < sizeL) (ht : t ∈ own)
    (hc : ∀ x ∈ l, evT g cl c ⟨(wipe σ own).set t (some (false, x)), enter ⟨σ, μ⟩⟩ = .ok (p x) ⟨(wipe σ own).set t (some (false, x)), enter ⟨σ, μ⟩⟩)
    (he : ∀ x ∈ l, p x = true → evE g cl e ⟨(wipe σ own).set t (some (false, x)), enter ⟨σ, μ⟩⟩ = .ok (o, F x) ⟨(wipe σ own).set t (some (false, x)), enter ⟨σ, μ⟩⟩) :
    evE g cl (.lc own k it t c e) ⟨σ0, μ⟩ = .ok (true, .lst ((l.filter p).map F)) ⟨back σ σ own, μ⟩ :=
  lc_pure p F hit hl hn fun x hx => ⟨_, wipe_set ht _, hc x hx, fun hp => ⟨o, _, wipe_set ht _, he x hx hp⟩⟩
theorem lc_all {g : G} {cl : Callee} {own : List Nat} {k : IK} {it : Exs} {t : Nat} {e : Ex} {σ0 σ : List (Option (Bool × D))} {μ : List Bx} (xs l : List D) (F : D → D) (o : Bool)
    (hit : evEs g cl it ⟨σ0, μ⟩ = .ok xs ⟨σ, μ⟩) (hl : items k xs = some l) (hn : l.length < sizeL) (ht : t ∈ own)
    (he : ∀ x ∈ l, evE g cl e ⟨(wipe σ own).set t (some (false, x)), enter ⟨σ, μ⟩⟩ = .ok (o, F x) ⟨(wipe σ own).set t (some (false, x)), enter ⟨σ, μ⟩⟩) :
    evE g cl (.lc own k it t .yes e) ⟨σ0, μ⟩ = .ok (true, .lst (l.map F)) ⟨back σ σ own, μ⟩ := by
  rw [lc_filt xs l (fun _ => true) F o hit hl hn ht (fun _ _ => rfl) (fun x hx _ => he x hx), List.filter_eq_self.2 (fun _ _ => rfl)]
end Iw
end
section
set_option linter.all false
set_option maxRecDepth 100000
namespace K72
open Iv Iw
open PySem (Str)
@[simp] theorem g_cls0 : g.cls[0]? = some ⟨0, [], [0], [], false⟩ := rfl
@[simp] theorem g_cls1 : g.cls[1]? = some ⟨0, [], [1, 0], [], false⟩ := rfl
@[simp] theorem g_cls2 : g.cls[2]? = some ⟨0, [], [2, 0], [], false⟩ := rfl
@[simp] theorem g_cls3 : g.cls[3]? = some ⟨0, [], [3, 0], [], false⟩ := rfl
@[simp] theorem g_cls4 : g.cls[4]? = some ⟨3, [], [4], ["colours", "table", "good"], true⟩ := rfl
@[simp] theorem g_len : g.cls.length = 5 := rfl
@[simp] theorem g_fuel : g.fuel = 1000000 := rfl
/-- an int between two -/
theorem is_between_int (k : Nat) (t lo hi : Int) (μ : List Bx) : runI g (k + 1) (.inl 0) [.int t, .int lo, .int hi] μ = .ok false (.bl (decide (lo ≤ t) && decide (t ≤ hi))) (shut μ) := by
  rw [run_succ _ _ 0 _ _ rfl, runF_eq _ _ _ _ _ rfl]
  simp [c_is_between, tyAsked, tyKnown]
  by_cases h : lo ≤ t <;> simp [h]

def tR (r : List Int) : D := .tup (r.map .int)
def tT (T : List (List Int)) : D := .tup (T.map tR)
def tB (B : List Bool) : D := .tup (B.map .bl)
@[simp] theorem bools_map (l : List Bool) : bools (l.map .bl) = some l := by induction l <;> simp [bools, *]
@[simp] theorem ints_map (l : List Int) : «ints» (l.map .int) = some l := by induction l <;> simp [«ints», *]
@[simp] theorem bools_comp {α : Type} (f : α → Bool) (l : List α) : bools (l.map (D.bl ∘ f)) = some (l.map f) := by rw [← List.map_map, bools_map]
@[simp] theorem ints_comp {α : Type} (f : α → Int) (l : List α) : «ints» (l.map (D.int ∘ f)) = some (l.map f) := by rw [← List.map_map, ints_map]
@[simp] theorem bools_fun {α : Type} (f : α → Bool) (l : List α) : bools (l.map fun x => D.bl (f x)) = some (l.map f) := bools_comp f l
/-- a plan that may stand -/
structure Pok (c : Int) (T : List (List Int)) (B : List Bool) : Prop where
  c1 : 1 ≤ c
  c4 : c ≤ 4
  t1 : 1 ≤ T.length
  t60 : T.length ≤ 60
  row : ∀ r ∈ T, (r.length : Int) = c + 1
  rng : ∀ r ∈ T, ∀ x ∈ r, 0 ≤ x ∧ x < T.length
  b : B.length = T.length
@[simp] theorem c_ib (k : Nat) (h : 1 ≤ k) (t lo hi : Int) (s : S) : called (runI g k (.inl 0) [.int t, .int lo, .int hi] (enter s)) s = .ok (false, .bl (decide (lo ≤ t) && decide (t ≤ hi))) s := by
  obtain ⟨j, rfl⟩ : ∃ j, k = j + 1 := ⟨k - 1, by omega⟩
  exact called_same (by rw [is_between_int, shut_enter])
theorem is_table_ok (k : Nat) {c : Int} {T : List (List Int)} {B : List Bool} (h : Pok c T B) (μ : List Bx) : runI g (k + 2) (.inl 1) [tT T, .int c] μ = .ok false (.bl true) (shut μ) := by
  rw [run_succ _ _ 1 _ _ rfl, runF_eq _ _ _ _ _ rfl]
  have h1 : (1 : Int) ≤ T.length := by have := h.t1; omega
  have h60 : (T.length : Int) ≤ 60 := by have := h.t60; omega
  have e0 : evS g (runI g (k + 1)) (nth c_is_table 0) ⟨[some (false, tT T), some (false, .int c), none, none], μ⟩ = .nx ⟨[some (false, tT T), some (false, .int c), none, none], μ⟩ := by
    simp [nth, c_is_table, tyAsked, tyKnown, tT, h1, h60]
  have e1 : ∃ x, evS g (runI g (k + 1)) (nth c_is_table 1) ⟨[some (false, tT T), some (false, .int c), none, none], μ⟩ = .nx ⟨[some (false, tT T), some (false, .int c), x, none], μ⟩ := by
    rw [show nth c_is_table 1 = .for_ 2 .seq (.cons (.var false 0) .nil) (inn (nth c_is_table 1)) from rfl, for_run (s' := ⟨[some (false, tT T), some (false, .int c), none, none], μ⟩) (xs := [tT T]) (l := T.map tR) rfl rfl rfl]
    obtain ⟨s', e, x, hs⟩ := loop_inv (t := 2) (f := evSs g (runI g (k + 1)) (inn (nth c_is_table 1))) (fun _ s => ∃ x, s = ⟨[some (false, tT T), some (false, .int c), x, none], μ⟩) (T.map tR) (by
      rintro i x hx s ⟨y, rfl⟩
      obtain ⟨r, hr, rfl⟩ := List.mem_map.1 (List.mem_of_getElem? hx)
      have hl := h.row r hr
      have e2 : evE g (runI g (k + 1)) (.lc [3] .seq (.cons (.var false 2) .nil) 3 .yes (.call 0 (.cons (.var false 3) (.cons (.con (.int 0)) (.cons (.bin .sub (.bcall .len (.cons (.var false 0) .nil)) (.con (.int 1))) .nil))))) ⟨[some (false, tT T), some (false, .int c), some (false, tR r), none], μ⟩ = .ok (true, .lst ((r.map fun _ => true).map .bl)) ⟨[some (false, tT T), some (false, .int c), some (false, tR r), none], μ⟩ := by
        rw [lc_all [tR r] (r.map .int) (fun _ => .bl true) false rfl rfl (by have := h.c4; simp [sizeL]; omega) (by decide) (by
          intro x hx
          obtain ⟨z, hz, rfl⟩ := List.mem_map.1 hx
          have := h.rng r hr z hz
          simp [wipe, tT]
          omega)]
        simp [back]
      refine ⟨_, ?_, some (false, tR r), rfl⟩
      rw [tR] at e2
      simp [nth, inn, c_is_table, tR, tyAsked, tyKnown, hl, e2]) ⟨_, μ⟩ ⟨none, rfl⟩
    exact ⟨x, by rw [e, hs]⟩
  obtain ⟨x, e1⟩ := e1
  rw [show (⟨2, 4, c_is_table⟩ : Fn).body = .cons (nth c_is_table 0) (.cons (nth c_is_table 1) (.cons (.ret (.con (.bl true))) .nil)) from rfl]
  simp [e0, e1]
@[simp] theorem c_it (k : Nat) (hk : 2 ≤ k) {c : Int} {T : List (List Int)} {B : List Bool} (h : Pok c T B) (s : S) : called (runI g k (.inl 1) [tT T, .int c] (enter s)) s = .ok (false, .bl true) s := by
  obtain ⟨j, rfl⟩ : ∃ j, k = j + 2 := ⟨k - 2, by omega⟩
  exact called_same (by rw [is_table_ok j h, shut_enter])
theorem are_truths_ok (k : Nat) (B : List Bool) (n : Int) (h : n = B.length) (hl : B.length < 1000) (μ : List Bx) : runI g (k + 1) (.inl 2) [tB B, .int n] μ = .ok false (.bl true) (shut μ) := by
  rw [run_succ _ _ 2 _ _ rfl, runF_eq _ _ _ _ _ rfl]
  have e : evE g (runI g k) (.lc [2] .seq (.cons (.var false 0) .nil) 2 .yes (.bcall .isinst (.cons (.var false 2) (.cons (.con (.ty "bool")) .nil)))) ⟨[some (false, tB B), some (false, .int n), none], μ⟩ = .ok (true, .lst (B.map fun _ => .bl true)) ⟨[some (false, tB B), some (false, .int n), none], μ⟩ := by
    rw [lc_all [tB B] (B.map .bl) (fun _ => .bl true) false rfl rfl (by simp [sizeL]; omega) (by decide) (by
      intro x hx
      obtain ⟨z, hz, rfl⟩ := List.mem_map.1 hx
      simp [wipe, tyAsked, tyKnown])]
    simp [back]
  rw [tB, h] at e
  simp [c_are_truths, tB, tyAsked, tyKnown, h, e]
@[simp] theorem c_at (k : Nat) (hk : 1 ≤ k) (B : List Bool) (n : Int) (h : n = B.length) (hl : B.length < 1000) (s : S) : called (runI g k (.inl 2) [tB B, .int n] (enter s)) s = .ok (false, .bl true) s := by
  obtain ⟨j, rfl⟩ : ∃ j, k = j + 1 := ⟨k - 1, by omega⟩
  exact called_same (by rw [are_truths_ok j B n h hl, shut_enter])
@[simp] theorem hOf_tT (o : Bool) (T : List (List Int)) : hOf (o, tT T) = .val (tT T) := rfl
@[simp] theorem hOf_tB (o : Bool) (T : List Bool) : hOf (o, tB T) = .val (tB T) := rfl
@[simp] theorem hOf_tR (o : Bool) (T : List Int) : hOf (o, tR T) = .val (tR T) := rfl
@[simp] theorem len_tT (g : G) (μ : List Bx) (a : D) (T : List (List Int)) : bfun g μ .len [(a, tT T)] = some (false, .int T.length) := by simp [tT]
@[simp] theorem len_tB (g : G) (μ : List Bx) (a : D) (T : List Bool) : bfun g μ .len [(a, tB T)] = some (false, .int T.length) := by simp [tB]
@[simp] theorem len_tR (g : G) (μ : List Bx) (a : D) (T : List Int) : bfun g μ .len [(a, tR T)] = some (false, .int T.length) := by simp [tR]
@[simp] theorem fld_c : hasFld g 4 "colours" = true := by decide
@[simp] theorem fld_t : hasFld g 4 "table" = true := by decide
@[simp] theorem fld_g : hasFld g 4 "good" = true := by decide
@[simp] theorem put_c (v : D) : putF "colours" v [] = ([("colours", v)] : List (Str × D)) := rfl
@[simp] theorem put_t (v u : D) : putF "table" v [("colours", u)] = ([("colours", u), ("table", v)] : List (Str × D)) := rfl
@[simp] theorem put_g (v u w : D) : putF "good" v [("colours", u), ("table", w)] = ([("colours", u), ("table", w), ("good", v)] : List (Str × D)) := rfl
@[simp] theorem look_t (a b c : D) : List.lookup ("table" : Str) ([("colours", a), ("table", b), ("good", c)] : List (Str × D)) = some b := rfl
@[simp] theorem look_g (a b c : D) : List.lookup ("good" : Str) ([("colours", a), ("table", b), ("good", c)] : List (Str × D)) = some c := rfl
def mach (c : Int) (T : List (List Int)) (B : List Bool) : Bx := .ins 4 [("colours", .int c), ("table", tT T), ("good", tB B)]
theorem make_ok (k : Nat) {c : Int} {T : List (List Int)} {B : List Bool} (h : Pok c T B) (σ : List (Option (Bool × D))) (μ : List Bx) : newI g (runI g (k + 3)) 4 [.int c, tT T, tB B] ⟨σ, μ⟩ = .ok (false, .box μ.length) ⟨σ, μ ++ [mach c T B]⟩ := by
  have e : runI g (k + 3) (.inl 3) [.box μ.length, .int c, tT T, tB B] (enter ⟨σ, μ⟩ ++ [.ins 4 []]) = .ok false .non (shut μ ++ [mach c T B]) := by
    rw [run_succ _ _ 3 _ _ rfl, runF_eq _ _ _ _ _ rfl]
    have h1 := h.c1
    have h4 := h.c4
    have hb := h.b
    have h60 := h.t60
    have hl : B.length < 1000 := by omega
    simp [c_Machine_init, h1, h4, c_it (k + 2) (by omega) h, hb, hl, c_at (k + 2) (by omega) B T.length (by omega) hl]
    simp [shut, mach, shutB]
    simpa [shut] using shut_enter ⟨σ, μ⟩
  simp [newI, e]
  rw [Iw.leave_app _ _ _ (by simp), leave_shut]
  rfl
end K72
end
section
set_option linter.all false
set_option maxRecDepth 100000
namespace K72
open Iv Iw
open PySem (Str)
/-! crowds -/
def row (T : List (List Int)) (r : Int) : List Int := T[r.toNat]?.getD []
def gd (B : List Bool) (r : Int) : Bool := B[r.toNat]?.getD false
def nxt (T : List (List Int)) (cr : List Int) : List Int := sortU (cr.flatMap (row T))
/-- a crowd that may stand -/
structure Cok (T : List (List Int)) (cr : List Int) : Prop where
  srt : cr.Pairwise (· < ·)
  rng : ∀ r ∈ cr, 0 ≤ r ∧ r < T.length
  ne : cr ≠ []
theorem mem_insU (x y : Int) (l : List Int) : y ∈ insU x l ↔ y = x ∨ y ∈ l := by
  induction l with
  | nil => simp [insU]
  | cons z r ih =>
    simp only [insU]
    split
    · simp
    · split
      · rename_i h; subst h; simp
      · simp only [List.mem_cons, ih]
        constructor
        · rintro (h | h | h) <;> simp [h]
        · rintro (h | h | h) <;> simp [h]
theorem mem_sortU (y : Int) (l : List Int) : y ∈ sortU l ↔ y ∈ l := by
  induction l with
  | nil => simp [sortU]
  | cons x r ih => simp only [sortU, List.foldr_cons, mem_insU, List.mem_cons]; rw [← ih]; rfl
theorem srt_insU (x : Int) (l : List Int) (h : l.Pairwise (· < ·)) : (insU x l).Pairwise (· < ·) := by
  induction l with
  | nil => simp [insU]
  | cons z r ih =>
    have h2 := List.pairwise_cons.1 h
    simp only [insU]
    split
    · rename_i hx
      refine List.pairwise_cons.2 ⟨fun y hy => ?_, h⟩
      rcases List.mem_cons.1 hy with rfl | hy
      · exact hx
      · have := h2.1 y hy; omega
    · split
      · exact h
      · refine List.pairwise_cons.2 ⟨fun y hy => ?_, ih h2.2⟩
        rcases (mem_insU x y r).1 hy with rfl | hy
        · omega
        · exact h2.1 y hy
theorem srt_sortU (l : List Int) : (sortU l).Pairwise (· < ·) := by
  induction l with
  | nil => simp [sortU]
  | cons x r ih => exact srt_insU x _ ih
theorem srt_len (l : List Int) (a b : Int) (h : l.Pairwise (· < ·)) (hr : ∀ x ∈ l, a ≤ x ∧ x < b) : (l.length : Int) ≤ max 0 (b - a) := by
  induction l generalizing a with
  | nil => simp; omega
  | cons x r ih =>
    have h2 := List.pairwise_cons.1 h
    have := ih (x + 1) h2.2 (fun y hy => by have := h2.1 y hy; have := hr y (by simp [hy]); omega)
    have := hr x (by simp)
    simp only [List.length_cons]
    omega
theorem Cok.len {T : List (List Int)} {cr : List Int} (h : Cok T cr) : cr.length ≤ T.length := by
  have := srt_len cr 0 T.length h.srt h.rng
  omega
theorem flat_len {α : Type} (f : α → List Int) (n : Nat) (l : List α) (h : ∀ x ∈ l, (f x).length ≤ n) : (l.flatMap f).length ≤ n * l.length := by
  induction l with
  | nil => simp
  | cons x r ih =>
    have := h x (by simp)
    have := ih fun y hy => h y (by simp [hy])
    simp only [List.flatMap_cons, List.length_append, List.length_cons, Nat.mul_add]
    omega
theorem row_mem {T : List (List Int)} {r : Int} (h : 0 ≤ r ∧ r < T.length) : row T r ∈ T := by
  unfold row
  have : r.toNat < T.length := by omega
  rw [List.getElem?_eq_getElem this]
  simp
section
variable {c : Int} {T : List (List Int)} {B : List Bool} (h : Pok c T B) {cr : List Int} (hc : Cok T cr)
include h hc
theorem row_len : ∀ r ∈ cr, (row T r).length ≤ 5 ∧ 2 ≤ (row T r).length := by
  intro r hr
  have := h.row _ (row_mem (hc.rng r hr))
  have := h.c4
  have := h.c1
  omega
theorem flat_small : (cr.flatMap (row T)).length ≤ 300 := by
  have := flat_len (row T) 5 cr fun r hr => (row_len h hc r hr).1
  have := hc.len
  have := h.t60
  omega
theorem nxt_ok : Cok T (nxt T cr) := by
  refine ⟨srt_sortU _, fun x hx => ?_, fun he => ?_⟩
  · obtain ⟨r, hr, hx⟩ := List.mem_flatMap.1 ((mem_sortU _ _).1 hx)
    exact h.rng _ (row_mem (hc.rng r hr)) x hx
  · obtain ⟨r, hr⟩ := List.exists_mem_of_ne_nil _ hc.ne
    have hl := (row_len h hc r hr).2
    obtain ⟨x, hx⟩ := List.exists_mem_of_ne_nil (row T r) (by intro e; simp [e] at hl)
    have : x ∈ nxt T cr := (mem_sortU _ _).2 (List.mem_flatMap.2 ⟨r, hr, hx⟩)
    simp [he] at this
end
def orb (T : List (List Int)) : Nat → List Int
  | 0 => [0]
  | n + 1 => nxt T (orb T n)
theorem orb_ok {c : Int} {T : List (List Int)} {B : List Bool} (h : Pok c T B) (n : Nat) : Cok T (orb T n) := by
  induction n with
  | zero => exact ⟨by simp [orb], by have := h.t1; simp [orb]; omega, by simp [orb]⟩
  | succ n ih => exact nxt_ok h ih
/-! reading -/
theorem ixN_in {n : Nat} {r : Int} (h : 0 ≤ r ∧ r < n) : ixN n r = some r.toNat := by simp [ixN, h.1, h.2]
theorem get_T {T : List (List Int)} {r : Int} (h : 0 ≤ r ∧ r < T.length) : getI (tT T) (.int r) = some (tR (row T r)) := by
  have : r.toNat < T.length := by omega
  simp [getI, tT, ixN_in, h, row, List.getElem?_eq_getElem this]
theorem get_B {B : List Bool} {r : Int} (h : 0 ≤ r ∧ r < B.length) : getI (tB B) (.int r) = some (.bl (gd B r)) := by
  have : r.toNat < B.length := by omega
  simp [getI, tB, ixN_in, h, gd, List.getElem?_eq_getElem this]
theorem rooms_ok (k : Nat) {c : Int} {T : List (List Int)} {B : List Bool} (h : Pok c T B) {cr : List Int} (hc : Cok T cr) {n : Nat} {μ : List Bx} (hm : μ[n]? = some (mach c T B)) : runI g (k + 1) (.inl 5) [.box n, tR cr] μ = .ok false (tR (nxt T cr)) (shut μ) := by
  rw [run_succ _ _ 5 _ _ rfl, runF_eq _ _ _ _ _ rfl]
  have hm' : (shut μ)[n]? = some (mach c T B) := shut_at hm
  have e : evE g (runI g k) (.lc2 [2, 3] .seq (.cons (.var false 1) .nil) 2 [3] .seq (.cons (.sub (.fld (.var false 0) "table") (.var false 2)) .nil) 3 .yes (.var false 3)) ⟨[some (false, .box n), some (false, tR cr), none, none], μ⟩ = .ok (true, .lst ((cr.flatMap (row T)).map .int)) ⟨[some (false, .box n), some (false, tR cr), none, none], μ⟩ := by
    rw [evE_lc2]
    obtain ⟨acc, s1, e1, h1, a, b, h2⟩ := turns_inv (t := 2) (own := [2, 3]) (f := fun s acc => (evEs g (runI g k) (.cons (.sub (.fld (.var false 0) "table") (.var false 2)) .nil) s).bind fun ys s => (Res.of (items .seq ys) s).bind fun m s =>
          turns 3 [3] (fun s acc => (evT g (runI g k) .yes s).bind fun b s => if b then (evE g (runI g k) (.var false 3) s).bind fun x s => if acc.length < sizeL then .ok (acc ++ [x.2]) s else .no else .ok acc s) m s acc)
      (fun i acc s => acc = ((cr.take i).flatMap (row T)).map .int ∧ ∃ a b, s = ⟨[some (false, .box n), some (false, tR cr), a, b], shut μ⟩) (cr.map .int)
      (by
        rintro i x hx acc s ⟨rfl, a, b, rfl⟩
        rw [List.getElem?_map] at hx
        obtain ⟨r, hr, rfl⟩ := Option.map_eq_some_iff.1 hx
        have hrm : r ∈ cr := List.mem_of_getElem? hr
        have hrr := hc.rng r hrm
        obtain ⟨acc2, s2, e2, h2, b2, h3⟩ := turns_inv (t := 3) (own := [3]) (f := fun s acc => (evT g (runI g k) .yes s).bind fun b s => if b then (evE g (runI g k) (.var false 3) s).bind fun x s => if acc.length < sizeL then .ok (acc ++ [x.2]) s else .no else .ok acc s)
          (fun j acc s => acc = (((cr.take i).flatMap (row T)) ++ (row T r).take j).map .int ∧ ∃ b, s = ⟨[some (false, .box n), some (false, tR cr), some (false, .int r), b], shut μ⟩) ((row T r).map .int)
          (by
            rintro j x hx acc s ⟨rfl, b, rfl⟩
            rw [List.getElem?_map] at hx
            obtain ⟨z, hz, rfl⟩ := Option.map_eq_some_iff.1 hx
            have hl : (((cr.take i).flatMap (row T)) ++ (row T r).take j).length < sizeL := by
              have h1 := flat_len (row T) 5 (cr.take i) fun r hr => (row_len h hc r (List.mem_of_mem_take hr)).1
              have h2 := (row_len h hc r hrm).1
              have h3 := hc.len
              have h4 := h.t60
              simp only [List.length_append, List.length_take, sizeL] at *
              omega
            refine ⟨_, _, ?_, rfl, some (false, .int z), rfl⟩
            simp only [evT_yes, bind_ok, if_true, evE_var, rVar_sel]
            simp only [List.length_map, hl, wipe, List.set_cons_succ, List.set_cons_zero, List.getElem?_cons_succ, List.getElem?_cons_zero, rSel_f, bind_ok, if_true]
            rw [List.take_add_one, hz]
            simp)
          (((cr.take i).flatMap (row T)).map .int) ⟨[some (false, .box n), some (false, tR cr), some (false, .int r), none], shut μ⟩ ⟨by simp, none, rfl⟩
        refine ⟨acc2, s2, ?_, ?_, some (false, .int r), b2, h3⟩
        · simp [wipe, hm', mach, get_T hrr]
          rw [tR, items_t, of_some, bind_ok]
          exact e2
        · rw [h2, List.take_add_one, hr]
          simp)
      [] ⟨[some (false, .box n), some (false, tR cr), none, none], shut μ⟩ ⟨by simp, none, none, rfl⟩
    have hi : evEs g (runI g k) (.cons (.var false 1) .nil) ⟨[some (false, .box n), some (false, tR cr), none, none], μ⟩ = .ok [tR cr] ⟨[some (false, .box n), some (false, tR cr), none, none], μ⟩ := rfl
    rw [hi, bind_ok, show items .seq [tR cr] = some (cr.map .int) from rfl, of_some, bind_ok]
    dsimp only
    rw [e1, h1, h2]
    simp [back]
  have hl := flat_small h hc
  have hx := nxt_ok h hc
  have hl2 := hx.len
  have ht := h.t60
  have h3 : (sortU (cr.flatMap (row T))).length < 64 := by have : (nxt T cr).length ≤ T.length := hl2; unfold nxt at this; omega
  have h4 : (cr.flatMap (row T)).length < 4000 := by omega
  rw [show nxt T cr = sortU (cr.flatMap (row T)) from rfl]
  generalize cr.flatMap (row T) = l at *
  simp [c_rooms_of_size]
  rw [e]
  simp [h3, h4, tR]
@[simp] theorem c_ro (k : Nat) (hk : 1 ≤ k) {c : Int} {T : List (List Int)} {B : List Bool} (h : Pok c T B) {cr : List Int} (hc : Cok T cr) {n : Nat} {s : S} (hm : s.μ[n]? = some (mach c T B)) : called (runI g k (.inl 5) [.box n, tR cr] (enter s)) s = .ok (false, tR (nxt T cr)) s := by
  obtain ⟨j, rfl⟩ : ∃ j, k = j + 1 := ⟨k - 1, by omega⟩
  exact called_same (by rw [rooms_ok j h hc (enter_at hm), shut_enter])
end K72
end
section
set_option linter.all false
set_option maxRecDepth 100000
namespace K72
open Iv Iw
open PySem (Str)
/-! the shortest pair -/
def rot (r : List Bool) : List Bool := r.drop (r.length - 1) ++ r.dropLast
def trim : Nat → List Bool → List Bool → List Bool × List Bool
  | 0, a, r => (a, r)
  | n + 1, a, r => if a ≠ [] ∧ a.getLast? = r.getLast? then trim n a.dropLast (rot r) else (a, r)
def rep (r : List Bool) (z : Nat) : List Bool := (List.replicate (r.length / z) (r.take z)).flatten
def qq (r : List Bool) (z : Nat) : Bool := decide (r.length % z = 0) && decide (r = rep r z)
def ones (r : List Bool) : List Nat := (List.range r.length).map (· + 1)
def base (r : List Bool) : List Bool := r.take (((ones r).find? (qq r)).getD 0)
def short (a r : List Bool) : List Bool × List Bool := trim a.length a (base r)
def lB (l : List Bool) : D := .lst (l.map .bl)
theorem rot_len {r : List Bool} (h : r ≠ []) : (rot r).length = r.length := by
  have := List.length_pos_iff.2 h
  simp [rot]
theorem find_ex {r : List Bool} (h : r ≠ []) : ∃ z, (ones r).find? (qq r) = some z ∧ 1 ≤ z ∧ z ≤ r.length := by
  have hl := List.length_pos_iff.2 h
  have hm : r.length ∈ ones r := List.mem_map.2 ⟨r.length - 1, List.mem_range.2 (by omega), by omega⟩
  have hq : qq r r.length = true := by
    simp [qq, rep, Nat.div_self hl]
  cases hf : (ones r).find? (qq r) with
  | none => exact absurd hq (by simpa using List.find?_eq_none.1 hf r.length hm)
  | some z =>
    obtain ⟨i, hi, rfl⟩ := List.mem_map.1 (List.mem_of_find?_eq_some hf)
    exact ⟨_, rfl, by omega, by have := List.mem_range.1 hi; omega⟩
theorem base_len {r : List Bool} (h : r ≠ []) : (base r).length ≤ r.length ∧ base r ≠ [] := by
  obtain ⟨z, e, h1, h2⟩ := find_ex h
  have hl : (base r).length = z := by simp [base, e]; omega
  exact ⟨by omega, fun e => by simp [e] at hl; omega⟩
theorem trim_len (n : Nat) (a r : List Bool) (h : r ≠ []) : (trim n a r).1.length ≤ a.length ∧ (trim n a r).2.length = r.length := by
  induction n generalizing a r with
  | zero => simp [trim]
  | succ n ih =>
    simp only [trim]
    split
    · have hr := rot_len h
      have := ih a.dropLast (rot r) (by intro e; rw [e] at hr; simp at hr; exact h (List.length_eq_zero_iff.1 hr.symm))
      simp at this
      omega
    · simp
theorem short_len (a r : List Bool) (h : r ≠ []) : (short a r).1.length ≤ a.length ∧ (short a r).2.length ≤ r.length ∧ (short a r).2 ≠ [] := by
  have hb := base_len h
  have := trim_len a.length a (base r) hb.2
  refine ⟨this.1, by unfold short; omega, fun e => ?_⟩
  have h2 := this.2
  unfold short at e
  rw [e] at h2
  simp at h2
  exact hb.2 (List.length_eq_zero_iff.1 h2.symm)
@[simp] theorem okD_bls (n : Nat) (l : List Bool) : (l.map D.bl).all (okD n) = true := by simp [okD]
theorem deq_bls (n : Nat) (a b : List Bool) : ((a.map D.bl).length == (b.map D.bl).length && ((a.map D.bl).zip (b.map D.bl)).all fun p => deq n p.1 p.2) = decide (a = b) := by
  induction a generalizing b with
  | nil => cases b <;> simp
  | cons x r ih => cases b with
    | nil => simp
    | cons y t =>
      have := ih t
      simp only [List.map_cons, List.length_cons, List.zip_cons_cons, List.all_cons] at this ⊢
      have e : deq n (.bl x) (.bl y) = (x == y) := by cases n <;> rfl
      rw [e]
      by_cases hxy : x = y
      · subst hxy
        simp at this ⊢
        exact this
      · simp [hxy]
@[simp] theorem eqD_lB (a b : List Bool) : eqD (lB a) (lB b) = some (decide (a = b)) := by
  have h : ∀ l, okD 60 (lB l) = true := fun l => okD_bls 59 l
  simp only [eqD, h, Bool.and_self, if_true]
  exact congrArg some (deq_bls 59 a b)
@[simp] theorem eqD_lB0 (a : List Bool) : eqD (lB a) (.lst []) = some (decide (a = [])) := eqD_lB a []
@[simp] theorem eqD_bl (a b : Bool) : eqD (.bl a) (.bl b) = some (a == b) := rfl
@[simp] theorem hOf_lB (o : Bool) (l : List Bool) : hOf (o, lB l) = .val (lB l) := rfl
@[simp] theorem len_lB (g : G) (μ : List Bx) (a : D) (l : List Bool) : bfun g μ .len [(a, lB l)] = some (false, .int l.length) := by simp [lB]
@[simp] theorem tuple_lB (g : G) (μ : List Bx) (a : D) (l : List Bool) : bfun g μ .tuple [(a, lB l)] = some (false, tB l) := rfl
@[simp] theorem eq_lB (l : List Bool) (y : D) : opC .eq (lB l) y = eqD (lB l) y := rfl
@[simp] theorem ne_lB (l : List Bool) (y : D) : opC .ne (lB l) y = (eqD (lB l) y).map fun b => !b := rfl
theorem getI_last (a : List Bool) {x : Bool} (h : a.getLast? = some x) : getI (lB a) (.int (-1)) = some (.bl x) := by
  have hn : a ≠ [] := by intro e; simp [e] at h
  have hl := List.length_pos_iff.2 hn
  rw [List.getLast?_eq_getElem?] at h
  have e : ixN a.length (-1) = some (a.length - 1) := by
    have h1 : ¬ (0 : Int) ≤ -1 := by omega
    have h2 : -(a.length : Int) ≤ -1 := by omega
    simp only [ixN, h1, if_false, h2, if_true]
    congr 1; omega
  simp [getI, lB, e, h]
theorem cut_hi (l : List Bool) (z : Nat) : cut (l.map D.bl) none (some (z : Int)) = (l.take z).map .bl := by
  have : ¬ (z : Int) < 0 := by omega
  simp [cut, sIx, this, ← List.map_take]
  congr 1
  by_cases h : z ≤ l.length
  · simp [Nat.min_eq_left h]
  · rw [Nat.min_eq_right (by omega), List.take_of_length_le (by omega), List.take_of_length_le (by omega)]
theorem cut_lo (l : List Bool) (z : Nat) (h : z ≤ l.length) : cut (l.map D.bl) (some (z : Int)) none = (l.drop z).map .bl := by
  have : ¬ (z : Int) < 0 := by omega
  simp [cut, sIx, this, Nat.min_eq_left h, ← List.map_drop]
  rw [List.take_of_length_le (by simp)]
theorem cut_last (l : List Bool) : cut (l.map D.bl) none (some (-1)) = l.dropLast.map .bl := by
  have : (-1 + (l.length : Int)).toNat = l.length - 1 := by omega
  simp [cut, sIx, this, ← List.map_take, List.dropLast_eq_take]
theorem cut_lst (l : List Bool) (h : l ≠ []) : cut (l.map D.bl) (some (-1)) none = (l.drop (l.length - 1)).map .bl := by
  have hl := List.length_pos_iff.2 h
  have : (-1 + (l.length : Int)).toNat = l.length - 1 := by omega
  simp [cut, sIx, this, ← List.map_drop]
  rw [List.take_of_length_le (by simp)]
@[simp] theorem sSel_hi (l : List Bool) (z : Nat) (s : S) : sSel (some (lB l)) none (some (z : Int)) s = .ok (true, lB (l.take z)) s := by simp [lB, cut_hi]
theorem sSel_lo (l : List Bool) (z : Nat) (h : z ≤ l.length) (s : S) : sSel (some (lB l)) (some (z : Int)) none s = .ok (true, lB (l.drop z)) s := by simp [lB, cut_lo l z h]
@[simp] theorem sSel_last (l : List Bool) (s : S) : sSel (some (lB l)) none (some (-1)) s = .ok (true, lB l.dropLast) s := by simp [lB, cut_last]
theorem sSel_lst (l : List Bool) (h : l ≠ []) (s : S) : sSel (some (lB l)) (some (-1)) none s = .ok (true, lB (l.drop (l.length - 1))) s := by simp [lB, cut_lst l h]
theorem add_lB (a b : List Bool) (h : a.length + b.length ≤ 20000) : opB .add (lB a) (lB b) = some (true, lB (a ++ b)) := by
  have : a.length + b.length ≤ sizeL := by simp only [sizeL]; omega
  simp [lB, this]
/-! a walk that ends at the first hit -/
theorem loop_find {t : Nat} {f : S → Out} {q : Nat → Bool} (mk : Option (Bool × D) → S) (out : Nat → S) (hset : ∀ x y, ({ mk x with σ := (mk x).σ.set t y } : S) = mk y) (l : List Nat)
    (hf : ∀ z ∈ l, f (mk (some (false, .int z))) = if q z then .bk (out z) else .nx (mk (some (false, .int z)))) : ∀ x z, l.find? q = some z → loop t f (l.map fun (i : Nat) => .int i) (mk x) = .nx (out z) := by
  induction l with
  | nil => intro x z h; simp at h
  | cons y r ih =>
    intro x z h
    simp only [List.map_cons, loop, hset, hf y (by simp)]
    cases hq : q y with
    | true => simp [List.find?_cons, hq] at h; simp [h]
    | false =>
      simp only [List.find?_cons, hq] at h
      simp only [Bool.false_eq_true, if_false]
      exact ih (fun z hz => hf z (List.mem_cons_of_mem _ hz)) _ z h
theorem while_trim {c : S → Res Bool} {f : S → Out} (St : Bool → Bool → List Bool → List Bool → S)
    (hc : ∀ f1 f2 a r, r ≠ [] → a.length + r.length ≤ 10000 → c (St f1 f2 a r) = .ok (decide (a ≠ [] ∧ a.getLast? = r.getLast?)) (St f1 f2 a r))
    (hf : ∀ f1 f2 a r, r ≠ [] → a.length + r.length ≤ 10000 → ∃ f1' f2', f (St f1 f2 a r) = .nx (St f1' f2' a.dropLast (rot r))) :
    ∀ n a r f1 f2 fuel, a.length ≤ n → n < fuel → r ≠ [] → a.length + r.length ≤ 10000 → ∃ f1' f2', whileL c f fuel (St f1 f2 a r) = .nx (St f1' f2' (trim n a r).1 (trim n a r).2) := by
  intro n
  induction n with
  | zero =>
    intro a r f1 f2 fuel h1 h2 h3 h4
    obtain ⟨m, rfl⟩ : ∃ m, fuel = m + 1 := ⟨fuel - 1, by omega⟩
    have : a = [] := List.length_eq_zero_iff.1 (by omega)
    subst this
    exact ⟨f1, f2, by simp [whileL, hc _ _ _ _ h3 h4, trim]⟩
  | succ n ih =>
    intro a r f1 f2 fuel h1 h2 h3 h4
    obtain ⟨m, rfl⟩ : ∃ m, fuel = m + 1 := ⟨fuel - 1, by omega⟩
    by_cases h : a ≠ [] ∧ a.getLast? = r.getLast?
    · obtain ⟨g1, g2, e⟩ := hf f1 f2 a r h3 h4
      have hr := rot_len h3
      obtain ⟨g3, g4, e2⟩ := ih a.dropLast (rot r) g1 g2 m (by simp; omega) (by omega) (by intro e; rw [e] at hr; simp at hr; exact h3 (List.length_eq_zero_iff.1 hr.symm)) (by simp; omega)
      exact ⟨g3, g4, by rw [whileL, hc _ _ _ _ h3 h4, out_ok, decide_eq_true h, if_pos rfl, e, trim, if_pos h]; exact e2⟩
    · refine ⟨f1, f2, ?_⟩
      rw [whileL, hc _ _ _ _ h3 h4, out_ok, decide_eq_false h, trim, if_neg h]
      rfl
end K72
end
section
set_option linter.all false
set_option maxRecDepth 100000
namespace K72
open Iv Iw
open PySem (Str)
theorem items_ones (r : List Bool) (h : r.length ≤ 10000) : items .rng2 [.int 1, .int ((r.length : Int) + 1)] = some ((ones r).map fun (i : Nat) => D.int i) := by
  have h1 : rngOk 1 = true := by decide
  have h2 : rngOk ((r.length : Int) + 1) = true := by simp [rngOk]; omega
  have h3 : ((r.length : Int) + 1 - 1).toNat = r.length := by omega
  simp only [items, h1, h2, h3, Bool.and_self, if_true, ones, List.map_map]
  refine congrArg some (List.map_congr_left fun i _ => ?_)
  exact congrArg D.int (show (1 : Int) + (i : Int) = ((i + 1 : Nat) : Int) by omega)
theorem rep_flat (n : Nat) (l : List Bool) : (List.replicate n (l.map D.bl)).flatten = (List.replicate n l).flatten.map D.bl := by
  simp [List.map_flatten]
theorem ones_rng {r : List Bool} {z : Nat} (h : z ∈ ones r) : 1 ≤ z ∧ z ≤ r.length := by
  obtain ⟨i, hi, rfl⟩ := List.mem_map.1 h
  have := List.mem_range.1 hi
  omega
theorem mul_rep {r : List Bool} {z : Nat} (hz : 1 ≤ z ∧ z ≤ r.length) (hr : r.length ≤ 10000) : opB .mul (lB (r.take z)) (.int ((r.length : Int).fdiv z)) = some (true, lB (rep r z)) := by
  have hd : ((r.length : Int).fdiv z) = ((r.length / z : Nat) : Int) := by
    rw [Int.fdiv_eq_ediv_of_nonneg _ (by omega)]; rfl
  have h1 : r.length / z ≤ r.length := Nat.div_le_self _ _
  have h2 : z * (r.length / z) ≤ r.length := Nat.mul_div_le _ _
  rw [hd]
  simp only [opB, lB, List.length_map, List.length_take, Int.toNat_natCast, Nat.min_eq_left hz.2, rep_flat]
  have h3 : 0 ≤ ((r.length / z : Nat) : Int) ∧ ((r.length / z : Nat) : Int) ≤ 10000 := by
    generalize r.length / z = w at *
    omega
  rw [if_pos ⟨by omega, by omega, by simp only [sizeL]; omega⟩]
  rfl
theorem mod_len (n z : Nat) : (Int.fmod (n : Int) z == 0) = decide (n % z = 0) := by
  rw [Int.fmod_eq_emod_of_nonneg _ (by omega), ← Int.natCast_emod]
  rw [Bool.eq_iff_iff]
  simp
  omega
theorem shortest_told_ok (k : Nat) (a r : List Bool) (h : r ≠ []) (hl : a.length + r.length ≤ 10000) (μ : List Bx) : runI g (k + 1) (.inl 4) [lB a, lB r] μ = .ok false (.tup [tB (short a r).1, tB (short a r).2]) (shut μ) := by
  rw [run_succ _ _ 4 _ _ rfl, runF_eq _ _ _ _ _ rfl]
  obtain ⟨z, hz, hz1, hz2⟩ := find_ex h
  have hb := base_len h
  have e0 : evS g (runI g k) (nth c_shortest_told 0) ⟨[some (false, lB a), some (false, lB r), none], μ⟩ = .nx ⟨[some (false, lB a), some (true, lB (base r)), some (false, .int z)], μ⟩ := by
    rw [show nth c_shortest_told 0 = .for_ 2 .rng2 (.cons (.con (.int 1)) (.cons (.bin .add (.bcall .len (.cons (.var false 1) .nil)) (.con (.int 1))) .nil)) (inn (nth c_shortest_told 0)) from rfl,
      for_run (s' := ⟨[some (false, lB a), some (false, lB r), none], μ⟩) (xs := [.int 1, .int ((r.length : Int) + 1)]) (l := (ones r).map fun (i : Nat) => D.int i) (by simp) rfl (items_ones r (by omega))]
    rw [show base r = r.take z by simp [base, hz]]
    refine loop_find (t := 2) (q := qq r) (fun x => ⟨[some (false, lB a), some (false, lB r), x], μ⟩) (fun z => ⟨[some (false, lB a), some (true, lB (r.take z)), some (false, .int z)], μ⟩) (fun x y => rfl) (ones r) ?_ none z hz
    intro y hy
    have hy := ones_rng hy
    have hy0 : y ≠ 0 := by omega
    have hy1 : y < 1073741824 := by omega
    have hm := mul_rep hy (by omega : r.length ≤ 10000)
    by_cases c1 : r.length % y = 0
    · by_cases c2 : r = rep r y
      · simp [nth, inn, c_shortest_told, hy0, hy1, mod_len, qq, c1, hm, ← c2]
      · simp [nth, inn, c_shortest_told, hy0, hy1, mod_len, qq, c1, c2, hm]
    · simp [nth, inn, c_shortest_told, hy0, hy1, mod_len, qq, c1]
  have e1 : ∃ f1 f2, evS g (runI g k) (nth c_shortest_told 1) ⟨[some (false, lB a), some (true, lB (base r)), some (false, .int z)], μ⟩ = .nx ⟨[some (f1, lB (short a r).1), some (f2, lB (short a r).2), some (false, .int z)], μ⟩ := by
    rw [show nth c_shortest_told 1 = .whl (cnd (nth c_shortest_told 1)) (inn (nth c_shortest_told 1)) from rfl, evS_whl]
    refine while_trim (fun f1 f2 a r => ⟨[some (f1, lB a), some (f2, lB r), some (false, .int z)], μ⟩) ?_ ?_ a.length a (base r) false true 1000000 (by omega) (by omega) hb.2 (by omega)
    · intro f1 f2 a r hr hl
      obtain ⟨y, hy⟩ : ∃ y, r.getLast? = some y := ⟨_, List.getLast?_eq_some_getLast hr⟩
      have gy := getI_last r hy
      by_cases ha : a = []
      · subst ha
        cases f1 <;> cases f2 <;> simp [nth, cnd, c_shortest_told]
      · obtain ⟨x, hx⟩ : ∃ x, a.getLast? = some x := ⟨_, List.getLast?_eq_some_getLast ha⟩
        have gx := getI_last a hx
        cases f1 <;> cases f2 <;> simp [nth, cnd, c_shortest_told, ha, hx, hy, gx, gy]
        all_goals cases x <;> cases y <;> rfl
    · intro f1 f2 a r hr hl
      refine ⟨true, true, ?_⟩
      have hd := sSel_lst r hr
      have ha := add_lB (r.drop (r.length - 1)) r.dropLast (by simp; omega)
      cases f1 <;> cases f2 <;> simp [nth, inn, c_shortest_told, hd, ha, rot]
  obtain ⟨f1, f2, e1⟩ := e1
  rw [show (⟨2, 3, c_shortest_told⟩ : Fn).body = .cons (nth c_shortest_told 0) (.cons (nth c_shortest_told 1) (.cons (nth c_shortest_told 2) .nil)) from rfl]
  simp [e0, e1]
  cases f1 <;> cases f2 <;> simp [nth, c_shortest_told, sizeL]
@[simp] theorem c_st (k : Nat) (hk : 1 ≤ k) (a r : List Bool) (h : r ≠ []) (hl : a.length + r.length ≤ 10000) (s : S) : called (runI g k (.inl 4) [lB a, lB r] (enter s)) s = .ok (false, .tup [tB (short a r).1, tB (short a r).2]) s := by
  obtain ⟨j, rfl⟩ : ∃ j, k = j + 1 := ⟨k - 1, by omega⟩
  exact called_same (by rw [shortest_told_ok j a r h hl, shut_enter])
theorem filter_head {α : Type} (p q : α → Bool) (l : List α) {z : α} (h : l.find? (fun x => p x && q x) = some z) : ∃ t, (l.filter p).filter q = z :: t := by
  rw [List.filter_filter]
  have e : (fun a => q a && p a) = (fun a => p a && q a) := by funext a; exact Bool.and_comm _ _
  rw [e]
  induction l with
  | nil => simp at h
  | cons x r ih =>
    rw [List.find?_cons] at h
    rw [List.filter_cons]
    cases hx : (p x && q x) with
    | true => rw [hx] at h; simp at h; subst h; exact ⟨_, rfl⟩
    | false => rw [hx] at h; exact ih h
theorem law_shortest_ok (k : Nat) (a r : List Bool) (h : r ≠ []) (hl : a.length + r.length ≤ 10000) (μ : List Bx) : runI g (k + 1) (.inl 16) [lB a, lB r] μ = .ok false (.tup [tB (short a r).1, tB (short a r).2]) (shut μ) := by
  rw [run_succ _ _ 16 _ _ rfl, runF_eq _ _ _ _ _ rfl]
  obtain ⟨z, hz, hz1, hz2⟩ := find_ex h
  have hb := base_len h
  let sz : List Nat := (ones r).filter fun y => decide (r.length % y = 0)
  have e0 : evS g (runI g k) (nth c__law_shortest 0) ⟨[some (false, lB a), some (false, lB r), none, none], μ⟩ = .nx ⟨[some (false, lB a), some (false, lB r), some (true, .lst (sz.map fun (i : Nat) => .int i)), none], μ⟩ := by
    have e : evE g (runI g k) (.lc [3] .rng2 (.cons (.con (.int 1)) (.cons (.bin .add (.bcall .len (.cons (.var false 1) .nil)) (.con (.int 1))) .nil)) 3 (.tru (.cmp .eq (.bin .mod (.bcall .len (.cons (.var false 1) .nil)) (.var false 3)) (.con (.int 0)))) (.var false 3)) ⟨[some (false, lB a), some (false, lB r), none, none], μ⟩ = .ok (true, .lst (sz.map fun (i : Nat) => .int i)) ⟨[some (false, lB a), some (false, lB r), none, none], μ⟩ := by
      rw [lc_filt (σ := [some (false, lB a), some (false, lB r), none, none]) [.int 1, .int ((r.length : Int) + 1)] ((ones r).map fun (i : Nat) => D.int i) (fun d => match d with | .int i => decide (r.length % i.toNat = 0) | _ => false) id false (by simp) (items_ones r (by omega)) (by simp [ones, sizeL]; omega) (by decide)]
      · simp [back, List.filter_map, Function.comp_def, sz]
      · intro x hx
        obtain ⟨y, hy, rfl⟩ := List.mem_map.1 hx
        have hy := ones_rng hy
        have hy0 : y ≠ 0 := by omega
        simp [wipe, hy0, mod_len]
      · intro x hx _
        simp [wipe]
    simp [nth, c__law_shortest, e]
  have e1 : evS g (runI g k) (nth c__law_shortest 1) ⟨[some (false, lB a), some (false, lB r), some (true, .lst (sz.map fun (i : Nat) => .int i)), none], μ⟩ = .nx ⟨[some (false, lB a), some (false, lB (base r)), some (false, .lst (sz.map fun (i : Nat) => .int i)), none], μ⟩ := by
    obtain ⟨t, ht⟩ : ∃ t, sz.filter (fun y => decide (r = rep r y)) = z :: t := filter_head (fun y => decide (r.length % y = 0)) _ _ hz
    have hs : ∀ y ∈ sz, 1 ≤ y ∧ y ≤ r.length := fun y hy => ones_rng (List.mem_filter.1 hy).1
    have hsl : sz.length ≤ r.length := Nat.le_trans (List.length_filter_le _ _) (by simp [ones])
    have e : evE g (runI g k) (.lc [3] .seq (.cons (.var false 2) .nil) 3 (.tru (.cmp .eq (.bin .mul (.slc (.var false 1) .skip (.var false 3)) (.bin .div (.bcall .len (.cons (.var false 1) .nil)) (.var false 3))) (.var false 1))) (.slc (.var false 1) .skip (.var false 3))) ⟨[some (false, lB a), some (false, lB r), some (true, .lst (sz.map fun (i : Nat) => .int i)), none], μ⟩ = .ok (true, .lst ((z :: t).map fun y => lB (r.take y))) ⟨[some (false, lB a), some (false, lB r), some (false, .lst (sz.map fun (i : Nat) => .int i)), none], μ⟩ := by
      rw [lc_filt (σ := [some (false, lB a), some (false, lB r), some (false, .lst (sz.map fun (i : Nat) => .int i)), none]) [.lst (sz.map fun (i : Nat) => .int i)] (sz.map fun (i : Nat) => D.int i) (fun d => match d with | .int i => decide (r = rep r i.toNat) | _ => false) (fun d => match d with | .int i => lB (r.take i.toNat) | _ => .non) true (by simp) rfl (by simp [sizeL]; omega) (by decide)]
      · rw [← ht]
        simp [back, List.filter_map, Function.comp_def]
      · intro x hx
        obtain ⟨y, hy, rfl⟩ := List.mem_map.1 hx
        have hy := hs y hy
        have hy0 : y ≠ 0 := by omega
        have hy1 : y < 1073741824 := by omega
        have hm := mul_rep hy (by omega : r.length ≤ 10000)
        simp [wipe, hy0, hy1, hm, eq_comm]
      · intro x hx _
        obtain ⟨y, hy, rfl⟩ := List.mem_map.1 hx
        simp [wipe]
    simp [nth, c__law_shortest, e, getI, ixN, base, hz]
  have e2 : ∃ f1 f2, evS g (runI g k) (nth c__law_shortest 2) ⟨[some (false, lB a), some (false, lB (base r)), some (false, .lst (sz.map fun (i : Nat) => .int i)), none], μ⟩ = .nx ⟨[some (f1, lB (short a r).1), some (f2, lB (short a r).2), some (false, .lst (sz.map fun (i : Nat) => .int i)), none], μ⟩ := by
    rw [show nth c__law_shortest 2 = .whl (cnd (nth c__law_shortest 2)) (inn (nth c__law_shortest 2)) from rfl, evS_whl]
    refine while_trim (fun f1 f2 a r => ⟨[some (f1, lB a), some (f2, lB r), some (false, .lst (sz.map fun (i : Nat) => .int i)), none], μ⟩) ?_ ?_ a.length a (base r) false false 1000000 (by omega) (by omega) hb.2 (by omega)
    · intro f1 f2 a r hr hl
      obtain ⟨y, hy⟩ : ∃ y, r.getLast? = some y := ⟨_, List.getLast?_eq_some_getLast hr⟩
      have gy := getI_last r hy
      by_cases ha : a = []
      · subst ha
        cases f1 <;> cases f2 <;> simp [nth, cnd, c__law_shortest]
      · obtain ⟨x, hx⟩ : ∃ x, a.getLast? = some x := ⟨_, List.getLast?_eq_some_getLast ha⟩
        have gx := getI_last a hx
        cases f1 <;> cases f2 <;> simp [nth, cnd, c__law_shortest, ha, hx, hy, gx, gy]
        all_goals cases x <;> cases y <;> rfl
    · intro f1 f2 a r hr hl
      refine ⟨false, false, ?_⟩
      have hd := sSel_lst r hr
      have ha := add_lB (r.drop (r.length - 1)) r.dropLast (by simp; omega)
      cases f1 <;> cases f2 <;> simp [nth, inn, c__law_shortest, hd, ha, rot, sizeL, setSlots]
  obtain ⟨f1, f2, e2⟩ := e2
  rw [show (⟨2, 4, c__law_shortest⟩ : Fn).body = .cons (nth c__law_shortest 0) (.cons (nth c__law_shortest 1) (.cons (nth c__law_shortest 2) (.cons (nth c__law_shortest 3) .nil))) from rfl]
  simp [e0, e1, e2]
  cases f1 <;> cases f2 <;> simp [nth, c__law_shortest, sizeL]
@[simp] theorem c_ls (k : Nat) (hk : 1 ≤ k) (a r : List Bool) (h : r ≠ []) (hl : a.length + r.length ≤ 10000) (s : S) : called (runI g k (.inl 16) [lB a, lB r] (enter s)) s = .ok (false, .tup [tB (short a r).1, tB (short a r).2]) s := by
  obtain ⟨j, rfl⟩ : ∃ j, k = j + 1 := ⟨k - 1, by omega⟩
  exact called_same (by rw [law_shortest_ok j a r h hl, shut_enter])
end K72
end
section
set_option linter.all false
set_option maxRecDepth 100000
namespace K72
open Iv Iw
open PySem (Str)
/-! from crowd to crowd until one comes again -/
structure Fst (T : List (List Int)) (N j : Nat) : Prop where
  lt : j < N
  eq : orb T N = orb T j
  ne : ∀ a b, a < b → b < N → orb T a ≠ orb T b
def kOf (cr : List Int) : List Key := cr.map Sum.inl
def ent (T : List (List Int)) (m : Nat) : List (List Key × D) := (List.range m).map fun i => (kOf (orb T i), .int i)
def flags (T : List (List Int)) (B : List Bool) (m : Nat) : List Bool := (List.range m).map fun i => (orb T i).any (gd B)
theorem kOf_inj {a b : List Int} (h : kOf a = kOf b) : a = b := by
  induction a generalizing b with
  | nil => cases b with
    | nil => rfl
    | cons y t => simp [kOf] at h
  | cons x r ih => cases b with
    | nil => simp [kOf] at h
    | cons y t =>
      simp only [kOf, List.map_cons, List.cons.injEq, Sum.inl.injEq] at h
      rw [h.1, ih h.2]
@[simp] theorem keysOf_ints (cr : List Int) : keysOf (cr.map .int) = some (kOf cr) := by
  induction cr with
  | nil => rfl
  | cons x r ih => simp [keysOf, keyOf, ih, kOf]
theorem has_dT (kvs : List (List Key × D)) (cr : List Int) : hasI (.dT kvs) (tR cr) = some (valK kvs (kOf cr)).isSome := by simp [hasI, tR]
theorem get_dT (kvs : List (List Key × D)) (cr : List Int) : getI (.dT kvs) (tR cr) = valK kvs (kOf cr) := by simp [getI, tR]
theorem put_dT (kvs : List (List Key × D)) (cr : List Int) (v : D) (h : kvs.length < sizeL) : putI (.dT kvs) (tR cr) v = some (.dT (putK kvs (kOf cr) v)) := by simp [putI, tR, h]
theorem valK_none {κ : Type} [DecidableEq κ] {kvs : List (κ × D)} {k : κ} (h : ∀ x ∈ kvs, x.1 ≠ k) : valK kvs k = none := by
  simp only [valK, Option.map_eq_none_iff, List.find?_eq_none, decide_eq_true_eq]
  exact h
theorem valK_mem {κ : Type} [DecidableEq κ] {kvs : List (κ × D)} {k : κ} {v : D} (hm : (k, v) ∈ kvs) (h : ∀ x ∈ kvs, x.1 = k → x.2 = v) : valK kvs k = some v := by
  unfold valK
  cases hf : kvs.find? fun kv => decide (kv.1 = k) with
  | none => have := List.find?_eq_none.1 hf _ hm; simp at this
  | some x => simp [h x (List.mem_of_find?_eq_some hf) (by simpa using List.find?_some hf)]
theorem putK_new {κ : Type} [DecidableEq κ] {kvs : List (κ × D)} {k : κ} (v : D) (h : ∀ x ∈ kvs, x.1 ≠ k) : putK kvs k v = kvs ++ [(k, v)] := by
  have : (kvs.any fun kv => decide (kv.1 = k)) = false := by
    rw [List.any_eq_false]
    intro x hx; simpa using h x hx
  simp [putK, this]
section
variable {T : List (List Int)}
theorem ent_ne {m : Nat} (h : ∀ i, i < m → orb T i ≠ orb T m) : ∀ x ∈ ent T m, x.1 ≠ kOf (orb T m) := by
  intro x hx
  obtain ⟨i, hi, rfl⟩ := List.mem_map.1 hx
  exact fun e => h i (List.mem_range.1 hi) (kOf_inj e)
theorem ent_succ {m : Nat} (h : ∀ i, i < m → orb T i ≠ orb T m) : putK (ent T m) (kOf (orb T m)) (.int m) = ent T (m + 1) := by
  rw [putK_new _ (ent_ne h)]
  simp [ent, List.range_succ]
theorem ent_none {m : Nat} (h : ∀ i, i < m → orb T i ≠ orb T m) : valK (ent T m) (kOf (orb T m)) = none := valK_none (ent_ne h)
theorem ent_some {N j : Nat} (h : Fst T N j) : valK (ent T N) (kOf (orb T N)) = some (.int j) := by
  refine valK_mem (List.mem_map.2 ⟨j, List.mem_range.2 h.lt, by rw [h.eq]⟩) ?_
  intro x hx e
  obtain ⟨i, hi, rfl⟩ := List.mem_map.1 hx
  have hi := List.mem_range.1 hi
  have e := kOf_inj e
  rw [h.eq] at e
  rcases Nat.lt_trichotomy i j with h1 | h1 | h1
  · exact absurd e (h.ne i j h1 h.lt)
  · rw [h1]
  · exact absurd e.symm (h.ne j i h1 hi)
@[simp] theorem ent_len (m : Nat) : (ent T m).length = m := by simp [ent]
@[simp] theorem flags_len (B : List Bool) (m : Nat) : (flags T B m).length = m := by simp [flags]
theorem flags_succ (B : List Bool) (m : Nat) : flags T B (m + 1) = flags T B m ++ [(orb T m).any (gd B)] := by simp [flags, List.range_succ]
end
@[simp] theorem bmOk_lB (l : List Bool) : bmOk .append (some (lB l)) = true := rfl
theorem app_lB (l : List Bool) (b : Bool) (h : l.length < sizeL) : bmeth .append (lB l) [.bl b] = some (.non, some (lB (l ++ [b]))) := by simp [bmeth, lB, h]
@[simp] theorem hOf_dT' (o : Bool) (k : List (List Key × D)) : hOf (o, .dT k) = .val (.dT k) := rfl
@[simp] theorem any_gd (B : List Bool) (l : List Int) : (l.map (gd B)).any id = l.any (gd B) := by simp [List.any_map, Function.comp_def]
def shrt (T : List (List Int)) (B : List Bool) (N j : Nat) : List Bool × List Bool := short ((flags T B N).take j) ((flags T B N).drop j)
def dP (p : List Bool × List Bool) : D := .tup [tB p.1, tB p.2]
section
variable {c : Int} {T : List (List Int)} {B : List Bool} (h : Pok c T B)
include h
theorem good_all (k : Nat) {m n : Nat} {μ : List Bx} (hm : μ[n]? = some (mach c T B)) (x2 x3 : Option (Bool × D)) : evE g (runI g k) (.lc [4] .seq (.cons (.var false 1) .nil) 4 .yes (.sub (.fld (.var false 0) "good") (.var false 4))) ⟨[some (false, .box n), some (false, tR (orb T m)), x2, x3, none], μ⟩ = .ok (true, .lst ((orb T m).map fun r => .bl (gd B r))) ⟨[some (false, .box n), some (false, tR (orb T m)), x2, x3, none], μ⟩ := by
  have hc := orb_ok h m
  have hb := h.b
  have h60 := h.t60
  rw [lc_all (σ := [some (false, .box n), some (false, tR (orb T m)), x2, x3, none]) [tR (orb T m)] ((orb T m).map .int) (fun d => match d with | .int r => .bl (gd B r) | _ => .non) false rfl rfl (by have := hc.len; simp [sizeL]; omega) (by decide)]
  · simp [back, Function.comp_def]
  · intro x hx
    obtain ⟨r, hr, rfl⟩ := List.mem_map.1 hx
    have hr := hc.rng r hr
    have hm' := enter_at (s := ⟨[some (false, .box n), some (false, tR (orb T m)), x2, x3, none], μ⟩) hm
    simp [wipe, hm', mach, get_B (show 0 ≤ r ∧ r < B.length by omega)]
theorem sizes_walk (k : Nat) {n : Nat} {μ : List Bx} (hm : μ[n]? = some (mach c T B)) (m : Nat) (hlt : m < 5000) (hne : ∀ i, i < m → orb T i ≠ orb T m) : evSs g (runI g (k + 1)) (inn (nth c_sizes 1)) ⟨[some (false, .box n), some (false, tR (orb T m)), some (true, .dT (ent T m)), some (true, lB (flags T B m)), none], μ⟩ = .nx ⟨[some (false, .box n), some (false, tR (orb T (m + 1))), some (true, .dT (ent T (m + 1))), some (true, lB (flags T B (m + 1))), none], μ⟩ := by
  have hg := good_all h (k + 1) (m := m) hm (some (true, .dT (ent T (m + 1)))) (some (true, lB (flags T B m)))
  have e1 : ((m : Int) == 5000) = false := by simp; omega
  have hp := put_dT (ent T m) (orb T m) (.int m) (by simp [sizeL]; omega)
  rw [ent_succ hne] at hp
  have ha := app_lB (flags T B m) ((orb T m).any (gd B)) (by simp [sizeL]; omega)
  rw [← flags_succ] at ha
  simp [nth, inn, c_sizes, e1, hp, hg, ha]
  rw [c_ro (k + 1) (by omega) h (orb_ok h m) hm]
  simp [orb]
theorem sizes_cond (k : Nat) {n : Nat} (μ : List Bx) (m : Nat) (b : Bool) (hb : (valK (ent T m) (kOf (orb T m))).isSome = b) : evT g (runI g k) (cnd (nth c_sizes 1)) ⟨[some (false, .box n), some (false, tR (orb T m)), some (true, .dT (ent T m)), some (true, lB (flags T B m)), none], μ⟩ = .ok (!b) ⟨[some (false, .box n), some (false, tR (orb T m)), some (true, .dT (ent T m)), some (true, lB (flags T B m)), none], μ⟩ := by
  simp [nth, cnd, c_sizes, has_dT, hb]
theorem sizes_ok (k : Nat) {n : Nat} {μ : List Bx} (hm : μ[n]? = some (mach c T B)) {N j : Nat} (hN : Fst T N j) (hl : N ≤ 5000) : runI g (k + 2) (.inl 6) [.box n] μ = .ok false (dP (shrt T B N j)) (shut μ) := by
  rw [run_succ _ _ 6 _ _ rfl, runF_eq _ _ _ _ _ rfl]
  have hne : ∀ m, m < N → ∀ i, i < m → orb T i ≠ orb T m := fun m hm i hi => hN.ne i m hi hm
  have e0 : evS g (runI g (k + 1)) (nth c_sizes 0) ⟨[some (false, .box n), none, none, none, none], μ⟩ = .nx ⟨[some (false, .box n), some (false, tR (orb T 0)), some (true, .dT (ent T 0)), some (true, lB (flags T B 0)), none], μ⟩ := by
    simp [nth, c_sizes, sizeL, setPar, orb, tR, ent, flags, lB]
  have e1 := while_end (c := evT g (runI g (k + 1)) (cnd (nth c_sizes 1))) (f := evSs g (runI g (k + 1)) (inn (nth c_sizes 1))) (fun m => ⟨[some (false, .box n), some (false, tR (orb T m)), some (true, .dT (ent T m)), some (true, lB (flags T B m)), none], μ⟩) N
    (fun m hm' => by simpa using sizes_cond h (k + 1) μ m false (by rw [ent_none (hne m hm')]; rfl))
    (fun m hm' => sizes_walk h k hm m (by omega) (hne m hm'))
    (by simpa using sizes_cond h (k + 1) μ N true (by rw [ent_some hN]; rfl)) 1000000 0 (by omega) (by omega)
  rw [show (⟨1, 5, c_sizes⟩ : Fn).body = .cons (nth c_sizes 0) (.cons (.whl (cnd (nth c_sizes 1)) (inn (nth c_sizes 1))) (.cons (nth c_sizes 2) .nil)) from rfl]
  simp [e0, evS_whl, e1]
  have hj := hN.lt
  have hd : (flags T B N).drop j ≠ [] := by
    intro e
    have := congrArg List.length e
    simp at this; omega
  have hc := c_st (k + 1) (by omega) ((flags T B N).take j) ((flags T B N).drop j) hd (by simp; omega)
  have e3 : evE g (runI g (k + 1)) (.slc (.var false 3) .skip (.sub (.var false 2) (.var false 1))) ⟨[some (false, .box n), some (false, tR (orb T N)), some (true, .dT (ent T N)), some (true, lB (flags T B N)), none], μ⟩ = .ok (true, lB ((flags T B N).take j)) ⟨[some (false, .box n), some (false, tR (orb T N)), some (true, .dT (ent T N)), some (true, lB (flags T B N)), none], μ⟩ := by
    simp [get_dT, ent_some hN]
  have e4 : evE g (runI g (k + 1)) (.slc (.var false 3) (.sub (.var false 2) (.var false 1)) .skip) ⟨[some (false, .box n), some (false, tR (orb T N)), some (true, .dT (ent T N)), some (true, lB (flags T B N)), none], μ⟩ = .ok (true, lB ((flags T B N).drop j)) ⟨[some (false, .box n), some (false, tR (orb T N)), some (true, .dT (ent T N)), some (true, lB (flags T B N)), none], μ⟩ := by
    simp [get_dT, ent_some hN, sSel_lo (flags T B N) j (by simp; omega)]
  rw [show nth c_sizes 2 = .ret (.call 4 (.cons (.slc (.var false 3) .skip (.sub (.var false 2) (.var false 1))) (.cons (.slc (.var false 3) (.sub (.var false 2) (.var false 1)) .skip) .nil))) from rfl, evS_ret, evE_call, evEs_cons, e3, bind_ok, evEs_cons, e4, bind_ok, evEs_nil, bind_ok, bind_ok, bind_ok, hc, out_ok, then_rt, endS_rt]
  rfl
theorem sizes_many (k : Nat) {n : Nat} {μ : List Bx} (hm : μ[n]? = some (mach c T B)) (hne : ∀ a b, a < b → b ≤ 5000 → orb T a ≠ orb T b) : runI g (k + 2) (.inl 6) [.box n] μ = .ex 3 (shut μ) := by
  rw [run_succ _ _ 6 _ _ rfl, runF_eq _ _ _ _ _ rfl]
  have e0 : evS g (runI g (k + 1)) (nth c_sizes 0) ⟨[some (false, .box n), none, none, none, none], μ⟩ = .nx ⟨[some (false, .box n), some (false, tR (orb T 0)), some (true, .dT (ent T 0)), some (true, lB (flags T B 0)), none], μ⟩ := by
    simp [nth, c_sizes, sizeL, setPar, orb, tR, ent, flags, lB]
  have e1 := while_exc (c := evT g (runI g (k + 1)) (cnd (nth c_sizes 1))) (f := evSs g (runI g (k + 1)) (inn (nth c_sizes 1))) (e := 3) (s' := ⟨[some (false, .box n), some (false, tR (orb T 5000)), some (true, .dT (ent T 5000)), some (true, lB (flags T B 5000)), none], μ⟩) (fun m => ⟨[some (false, .box n), some (false, tR (orb T m)), some (true, .dT (ent T m)), some (true, lB (flags T B m)), none], μ⟩) 5000
    (fun m hm' => by simpa using sizes_cond h (k + 1) μ m false (by rw [ent_none (fun i hi => hne i m hi (by omega))]; rfl))
    (fun m hm' => sizes_walk h k hm m (by omega) (fun i hi => hne i m hi (by omega)))
    (by simp [nth, inn, c_sizes]) 1000000 0 (by omega) (by omega)
  rw [show (⟨1, 5, c_sizes⟩ : Fn).body = .cons (nth c_sizes 0) (.cons (.whl (cnd (nth c_sizes 1)) (inn (nth c_sizes 1))) (.cons (nth c_sizes 2) .nil)) from rfl]
  simp [e0, evS_whl, e1]
end
end K72
end
section
set_option linter.all false
set_option maxRecDepth 100000
namespace K72
open Iv Iw
open PySem (Str)
def tell (p : List Bool × List Bool) (z : Int) : Bool := if z < p.1.length then gd p.1 z else gd p.2 ((z - p.1.length).fmod p.2.length)
theorem is_between_non (k : Nat) (lo hi : Int) (μ : List Bx) : runI g (k + 1) (.inl 0) [.non, .int lo, .int hi] μ = .ok false (.bl false) (shut μ) := by
  rw [run_succ _ _ 0 _ _ rfl, runF_eq _ _ _ _ _ rfl]
  simp [c_is_between, tyAsked, tyKnown]
theorem is_between_bl (k : Nat) (b : Bool) (lo hi : Int) (μ : List Bx) : runI g (k + 1) (.inl 0) [.bl b, .int lo, .int hi] μ = .ok false (.bl false) (shut μ) := by
  rw [run_succ _ _ 0 _ _ rfl, runF_eq _ _ _ _ _ rfl]
  simp [c_is_between, tyAsked, tyKnown]
theorem is_between_str (k : Nat) (b : Str) (lo hi : Int) (μ : List Bx) : runI g (k + 1) (.inl 0) [.str b, .int lo, .int hi] μ = .ok false (.bl false) (shut μ) := by
  rw [run_succ _ _ 0 _ _ rfl, runF_eq _ _ _ _ _ rfl]
  simp [c_is_between, tyAsked, tyKnown]
/-- what is no size -/
def badSz : D → Prop
  | .non => True
  | .bl _ => True
  | .str _ => True
  | .int z => z < 0 ∨ 10 ^ 60 < z
  | _ => False
theorem c_bad (k : Nat) (hk : 1 ≤ k) (d : D) (hd : badSz d) (s : S) : called (runI g k (.inl 0) [d, .int 0, .int (10 ^ 60)] (enter s)) s = .ok (false, .bl false) s := by
  obtain ⟨j, rfl⟩ : ∃ j, k = j + 1 := ⟨k - 1, by omega⟩
  refine called_same ?_
  rw [← shut_enter]
  cases d with
  | non => exact is_between_non j _ _ _
  | bl b => exact is_between_bl j b _ _ _
  | str b => exact is_between_str j b _ _ _
  | int z =>
    rw [is_between_int]
    have : (decide (0 ≤ z) && decide (z ≤ 10 ^ 60)) = false := by
      have hd : z < 0 ∨ 10 ^ 60 < z := hd
      rw [Bool.and_eq_false_iff]
      simp only [decide_eq_false_iff_not]
      omega
    rw [this]
  | _ => exact hd.elim
theorem has_bad (k : Nat) (n : Nat) (d : D) (hd : badSz d) (μ : List Bx) : runI g (k + 2) (.inl 7) [.box n, d] μ = .ex 2 (shut μ) := by
  rw [run_succ _ _ 7 _ _ rfl, runF_eq _ _ _ _ _ rfl]
  have hc := c_bad (k + 1) (by omega) d hd
  simp [c_has_lines] at hc ⊢
  simp [hc]
theorem has_ok {c : Int} {T : List (List Int)} {B : List Bool} (h : Pok c T B) (k : Nat) {n : Nat} {μ : List Bx} (hm : μ[n]? = some (mach c T B)) {N j : Nat} (hN : Fst T N j) (hl : N ≤ 5000) (z : Int) (h0 : 0 ≤ z) (h1 : z ≤ 10 ^ 60) : runI g (k + 3) (.inl 7) [.box n, .int z] μ = .ok false (.bl (tell (shrt T B N j) z)) (shut μ) := by
  rw [run_succ _ _ 7 _ _ rfl, runF_eq _ _ _ _ _ rfl]
  have hd : (flags T B N).drop j ≠ [] := by
    have := hN.lt
    intro e
    have := congrArg List.length e
    simp at this; omega
  have hs := short_len ((flags T B N).take j) ((flags T B N).drop j) hd
  rw [show short ((flags T B N).take j) ((flags T B N).drop j) = shrt T B N j from rfl] at hs
  have hp := List.length_pos_iff.2 hs.2.2
  have e : runI g (k + 2) (.inl 6) [.box n] (enter ⟨[some (false, .box n), some (false, .int z), none, none], μ⟩) = .ok false (dP (shrt T B N j)) (shut μ) := by
    rw [sizes_ok h k (enter_at hm) hN hl, shut_enter]
  have e1 : called (runI g (k + 2) (.inl 6) [.box n] (enter ⟨[some (false, .box n), some (false, .int z), none, none], μ⟩)) ⟨[some (false, .box n), some (false, .int z), none, none], μ⟩ = .ok (false, dP (shrt T B N j)) ⟨[some (false, .box n), some (false, .int z), none, none], μ⟩ := called_same e
  generalize shrt T B N j = p at *
  have h1' : z ≤ 1000000000000000000000000000000000000000000000000000000000000 := by simpa using h1
  have hp0 : (p.2.length : Int) ≠ 0 := by omega
  rw [show (⟨2, 4, c_has_lines⟩ : Fn).body = .cons (nth c_has_lines 0) (.cons (nth c_has_lines 1) (.cons (nth c_has_lines 2) .nil)) from rfl]
  have e2 : evS g (runI g (k + 2)) (nth c_has_lines 0) ⟨[some (false, .box n), some (false, .int z), none, none], μ⟩ = .nx ⟨[some (false, .box n), some (false, .int z), none, none], μ⟩ := by
    simp [nth, c_has_lines, h0, h1']
  have e3 : evS g (runI g (k + 2)) (nth c_has_lines 1) ⟨[some (false, .box n), some (false, .int z), none, none], μ⟩ = .nx ⟨[some (false, .box n), some (false, .int z), some (false, tB p.1), some (false, tB p.2)], μ⟩ := by
    simp [nth, c_has_lines, e1, dP, setSlots]
  have e4 : evS g (runI g (k + 2)) (nth c_has_lines 2) ⟨[some (false, .box n), some (false, .int z), some (false, tB p.1), some (false, tB p.2)], μ⟩ = .rt false (.bl (tell p z)) ⟨[some (false, .box n), some (false, .int z), some (false, tB p.1), some (false, tB p.2)], μ⟩ := by
    by_cases hz : z < p.1.length
    · have := get_B (B := p.1) (r := z) ⟨h0, hz⟩
      simp [nth, c_has_lines, hz, this, tell]
    · have := get_B (B := p.2) (r := (z - p.1.length).fmod p.2.length) ⟨Int.fmod_nonneg_of_pos _ (by omega), Int.fmod_lt_of_pos _ (by omega)⟩
      have hm := mod_i (z - p.1.length) p.2.length hp0
      simp [nth, c_has_lines, tell, hz, this, hm]
  simp [e2, e3, e4]
end K72
end
section
set_option linter.all false
set_option maxRecDepth 100000
namespace K72
open Iv Iw
open PySem (Str)
def dPl (c : Int) (T : List (List Int)) (B : List Bool) : D := .tup [.int c, tT T, tB B]
@[simp] theorem hOf_dPl (o : Bool) (c : Int) (T : List (List Int)) (B : List Bool) : hOf (o, dPl c T B) = .val (dPl c T B) := rfl
@[simp] theorem get_dPl0 (c : Int) (T : List (List Int)) (B : List Bool) : getI (dPl c T B) (.int 0) = some (.int c) := rfl
@[simp] theorem get_dPl1 (c : Int) (T : List (List Int)) (B : List Bool) : getI (dPl c T B) (.int 1) = some (tT T) := rfl
@[simp] theorem get_dPl2 (c : Int) (T : List (List Int)) (B : List Bool) : getI (dPl c T B) (.int 2) = some (tB B) := rfl
@[simp] theorem eqD_l0 (l : List Int) : eqD (.lst (l.map .int)) (.lst []) = some (decide (l = [])) := by
  have h : okD 60 (.lst (l.map .int)) = true := by simp [okD]
  have h0 : okD 60 (.lst []) = true := rfl
  simp only [eqD, h, h0, Bool.and_self, if_true]
  cases l <;> rfl
theorem lists_rows (T : List (List Int)) (l : List Int) : lists (l.map fun r => .lst ((row T r).map .int)) = some ((l.flatMap (row T)).map .int) := by
  induction l with
  | nil => rfl
  | cons x r ih => simp [lists, ih]
section
variable {c : Int} {T : List (List Int)} {B : List Bool} (h : Pok c T B)
include h
theorem told_walk (k : Nat) {μ : List Bx} (m : Nat) (hlt : m < 5000) (hne : ∀ i, i < m → orb T i ≠ orb T m) : evSs g (runI g (k + 1)) (inn (nth c__law_told_sizes 1)) ⟨[some (false, dPl c T B), some (false, .int 4999), some (false, tR (orb T m)), some (true, .dT (ent T m)), some (true, lB (flags T B m)), none], μ⟩ = .nx ⟨[some (false, dPl c T B), some (false, .int 4999), some (false, tR (orb T (m + 1))), some (true, .dT (ent T (m + 1))), some (true, lB (flags T B (m + 1))), none], μ⟩ := by
  have hc := orb_ok h m
  have hb := h.b
  have h60 := h.t60
  have hcl := hc.len
  have e1 : ¬ ((4999 : Int) < m) := by omega
  have hp := put_dT (ent T m) (orb T m) (.int m) (by simp [sizeL]; omega)
  rw [ent_succ hne] at hp
  have ha := app_lB (flags T B m) ((orb T m).any (gd B)) (by simp [sizeL]; omega)
  rw [← flags_succ] at ha
  have hg : ∀ x3 x4, evE g (runI g (k + 1)) (.lc [5] .seq (.cons (.var false 2) .nil) 5 (.tru (.sub (.sub (.var false 0) (.con (.int 2))) (.var false 5))) (.var false 5)) ⟨[some (false, dPl c T B), some (false, .int 4999), some (false, tR (orb T m)), x3, x4, none], μ⟩ = .ok (true, .lst (((orb T m).filter (gd B)).map .int)) ⟨[some (false, dPl c T B), some (false, .int 4999), some (false, tR (orb T m)), x3, x4, none], μ⟩ := by
    intro x3 x4
    rw [lc_filt (σ := [some (false, dPl c T B), some (false, .int 4999), some (false, tR (orb T m)), x3, x4, none]) [tR (orb T m)] ((orb T m).map .int) (fun d => match d with | .int r => gd B r | _ => false) id false rfl rfl (by simp [sizeL]; omega) (by decide)]
    · simp [back, List.filter_map, Function.comp_def]
    · intro x hx
      obtain ⟨r, hr, rfl⟩ := List.mem_map.1 hx
      have hr := hc.rng r hr
      simp [wipe, get_B (show 0 ≤ r ∧ r < B.length by omega)]
    · intro x hx _
      obtain ⟨r, hr, rfl⟩ := List.mem_map.1 hx
      simp [wipe]
  have hs : ∀ x3 x4, evE g (runI g (k + 1)) (.lc [5] .seq (.cons (.var false 2) .nil) 5 .yes (.bcall .list (.cons (.sub (.sub (.var false 0) (.con (.int 1))) (.var false 5)) .nil))) ⟨[some (false, dPl c T B), some (false, .int 4999), some (false, tR (orb T m)), x3, x4, none], μ⟩ = .ok (true, .lst ((orb T m).map fun r => .lst ((row T r).map .int))) ⟨[some (false, dPl c T B), some (false, .int 4999), some (false, tR (orb T m)), x3, x4, none], μ⟩ := by
    intro x3 x4
    rw [lc_all (σ := [some (false, dPl c T B), some (false, .int 4999), some (false, tR (orb T m)), x3, x4, none]) [tR (orb T m)] ((orb T m).map .int) (fun d => match d with | .int r => .lst ((row T r).map .int) | _ => .non) true rfl rfl (by simp [sizeL]; omega) (by decide)]
    · simp [back, Function.comp_def]
    · intro x hx
      obtain ⟨r, hr, rfl⟩ := List.mem_map.1 hx
      have hr := hc.rng r hr
      simp [wipe, get_T hr]
      simp [tR]
  have hf : (orb T m).any (gd B) = !decide (∀ (a : Int), a ∈ orb T m → gd B a = false) := by
    rw [Bool.eq_iff_iff]
    simp
  rw [hf] at ha
  have hx := (orb_ok h (m + 1)).len
  have hfl := flat_small h hc
  have h3 : (sortU ((orb T m).flatMap (row T))).length < 64 := by unfold orb nxt at hx; omega
  have h5 : ((orb T m).map fun r => D.lst ((row T r).map .int)).isEmpty = false := by
    cases ho : orb T m with
    | nil => exact absurd ho hc.ne
    | cons x r => rfl
  have hl := lists_rows T (orb T m)
  have hsum := sumL_l g μ (.lst ((orb T m).map fun r => D.lst ((row T r).map .int))) ((orb T m).map fun r => D.lst ((row T r).map .int))
  rw [hl, Option.bind_some, if_pos ⟨by simp only [List.length_map, sizeL]; omega, h5⟩] at hsum
  have hss := sortedSet_l g μ (.lst (((orb T m).flatMap (row T)).map .int)) (((orb T m).flatMap (row T)).map .int)
  rw [ints_map, Option.bind_some, if_pos ⟨h3, by omega⟩] at hss
  rw [show inn (nth c__law_told_sizes 1) = .cons (nth (inn (nth c__law_told_sizes 1)) 0) (.cons (nth (inn (nth c__law_told_sizes 1)) 1) (.cons (nth (inn (nth c__law_told_sizes 1)) 2) (.cons (nth (inn (nth c__law_told_sizes 1)) 3) .nil))) from rfl]
  have q0 : evS g (runI g (k + 1)) (nth (inn (nth c__law_told_sizes 1)) 0) ⟨[some (false, dPl c T B), some (false, .int 4999), some (false, tR (orb T m)), some (true, .dT (ent T m)), some (true, lB (flags T B m)), none], μ⟩ = .nx ⟨[some (false, dPl c T B), some (false, .int 4999), some (false, tR (orb T m)), some (true, .dT (ent T m)), some (true, lB (flags T B m)), none], μ⟩ := by
    simp [nth, inn, c__law_told_sizes, e1]
  have q1 : evS g (runI g (k + 1)) (nth (inn (nth c__law_told_sizes 1)) 1) ⟨[some (false, dPl c T B), some (false, .int 4999), some (false, tR (orb T m)), some (true, .dT (ent T m)), some (true, lB (flags T B m)), none], μ⟩ = .nx ⟨[some (false, dPl c T B), some (false, .int 4999), some (false, tR (orb T m)), some (true, .dT (ent T (m + 1))), some (true, lB (flags T B m)), none], μ⟩ := by
    simp [nth, inn, c__law_told_sizes, hp]
  have q2 : evS g (runI g (k + 1)) (nth (inn (nth c__law_told_sizes 1)) 2) ⟨[some (false, dPl c T B), some (false, .int 4999), some (false, tR (orb T m)), some (true, .dT (ent T (m + 1))), some (true, lB (flags T B m)), none], μ⟩ = .nx ⟨[some (false, dPl c T B), some (false, .int 4999), some (false, tR (orb T m)), some (true, .dT (ent T (m + 1))), some (true, lB (flags T B (m + 1))), none], μ⟩ := by
    simp only [nth, inn, c__law_told_sizes, evS_exp, evE_bm, asVar_var, hVar_sel, List.getElem?_cons_succ, List.getElem?_cons_zero, hSel_t, bind_ok, cont_slot, cSel_s, bmOk_lB]
    simp only [evEs_cons, evEs_nil, evE_cmp, asVar_lc, hg, bind_ok, hOf_lst, asVar_lst, evE_lst]
    simp [ha, sizeL]
  have q3 : evS g (runI g (k + 1)) (nth (inn (nth c__law_told_sizes 1)) 3) ⟨[some (false, dPl c T B), some (false, .int 4999), some (false, tR (orb T m)), some (true, .dT (ent T (m + 1))), some (true, lB (flags T B (m + 1))), none], μ⟩ = .nx ⟨[some (false, dPl c T B), some (false, .int 4999), some (false, tR (orb T (m + 1))), some (true, .dT (ent T (m + 1))), some (true, lB (flags T B (m + 1))), none], μ⟩ := by
    simp only [nth, inn, c__law_told_sizes, evS_asg, evE_bcall, evHs_cons, evHs_nil, asVar_bcall, asVar_lc, hs, bind_ok, hOf_lst, args_cons, args_nil, arg_val, Option.bind_some, hsum, of_some, hss, tuple_l, hOf_tup]
    rfl
  rw [evSs_cons, q0, then_nx, evSs_cons, q1, then_nx, evSs_cons, q2, then_nx, evSs_cons, q3, then_nx, evSs_nil]
theorem told_cond (k : Nat) (μ : List Bx) (m : Nat) (b : Bool) (hb : (valK (ent T m) (kOf (orb T m))).isSome = b) : evT g (runI g k) (cnd (nth c__law_told_sizes 1)) ⟨[some (false, dPl c T B), some (false, .int 4999), some (false, tR (orb T m)), some (true, .dT (ent T m)), some (true, lB (flags T B m)), none], μ⟩ = .ok (!b) ⟨[some (false, dPl c T B), some (false, .int 4999), some (false, tR (orb T m)), some (true, .dT (ent T m)), some (true, lB (flags T B m)), none], μ⟩ := by
  simp [nth, cnd, c__law_told_sizes, has_dT, hb]
theorem told_ok (k : Nat) (μ : List Bx) {N j : Nat} (hN : Fst T N j) (hl : N ≤ 5000) : runI g (k + 2) (.inl 15) [dPl c T B, .int 4999] μ = .ok false (.tup [lB ((flags T B N).take j), lB ((flags T B N).drop j)]) (shut μ) := by
  rw [run_succ _ _ 15 _ _ rfl, runF_eq _ _ _ _ _ rfl]
  have hne : ∀ m, m < N → ∀ i, i < m → orb T i ≠ orb T m := fun m hm i hi => hN.ne i m hi hm
  have e0 : evS g (runI g (k + 1)) (nth c__law_told_sizes 0) ⟨[some (false, dPl c T B), some (false, .int 4999), none, none, none, none], μ⟩ = .nx ⟨[some (false, dPl c T B), some (false, .int 4999), some (false, tR (orb T 0)), some (true, .dT (ent T 0)), some (true, lB (flags T B 0)), none], μ⟩ := by
    simp [nth, c__law_told_sizes, sizeL, setPar, orb, tR, ent, flags, lB]
  have e1 := while_end (c := evT g (runI g (k + 1)) (cnd (nth c__law_told_sizes 1))) (f := evSs g (runI g (k + 1)) (inn (nth c__law_told_sizes 1))) (fun m => ⟨[some (false, dPl c T B), some (false, .int 4999), some (false, tR (orb T m)), some (true, .dT (ent T m)), some (true, lB (flags T B m)), none], μ⟩) N
    (fun m hm' => by simpa using told_cond h (k + 1) μ m false (by rw [ent_none (hne m hm')]; rfl))
    (fun m hm' => told_walk h k m (by omega) (hne m hm'))
    (by simpa using told_cond h (k + 1) μ N true (by rw [ent_some hN]; rfl)) 1000000 0 (by omega) (by omega)
  rw [show (⟨2, 6, c__law_told_sizes⟩ : Fn).body = .cons (nth c__law_told_sizes 0) (.cons (.whl (cnd (nth c__law_told_sizes 1)) (inn (nth c__law_told_sizes 1))) (.cons (nth c__law_told_sizes 2) .nil)) from rfl]
  simp [e0, evS_whl, e1]
  have hj := hN.lt
  have e3 : evE g (runI g (k + 1)) (.slc (.var false 4) .skip (.sub (.var false 3) (.var false 2))) ⟨[some (false, dPl c T B), some (false, .int 4999), some (false, tR (orb T N)), some (true, .dT (ent T N)), some (true, lB (flags T B N)), none], μ⟩ = .ok (true, lB ((flags T B N).take j)) ⟨[some (false, dPl c T B), some (false, .int 4999), some (false, tR (orb T N)), some (true, .dT (ent T N)), some (true, lB (flags T B N)), none], μ⟩ := by
    simp [get_dT, ent_some hN]
  have e4 : evE g (runI g (k + 1)) (.slc (.var false 4) (.sub (.var false 3) (.var false 2)) .skip) ⟨[some (false, dPl c T B), some (false, .int 4999), some (false, tR (orb T N)), some (true, .dT (ent T N)), some (true, lB (flags T B N)), none], μ⟩ = .ok (true, lB ((flags T B N).drop j)) ⟨[some (false, dPl c T B), some (false, .int 4999), some (false, tR (orb T N)), some (true, .dT (ent T N)), some (true, lB (flags T B N)), none], μ⟩ := by
    simp [get_dT, ent_some hN, sSel_lo (flags T B N) j (by simp; omega)]
  rw [show nth c__law_told_sizes 2 = .ret (.tup (.cons (.slc (.var false 4) .skip (.sub (.var false 3) (.var false 2))) (.cons (.slc (.var false 4) (.sub (.var false 3) (.var false 2)) .skip) .nil))) from rfl, evS_ret, evE_tup, evEs_cons, e3, bind_ok, evEs_cons, e4, bind_ok, evEs_nil, bind_ok, bind_ok, bind_ok]
  simp [sizeL]
end
end K72
end
section
set_option linter.all false
set_option maxRecDepth 100000
namespace K72
open Iv Iw
open PySem (Str)
/-! draws -/
structure Dr where
  l : List Int
  c : List Int
  r : Int
  t : Int
def D4 (a b c d : D) : D := .dK [(.inr "large", a), (.inr "rest", b), (.inr "cells", c), (.inr "turn", d)]
def dr (d : Dr) : List Bx := [.val (.lst (d.l.map .int)), .val (.lst (d.c.map .int)), .val (D4 (.box 0) (.int d.r) (.box 1) (.int d.t))]
structure Dr.ok (d : Dr) : Prop where
  l : ∀ x ∈ d.l, 0 ≤ x
  r : 0 ≤ d.r
  c : d.c.length ≤ 1000
@[simp] theorem D4_l (a b c d : D) : getI (D4 a b c d) (.str "large") = some a := rfl
@[simp] theorem D4_r (a b c d : D) : getI (D4 a b c d) (.str "rest") = some b := rfl
@[simp] theorem D4_c (a b c d : D) : getI (D4 a b c d) (.str "cells") = some c := rfl
@[simp] theorem D4_t (a b c d : D) : getI (D4 a b c d) (.str "turn") = some d := rfl
@[simp] theorem D4_pr (a b c d v : D) : putI (D4 a b c d) (.str "rest") v = some (D4 a v c d) := rfl
@[simp] theorem D4_pt (a b c d v : D) : putI (D4 a b c d) (.str "turn") v = some (D4 a b c v) := rfl
@[simp] theorem dr_0 (d : Dr) (ρ : List Bx) : (dr d ++ ρ)[0]? = some (.val (.lst (d.l.map .int))) := rfl
@[simp] theorem dr_1 (d : Dr) (ρ : List Bx) : (dr d ++ ρ)[1]? = some (.val (.lst (d.c.map .int))) := rfl
@[simp] theorem dr_2 (d : Dr) (ρ : List Bx) : (dr d ++ ρ)[2]? = some (.val (D4 (.box 0) (.int d.r) (.box 1) (.int d.t))) := rfl
@[simp] theorem dr_s2 (d : Dr) (ρ : List Bx) (r t : Int) : (dr d ++ ρ).set 2 (.val (D4 (.box 0) (.int r) (.box 1) (.int t))) = dr ⟨d.l, d.c, r, t⟩ ++ ρ := rfl
@[simp] theorem dr_s0 (d : Dr) (ρ : List Bx) (l : List Int) : (dr d ++ ρ).set 0 (.val (.lst (l.map .int))) = dr ⟨l, d.c, d.r, d.t⟩ ++ ρ := rfl
@[simp] theorem shut_dr (d : Dr) (ρ : List Bx) : shut (dr d ++ ρ) = dr d ++ shut ρ := rfl
theorem enter_dr (σ : List (Option (Bool × D))) (d : Dr) (ρ : List Bx) : enter ⟨σ, dr d ++ ρ⟩ = dr d ++ ρ.map (seen ⟨σ, dr d ++ ρ⟩) := rfl
theorem leave_dr (d d' : Dr) (ρ ν : List Bx) : leave (dr d ++ ρ) (dr d' ++ ν) = dr d' ++ leave ρ ν := rfl
theorem shut_seen (s : S) (ρ : List Bx) : shut (ρ.map (seen s)) = shut ρ := by simp [shut, Function.comp_def, shutB_seen]
/-- a call that changes the draw alone -/
theorem called_dr {f : Nat} {as : List D} {k : Nat} {o : Bool} {v : D} {d d' : Dr} (h : ∀ ρ, runI g k (.inl f) as (dr d ++ ρ) = .ok o v (dr d' ++ shut ρ)) (σ : List (Option (Bool × D))) (ρ : List Bx) : called (runI g k (.inl f) as (enter ⟨σ, dr d ++ ρ⟩)) ⟨σ, dr d ++ ρ⟩ = .ok (o, v) ⟨σ, dr d' ++ ρ⟩ := by
  rw [enter_dr, h, shut_seen]
  simp only [called, leave_dr, leave_shut]
theorem loopB_inv {t n : Nat} {f : S → Out} (P : Nat → S → Prop) (xs : List D) (hP : ∀ i s, P i s → s.μ[n]? = some (.val (.lst xs)))
    (hf : ∀ i x, xs[i]? = some x → ∀ s, P i s → ∃ s', f { s with σ := s.σ.set t (some (false, x)) } = .nx s' ∧ P (i + 1) s') :
    ∀ m i fuel s, i + m = xs.length → m < fuel → P i s → ∃ s', loopB t n f fuel i s = .nx s' ∧ P xs.length s' := by
  intro m
  induction m with
  | zero =>
    intro i fuel s h1 h2 h3
    obtain ⟨q, rfl⟩ : ∃ q, fuel = q + 1 := ⟨fuel - 1, by omega⟩
    have : xs[i]? = none := List.getElem?_eq_none (by omega)
    refine ⟨s, by simp [loopB, hP i s h3, this], by rw [← h1]; exact h3⟩
  | succ m ih =>
    intro i fuel s h1 h2 h3
    obtain ⟨q, rfl⟩ : ∃ q, fuel = q + 1 := ⟨fuel - 1, by omega⟩
    have : xs[i]? = some xs[i] := List.getElem?_eq_getElem (by omega)
    obtain ⟨s1, e1, h4⟩ := hf i _ this s h3
    obtain ⟨s2, e2, h5⟩ := ih (i + 1) q s1 (by omega) (by omega) h4
    exact ⟨s2, by simp only [loopB, hP i s h3, this, e1, e2], h5⟩
def blend (great turn : Int) (c : List Int) : Int := c.foldl (fun b x => (b * 69621 + x + turn).fmod great) ((turn * 48271 + great.fdiv 11).fmod great)
theorem blend_rng {great : Int} (hg : 0 < great) (turn : Int) (c : List Int) : 0 ≤ blend great turn c ∧ blend great turn c < great := by
  have : ∀ (c : List Int) b, 0 ≤ b ∧ b < great → 0 ≤ c.foldl (fun b x => (b * 69621 + x + turn).fmod great) b ∧ c.foldl (fun b x => (b * 69621 + x + turn).fmod great) b < great := by
    intro c
    induction c with
    | nil => intro b hb; exact hb
    | cons x r ih => intro b hb; exact ih _ ⟨Int.fmod_nonneg_of_pos _ hg, Int.fmod_lt_of_pos _ hg⟩
  exact this c _ ⟨Int.fmod_nonneg_of_pos _ hg, Int.fmod_lt_of_pos _ hg⟩
def mixS (turn : Int) (c : List Int) (found great : Int) : Int := found * 2147483659 + ((blend great turn c) ^ 5).fmod great
def mixV (d : Dr) : Int := [2147483647, 2147483629, 2147483587].foldl (mixS (d.t + 1) d.c) 0
theorem mixS_nn {turn : Int} {c : List Int} {found great : Int} (h : 0 ≤ found) (hg : 0 < great) : 0 ≤ mixS turn c found great := by
  have : 0 ≤ ((blend great turn c) ^ 5).fmod great := Int.fmod_nonneg_of_pos _ hg
  unfold mixS
  omega
theorem mixV_nn (d : Dr) : 0 ≤ mixV d := by
  simp only [mixV, List.foldl]
  exact mixS_nn (mixS_nn (mixS_nn (by omega) (by omega)) (by omega)) (by omega)
theorem mixed_inner (k : Nat) (d : Dr) (hd : d.c.length ≤ 1000) (ρ : List Bx) (turn found great : Int) (hg : 0 < great) (x : Option (Bool × D)) :
    ∃ x', evS g (runI g k) (nth (inn (nth c__law_mixed 2)) 1) ⟨[some (false, .box 2), some (false, .int turn), some (false, .int found), some (false, .int great), some (false, .int ((turn * 48271 + great.fdiv 11).fmod great)), x], dr d ++ ρ⟩ = .nx ⟨[some (false, .box 2), some (false, .int turn), some (false, .int found), some (false, .int great), some (false, .int (blend great turn d.c)), x'], dr d ++ ρ⟩ := by
  obtain ⟨s', e, x', hs⟩ := loopB_inv (t := 5) (n := 1) (f := evSs g (runI g k) (inn (nth (inn (nth c__law_mixed 2)) 1))) (fun i s => ∃ x, s = ⟨[some (false, .box 2), some (false, .int turn), some (false, .int found), some (false, .int great), some (false, .int (blend great turn (d.c.take i))), x], dr d ++ ρ⟩) (d.c.map .int)
    (by rintro i s ⟨x, rfl⟩; rfl)
    (by
      rintro i x hx s ⟨y, rfl⟩
      rw [List.getElem?_map] at hx
      obtain ⟨z, hz, rfl⟩ := Option.map_eq_some_iff.1 hx
      have hg0 : great ≠ 0 := by omega
      have hb : blend great turn (d.c.take (i + 1)) = (blend great turn (d.c.take i) * 69621 + z + turn).fmod great := by
        simp [blend, List.take_add_one, hz]
      have hm : mulOk (blend great turn (d.c.take i)) 69621 = true := by simp [mulOk, big64]
      refine ⟨_, ?_, some (false, .int z), rfl⟩
      simp [nth, inn, c__law_mixed, hm, hg0, hb]) d.c.length 0 1000000
    ⟨[some (false, .box 2), some (false, .int turn), some (false, .int found), some (false, .int great), some (false, .int ((turn * 48271 + great.fdiv 11).fmod great)), x], dr d ++ ρ⟩ (by simp) (by omega) ⟨x, rfl⟩
  refine ⟨x', ?_⟩
  rw [show nth (inn (nth c__law_mixed 2)) 1 = .for_ 5 .seq (.cons (.sub (.var false 0) (.con (.str "cells"))) .nil) (inn (nth (inn (nth c__law_mixed 2)) 1)) from rfl, evS_for]
  simp
  rw [e, hs]
  simp
theorem mixed_turn (k : Nat) (d : Dr) (hd : d.c.length ≤ 1000) (ρ : List Bx) (turn found great : Int) (hg : 0 < great) (hg2 : great < 4294967296) (b x : Option (Bool × D)) :
    ∃ b' x', evSs g (runI g k) (inn (nth c__law_mixed 2)) ⟨[some (false, .box 2), some (false, .int turn), some (false, .int found), some (false, .int great), b, x], dr d ++ ρ⟩ = .nx ⟨[some (false, .box 2), some (false, .int turn), some (false, .int (mixS turn d.c found great)), some (false, .int great), b', x'], dr d ++ ρ⟩ := by
  obtain ⟨x', e⟩ := mixed_inner k d hd ρ turn found great hg x
  have hg0 : great ≠ 0 := by omega
  have hm : mulOk turn 48271 = true := by simp [mulOk, big64]
  have hm2 : mulOk found 2147483659 = true := by simp [mulOk, big64]
  have hb := blend_rng hg turn d.c
  have hb2 : (blend great turn d.c).natAbs < 18446744073709551616 := by omega
  refine ⟨some (false, .int (blend great turn d.c)), x', ?_⟩
  · rw [show inn (nth c__law_mixed 2) = .cons (nth (inn (nth c__law_mixed 2)) 0) (.cons (nth (inn (nth c__law_mixed 2)) 1) (.cons (nth (inn (nth c__law_mixed 2)) 2) .nil)) from rfl]
    have e0 : evS g (runI g k) (nth (inn (nth c__law_mixed 2)) 0) ⟨[some (false, .box 2), some (false, .int turn), some (false, .int found), some (false, .int great), b, x], dr d ++ ρ⟩ = .nx ⟨[some (false, .box 2), some (false, .int turn), some (false, .int found), some (false, .int great), some (false, .int ((turn * 48271 + great.fdiv 11).fmod great)), x], dr d ++ ρ⟩ := by
      simp [nth, inn, c__law_mixed, hm, hg0]
    have e2 : evS g (runI g k) (nth (inn (nth c__law_mixed 2)) 2) ⟨[some (false, .box 2), some (false, .int turn), some (false, .int found), some (false, .int great), some (false, .int (blend great turn d.c)), x'], dr d ++ ρ⟩ = .nx ⟨[some (false, .box 2), some (false, .int turn), some (false, .int (mixS turn d.c found great)), some (false, .int great), some (false, .int (blend great turn d.c)), x'], dr d ++ ρ⟩ := by
      simp [nth, inn, c__law_mixed, hm2, hg0, hb2, mixS]
    rw [evSs_cons, e0, then_nx, evSs_cons, e, then_nx, evSs_cons, e2, then_nx, evSs_nil]
theorem mixed_ok (k : Nat) (d : Dr) (hd : d.c.length ≤ 1000) (ρ : List Bx) : runI g (k + 1) (.inl 9) [.box 2] (dr d ++ ρ) = .ok false (.int (mixV d)) (dr ⟨d.l, d.c, d.r, d.t + 1⟩ ++ shut ρ) := by
  rw [run_succ _ _ 9 _ _ rfl, runF_eq _ _ _ _ _ rfl]
  rw [show (⟨1, 6, c__law_mixed⟩ : Fn).body = .cons (nth c__law_mixed 0) (.cons (nth c__law_mixed 1) (.cons (nth c__law_mixed 2) (.cons (nth c__law_mixed 3) .nil))) from rfl]
  have e0 : evS g (runI g k) (nth c__law_mixed 0) ⟨[some (false, .box 2), none, none, none, none, none], dr d ++ ρ⟩ = .nx ⟨[some (false, .box 2), none, none, none, none, none], dr ⟨d.l, d.c, d.r, d.t + 1⟩ ++ ρ⟩ := by
    simp [nth, c__law_mixed]
  have e1 : evS g (runI g k) (nth c__law_mixed 1) ⟨[some (false, .box 2), none, none, none, none, none], dr ⟨d.l, d.c, d.r, d.t + 1⟩ ++ ρ⟩ = .nx ⟨[some (false, .box 2), some (false, .int (d.t + 1)), some (false, .int 0), none, none, none], dr ⟨d.l, d.c, d.r, d.t + 1⟩ ++ ρ⟩ := by
    simp [nth, c__law_mixed, setPar]
  let d' : Dr := ⟨d.l, d.c, d.r, d.t + 1⟩
  have hd' : d'.c.length ≤ 1000 := hd
  obtain ⟨b1, x1, t1⟩ := mixed_turn k d' hd' ρ (d.t + 1) 0 2147483647 (by omega) (by omega) none none
  obtain ⟨b2, x2, t2⟩ := mixed_turn k d' hd' ρ (d.t + 1) (mixS (d.t + 1) d'.c 0 2147483647) 2147483629 (by omega) (by omega) b1 x1
  obtain ⟨b3, x3, t3⟩ := mixed_turn k d' hd' ρ (d.t + 1) (mixS (d.t + 1) d'.c (mixS (d.t + 1) d'.c 0 2147483647) 2147483629) 2147483587 (by omega) (by omega) b2 x2
  have e2 : evS g (runI g k) (nth c__law_mixed 2) ⟨[some (false, .box 2), some (false, .int (d.t + 1)), some (false, .int 0), none, none, none], dr d' ++ ρ⟩ = .nx ⟨[some (false, .box 2), some (false, .int (d.t + 1)), some (false, .int (mixV d)), some (false, .int 2147483587), b3, x3], dr d' ++ ρ⟩ := by
    rw [show nth c__law_mixed 2 = .for_ 3 .seq (.cons (.lst (.cons (.con (.int 2147483647)) (.cons (.con (.int 2147483629)) (.cons (.con (.int 2147483587)) .nil)))) .nil) (inn (nth c__law_mixed 2)) from rfl,
      for_run (s' := ⟨[some (false, .box 2), some (false, .int (d.t + 1)), some (false, .int 0), none, none, none], dr d' ++ ρ⟩) (xs := [.lst [.int 2147483647, .int 2147483629, .int 2147483587]]) (l := [.int 2147483647, .int 2147483629, .int 2147483587]) (by simp [sizeL]) rfl rfl]
    rw [loop_cons_nx (by simpa using t1), loop_cons_nx (by simpa using t2), loop_cons_nx (by simpa using t3)]
    rfl
  have e3 : evS g (runI g k) (nth c__law_mixed 3) ⟨[some (false, .box 2), some (false, .int (d.t + 1)), some (false, .int (mixV d)), some (false, .int 2147483587), b3, x3], dr d' ++ ρ⟩ = .rt false (.int (mixV d)) ⟨[some (false, .box 2), some (false, .int (d.t + 1)), some (false, .int (mixV d)), some (false, .int 2147483587), b3, x3], dr d' ++ ρ⟩ := by
    simp [nth, c__law_mixed]
  have hσ : (List.map (fun a => some (false, a)) [D.box 2] ++ List.replicate ((6 : Nat) - 1) none : List (Option (Bool × D))) = [some (false, .box 2), none, none, none, none, none] := rfl
  rw [hσ, evSs_cons, e0, then_nx, evSs_cons, e1, then_nx, evSs_cons, e2, then_nx, evSs_cons, e3, then_rt, endS_rt, shut_dr]
def pre (d : Dr) : Dr := if d.r = 0 then (match d.l with
  | x :: r => ⟨r, d.c, x, d.t⟩
  | [] => ⟨[], d.c, mixV d, d.t + 1⟩) else d
def tkV (d : Dr) (a : Int) : Int := (pre d).r.fmod a
def tkD (d : Dr) (a : Int) : Dr := ⟨(pre d).l, (pre d).c, (pre d).r.fdiv a, (pre d).t⟩
theorem pre_ok {d : Dr} (h : d.ok) : (pre d).ok := by
  unfold pre
  split
  · split
    · rename_i x r e
      exact ⟨fun y hy => h.l y (by rw [e]; simp [hy]), h.l x (by rw [e]; simp), h.c⟩
    · exact ⟨by simp, mixV_nn d, h.c⟩
  · exact h
theorem tk_ok {d : Dr} (h : d.ok) {a : Int} (ha : 0 < a) : (tkD d a).ok := ⟨(pre_ok h).l, Int.fdiv_nonneg (pre_ok h).r (by omega), (pre_ok h).c⟩
theorem tk_rng {d : Dr} (h : d.ok) {a : Int} (ha : 0 < a) : 0 ≤ tkV d a ∧ tkV d a < a := ⟨Int.fmod_nonneg_of_pos _ ha, Int.fmod_lt_of_pos _ ha⟩
theorem take_pre (k : Nat) {d : Dr} (h : d.ok) (a : D) (ρ : List Bx) : evS g (runI g (k + 1)) (nth c__law_take 0) ⟨[some (false, .box 2), some (false, a), none], dr d ++ ρ⟩ = .nx ⟨[some (false, .box 2), some (false, a), none], dr (pre d) ++ ρ⟩ := by
  by_cases hr : d.r = 0
  · cases hl : d.l with
    | nil =>
      have hm := called_dr (f := 9) (k := k + 1) (d := d) (fun ρ => mixed_ok k d h.c ρ)
      have q : eqD (.lst []) (.lst []) = some true := rfl
      simp [nth, c__law_take, pre, hr, hl, hm, q]
    | cons x r =>
      have q : eqD (.lst (.int x :: r.map .int)) (.lst []) = some false := by
        have := eqD_l0 (x :: r)
        simpa using this
      have q1 : bmOk .popAt (some (.lst (.int x :: r.map .int))) = true := rfl
      have q2 : bmeth .popAt (.lst (.int x :: r.map .int)) [.int 0] = some (.int x, some (.lst (r.map .int))) := by
        simp [bmeth, ixN]
      simp [nth, c__law_take, pre, hr, hl, q, q1, q2]
  · have : (d.r == 0) = false := by simpa using hr
    simp [nth, c__law_take, pre, hr]
theorem take_ok (k : Nat) {d : Dr} (h : d.ok) {a : Int} (ha : 0 < a) (ha2 : a < 1073741824) (ρ : List Bx) : runI g (k + 2) (.inl 10) [.box 2, .int a] (dr d ++ ρ) = .ok false (.int (tkV d a)) (dr (tkD d a) ++ shut ρ) := by
  rw [run_succ _ _ 10 _ _ rfl, runF_eq _ _ _ _ _ rfl]
  rw [show (⟨2, 3, c__law_take⟩ : Fn).body = .cons (nth c__law_take 0) (.cons (nth c__law_take 1) (.cons (nth c__law_take 2) (.cons (nth c__law_take 3) .nil))) from rfl]
  have e0 := take_pre k h (.int a) ρ
  have ha0 : a ≠ 0 := by omega
  have ha1 : a.natAbs < 1073741824 := by omega
  have hσ : (List.map (fun a => some (false, a)) [D.box 2, D.int a] ++ List.replicate ((3 : Nat) - 2) none : List (Option (Bool × D))) = [some (false, .box 2), some (false, .int a), none] := rfl
  rw [hσ, evSs_cons, e0, then_nx]
  simp [nth, c__law_take, ha0, ha1, tkV, tkD]
theorem c_tk (k : Nat) (hk : 2 ≤ k) {d : Dr} (h : d.ok) {a : Int} (ha : 0 < a) (ha2 : a < 1073741824) (σ : List (Option (Bool × D))) (ρ : List Bx) : called (runI g k (.inl 10) [.box 2, .int a] (enter ⟨σ, dr d ++ ρ⟩)) ⟨σ, dr d ++ ρ⟩ = .ok (false, .int (tkV d a)) ⟨σ, dr (tkD d a) ++ ρ⟩ := by
  obtain ⟨j, rfl⟩ : ∃ j, k = j + 2 := ⟨k - 2, by omega⟩
  exact called_dr (fun ρ => take_ok j h ha ha2 ρ) σ ρ
def pkV (d : Dr) (xs : List D) : D := xs[(tkV d xs.length).toNat]?.getD .non
theorem pk_mem {d : Dr} (h : d.ok) {xs : List D} (hx : xs ≠ []) : pkV d xs ∈ xs := by
  have hl := List.length_pos_iff.2 hx
  have := tk_rng h (a := xs.length) (by omega)
  have hi : (tkV d xs.length).toNat < xs.length := by omega
  rw [pkV, List.getElem?_eq_getElem hi]
  exact List.getElem_mem hi
theorem pick_ok (k : Nat) {d : Dr} (h : d.ok) {xs : List D} (hx : xs ≠ []) (hl2 : xs.length < 1000) (ρ : List Bx) : runI g (k + 3) (.inl 11) [.box 2, .lst xs] (dr d ++ ρ) = .ok false (pkV d xs) (dr (tkD d xs.length) ++ shut ρ) := by
  rw [run_succ _ _ 11 _ _ rfl, runF_eq _ _ _ _ _ rfl]
  have hl := List.length_pos_iff.2 hx
  have hr := tk_rng h (a := xs.length) (by omega)
  have hc := c_tk (k + 2) (by omega) h (a := xs.length) (by omega) (by omega)
  have hi : (tkV d xs.length).toNat < xs.length := by omega
  have hg : getI (.lst xs) (.int (tkV d xs.length)) = some (pkV d xs) := by
    simp [getI, ixN_in hr, pkV, List.getElem?_eq_getElem hi]
  simp [c__law_pick, hc, hg]
theorem c_pk (k : Nat) (hk : 3 ≤ k) {d : Dr} (h : d.ok) {xs : List D} (hx : xs ≠ []) (hl2 : xs.length < 1000) (σ : List (Option (Bool × D))) (ρ : List Bx) : called (runI g k (.inl 11) [.box 2, .lst xs] (enter ⟨σ, dr d ++ ρ⟩)) ⟨σ, dr d ++ ρ⟩ = .ok (false, pkV d xs) ⟨σ, dr (tkD d xs.length) ++ ρ⟩ := by
  obtain ⟨j, rfl⟩ : ∃ j, k = j + 3 := ⟨k - 3, by omega⟩
  exact called_dr (fun ρ => pick_ok j h hx hl2 ρ) σ ρ
/-- the draw's begin -/
theorem begun_ok (k : Nat) (ns : List Int) (hn : ns.length ≤ 63) : ∃ d : Dr, d.ok ∧ runI g (k + 1) (.inl 8) [.scr (ns.map .int)] [] = .ok false (.box 2) (dr d) := by
  rw [run_succ _ _ 8 _ _ rfl, runF_eq _ _ _ _ _ rfl]
  let ab : Int → Int := fun i => if i < 0 then -i else i
  have hab : ∀ i, 0 ≤ ab i := by intro i; simp only [ab]; split <;> omega
  have e1 : ∀ x1, evE g (runI g k) (.lc [2] .seq (.cons (.var false 0) .nil) 2 .yes (.bcall .abs (.cons (.var false 2) .nil))) ⟨[some (false, .scr (ns.map .int)), x1, none], []⟩ = .ok (true, .lst ((ns.map ab).map .int)) ⟨[some (false, .scr (ns.map .int)), x1, none], []⟩ := by
    intro x1
    rw [lc_all (σ := [some (false, .scr (ns.map .int)), x1, none]) [.scr (ns.map .int)] (ns.map .int) (fun d => match d with | .int r => .int (ab r) | _ => .non) false rfl rfl (by simp [sizeL]; omega) (by decide)]
    · simp [back, Function.comp_def]
    · intro x hx
      obtain ⟨r, hr, rfl⟩ := List.mem_map.1 hx
      simp [wipe, ab]
  let lg : List Int := (ns.filter fun i => decide (10 ^ 18 ≤ ab i)).map fun i => ab i - 10 ^ 18
  have e0 : evE g (runI g k) (.lc [2] .seq (.cons (.var false 0) .nil) 2 (.tru (.cmp .ge (.bcall .abs (.cons (.var false 2) .nil)) (.bin .pow (.con (.int 10)) (.con (.int 18))))) (.bin .sub (.bcall .abs (.cons (.var false 2) .nil)) (.bin .pow (.con (.int 10)) (.con (.int 18))))) ⟨[some (false, .scr (ns.map .int)), none, none], []⟩ = .ok (true, .lst (lg.map .int)) ⟨[some (false, .scr (ns.map .int)), none, none], []⟩ := by
    rw [lc_filt (σ := [some (false, .scr (ns.map .int)), none, none]) [.scr (ns.map .int)] (ns.map .int) (fun d => match d with | .int r => decide (10 ^ 18 ≤ ab r) | _ => false) (fun d => match d with | .int r => .int (ab r - 10 ^ 18) | _ => .non) false rfl rfl (by simp [sizeL]; omega) (by decide)]
    · simp [back, Function.comp_def, List.filter_map, lg]
    · intro x hx
      obtain ⟨r, hr, rfl⟩ := List.mem_map.1 hx
      simp [wipe, ab]
    · intro x hx _
      obtain ⟨r, hr, rfl⟩ := List.mem_map.1 hx
      simp [wipe, ab]
  refine ⟨⟨lg, ns.map ab, 0, 0⟩, ⟨?_, by simp, by simp; omega⟩, ?_⟩
  · intro x hx
    obtain ⟨i, hi, rfl⟩ := List.mem_map.1 hx
    have := (List.mem_filter.1 hi).2
    simp only [decide_eq_true_eq] at this
    omega
  · have e2 := e1 none
    simp [c__law_begun, e0]
    simp [evE_dct, e2]
    refine ⟨rfl, ?_⟩
    rw [← List.map_map]
    rfl
end K72
end
section
set_option linter.all false
set_option maxRecDepth 100000
namespace K72
open Iv Iw
open PySem (Str)
/-- goals that may stand -/
structure Gok (R : Int) (gs : List Int) : Prop where
  ne : gs ≠ []
  len : gs.length < 1000
  rng : ∀ x ∈ gs, 0 ≤ x ∧ x < R
def stt (R C w : Int) (tab : List D) (room : Int) (row : List Int) (ink : Int) (gs : List Int) : List (Option (Bool × D)) := [some (false, .box 2), some (false, .int R), some (false, .int C), some (false, .int w), some (true, .lst tab), some (false, .int room), some (true, .lst (row.map .int)), some (false, .int ink), some (true, .lst (gs.map .int)), none, none]
abbrev cIn : Sms := inn (nth (inn (nth c__law_table 1)) 1)
section
variable {k : Nat} {d : Dr} (hd : d.ok) (ρ : List Bx) {R C w room ink : Int} (hR : 1 ≤ R) (hR2 : R ≤ 1000) (tab : List D) (hroom : 0 ≤ room ∧ room < R) (row : List Int) (hink : 0 ≤ ink) {gs : List Int} (hg : Gok R gs)
include hd hR hR2 hroom hink hg
theorem goal1 : ∃ gs' d', Gok R gs' ∧ Dr.ok d' ∧ evS g (runI g (k + 3)) (nth cIn 1) ⟨stt R C w tab room row ink gs, dr d ++ ρ⟩ = .nx ⟨stt R C w tab room row ink gs', dr d' ++ ρ⟩ := by
  by_cases hw : w = 0
  · have hR0 : R ≠ 0 := by omega
    have hm : 0 ≤ (room + 1).fmod R ∧ (room + 1).fmod R < R := ⟨Int.fmod_nonneg_of_pos _ (by omega), Int.fmod_lt_of_pos _ (by omega)⟩
    refine ⟨[(room + 1).fmod R, (room + 1).fmod R, 0], d, ⟨by simp, by simp, ?_⟩, hd, ?_⟩
    · intro x hx; simp at hx; rcases hx with rfl | rfl <;> omega
    · simp [cIn, nth, inn, c__law_table, stt, hw, hR0, sizeL]
  · refine ⟨gs, d, hg, hd, ?_⟩
    simp [cIn, nth, inn, c__law_table, stt, hw]
theorem goal2 : ∃ gs' d', Gok R gs' ∧ Dr.ok d' ∧ evS g (runI g (k + 3)) (nth cIn 2) ⟨stt R C w tab room row ink gs, dr d ++ ρ⟩ = .nx ⟨stt R C w tab room row ink gs', dr d' ++ ρ⟩ := by
  by_cases hw : w = 1
  · refine ⟨[room, if R - 1 < room + 1 then R - 1 else room + 1], d, ⟨by simp, by simp, ?_⟩, hd, ?_⟩
    · intro x hx; simp at hx; rcases hx with rfl | rfl
      · omega
      · split <;> omega
    · simp [cIn, nth, inn, c__law_table, stt, hw, sizeL]
  · refine ⟨gs, d, hg, hd, ?_⟩
    simp [cIn, nth, inn, c__law_table, stt, hw]
theorem goal3 : ∃ gs' d', Gok R gs' ∧ Dr.ok d' ∧ evS g (runI g (k + 3)) (nth cIn 3) ⟨stt R C w tab room row ink gs, dr d ++ ρ⟩ = .nx ⟨stt R C w tab room row ink gs', dr d' ++ ρ⟩ := by
  by_cases hw : w = 2
  · have hc := c_tk (k + 3) (by omega) hd (a := 2) (by omega) (by omega)
    have hr := tk_rng hd (a := 2) (by omega)
    refine ⟨[if R - 1 < room + 1 + tkV d 2 then R - 1 else room + 1 + tkV d 2], tkD d 2, ⟨by simp, by simp, ?_⟩, tk_ok hd (by omega), ?_⟩
    · intro x hx; simp at hx; subst hx; split <;> omega
    · simp [cIn, nth, inn, c__law_table, stt, hw, sizeL, hc]
  · refine ⟨gs, d, hg, hd, ?_⟩
    simp [cIn, nth, inn, c__law_table, stt, hw]
theorem goal4 : ∃ gs' d', Gok R gs' ∧ Dr.ok d' ∧ evS g (runI g (k + 3)) (nth cIn 4) ⟨stt R C w tab room row ink gs, dr d ++ ρ⟩ = .nx ⟨stt R C w tab room row ink gs', dr d' ++ ρ⟩ := by
  by_cases hw : w = 3
  · have hc := c_tk (k + 3) (by omega) hd (a := R) (by omega) (by omega)
    have hr := tk_rng hd (a := R) (by omega)
    have hR0 : R ≠ 0 := by omega
    have hm : 0 ≤ (room + ink).fmod R ∧ (room + ink).fmod R < R := ⟨Int.fmod_nonneg_of_pos _ (by omega), Int.fmod_lt_of_pos _ (by omega)⟩
    refine ⟨[(room + ink).fmod R, tkV d R, R - 1], tkD d R, ⟨by simp, by simp, ?_⟩, tk_ok hd (by omega), ?_⟩
    · intro x hx; simp at hx; rcases hx with rfl | rfl | rfl <;> omega
    · simp [cIn, nth, inn, c__law_table, stt, hw, sizeL, hc, hR0]
  · refine ⟨gs, d, hg, hd, ?_⟩
    simp [cIn, nth, inn, c__law_table, stt, hw]
theorem goal5 : ∃ gs' d', Gok R gs' ∧ Dr.ok d' ∧ evS g (runI g (k + 3)) (nth cIn 5) ⟨stt R C w tab room row ink gs, dr d ++ ρ⟩ = .nx ⟨stt R C w tab room row ink gs', dr d' ++ ρ⟩ := by
  by_cases hw : w = 4
  · by_cases hr : room = R - 1
    · refine ⟨[room], d, ⟨by simp, by simp, ?_⟩, hd, ?_⟩
      · intro x hx; simp at hx; subst hx; exact hroom
      · simp [cIn, nth, inn, c__law_table, stt, hw, hr, sizeL]
    · refine ⟨gs, d, hg, hd, ?_⟩
      simp [cIn, nth, inn, c__law_table, stt, hw, hr]
  · refine ⟨gs, d, hg, hd, ?_⟩
    simp [cIn, nth, inn, c__law_table, stt, hw]
theorem goal6 (hrow : row.length < 1000) : ∃ v, (0 ≤ v ∧ v < R) ∧ evS g (runI g (k + 3)) (nth cIn 6) ⟨stt R C w tab room row ink gs, dr d ++ ρ⟩ = .nx ⟨[some (false, .box 2), some (false, .int R), some (false, .int C), some (false, .int w), some (true, .lst tab), some (false, .int room), some (true, .lst ((row ++ [v]).map .int)), some (false, .int ink), some (false, .lst (gs.map .int)), none, none], dr (tkD d gs.length) ++ ρ⟩ := by
  have hne : gs.map D.int ≠ [] := by simpa using hg.ne
  have hlen := hg.len
  have hc := c_pk (k + 3) (by omega) hd hne (by simpa using hlen)
  obtain ⟨v, hv, he⟩ := List.mem_map.1 (pk_mem hd hne)
  rw [← he] at hc
  simp only [List.length_map] at hc
  have h1 : bmOk .append (some (.lst (row.map D.int))) = true := rfl
  have h2 : bmeth .append (.lst (row.map D.int)) [.int v] = some (.non, some (.lst ((row ++ [v]).map .int))) := by
    simp [bmeth, sizeL]; omega
  refine ⟨v, hg.rng v hv, ?_⟩
  simp only [List.map_append, List.map_cons, List.map_nil] at h2
  simp [cIn, nth, inn, c__law_table, stt, hc, h1, h2]
end
theorem ink_turn {k : Nat} {d : Dr} (hd : d.ok) (ρ : List Bx) {R C w room ink : Int} (hR : 1 ≤ R) (hR2 : R ≤ 1000) (tab : List D) (hroom : 0 ≤ room ∧ room < R) (row : List Int) (hink : 0 ≤ ink) (hrow : row.length < 1000) (x8 : Option (Bool × D)) :
    ∃ v d' x8', (0 ≤ v ∧ v < R) ∧ Dr.ok d' ∧ evSs g (runI g (k + 3)) cIn ⟨[some (false, .box 2), some (false, .int R), some (false, .int C), some (false, .int w), some (true, .lst tab), some (false, .int room), some (true, .lst (row.map .int)), some (false, .int ink), x8, none, none], dr d ++ ρ⟩ = .nx ⟨[some (false, .box 2), some (false, .int R), some (false, .int C), some (false, .int w), some (true, .lst tab), some (false, .int room), some (true, .lst ((row ++ [v]).map .int)), some (false, .int ink), x8', none, none], dr d' ++ ρ⟩ := by
  have hc := c_tk (k + 3) (by omega) hd (a := R) (by omega) (by omega)
  have hr := tk_rng hd (a := R) (by omega)
  have e0 : evS g (runI g (k + 3)) (nth cIn 0) ⟨[some (false, .box 2), some (false, .int R), some (false, .int C), some (false, .int w), some (true, .lst tab), some (false, .int room), some (true, .lst (row.map .int)), some (false, .int ink), x8, none, none], dr d ++ ρ⟩ = .nx ⟨stt R C w tab room row ink [tkV d R], dr (tkD d R) ++ ρ⟩ := by
    simp [cIn, nth, inn, c__law_table, stt, hc, sizeL]
  have g0 : Gok R [tkV d R] := ⟨by simp, by simp, by intro x hx; simp at hx; subst hx; exact hr⟩
  obtain ⟨g1, d1, hg1, hd1, e1⟩ := goal1 (k := k) (C := C) (w := w) (tk_ok hd (show 0 < R by omega)) ρ hR hR2 tab hroom row hink g0
  obtain ⟨g2, d2, hg2, hd2, e2⟩ := goal2 (k := k) (C := C) (w := w) hd1 ρ hR hR2 tab hroom row hink hg1
  obtain ⟨g3, d3, hg3, hd3, e3⟩ := goal3 (k := k) (C := C) (w := w) hd2 ρ hR hR2 tab hroom row hink hg2
  obtain ⟨g4, d4, hg4, hd4, e4⟩ := goal4 (k := k) (C := C) (w := w) hd3 ρ hR hR2 tab hroom row hink hg3
  obtain ⟨g5, d5, hg5, hd5, e5⟩ := goal5 (k := k) (C := C) (w := w) hd4 ρ hR hR2 tab hroom row hink hg4
  obtain ⟨v, hv, e6⟩ := goal6 (k := k) (C := C) (w := w) hd5 ρ hR hR2 tab hroom row hink hg5 hrow
  have hl := List.length_pos_iff.2 hg5.ne
  refine ⟨v, tkD d5 g5.length, some (false, .lst (g5.map .int)), hv, tk_ok hd5 (by omega), ?_⟩
  rw [show cIn = .cons (nth cIn 0) (.cons (nth cIn 1) (.cons (nth cIn 2) (.cons (nth cIn 3) (.cons (nth cIn 4) (.cons (nth cIn 5) (.cons (nth cIn 6) .nil)))))) from rfl]
  rw [evSs_cons, e0, then_nx, evSs_cons, e1, then_nx, evSs_cons, e2, then_nx, evSs_cons, e3, then_nx, evSs_cons, e4, then_nx, evSs_cons, e5, then_nx, evSs_cons, e6, then_nx, evSs_nil]
end K72
end
section
set_option linter.all false
set_option maxRecDepth 100000
namespace K72
open Iv Iw
open PySem (Str)
theorem items_rng1 (n : Int) (h0 : 0 ≤ n) (h1 : n ≤ 100000) : items .rng1 [.int n] = some ((List.range n.toNat).map fun (i : Nat) => .int (0 + (i : Int))) := by
  have : rngOk n = true := by simp [rngOk]; omega
  simp only [items, this, if_true]
/-- a row that may stand -/
structure Rok (R C : Int) (row : List Int) : Prop where
  len : (row.length : Int) = C + 1
  rng : ∀ x ∈ row, 0 ≤ x ∧ x < R
theorem row_walk {k : Nat} {d : Dr} (hd : d.ok) (ρ : List Bx) {R C w room : Int} (hR : 1 ≤ R) (hR2 : R ≤ 1000) (hC : 1 ≤ C ∧ C ≤ 4) (tab : List D) (hroom : 0 ≤ room ∧ room < R) (x7 x8 : Option (Bool × D)) :
    ∃ row d' x7' x8', Rok R C row ∧ Dr.ok d' ∧ evS g (runI g (k + 3)) (nth (inn (nth c__law_table 1)) 1) ⟨[some (false, .box 2), some (false, .int R), some (false, .int C), some (false, .int w), some (true, .lst tab), some (false, .int room), some (true, .lst []), x7, x8, none, none], dr d ++ ρ⟩ = .nx ⟨[some (false, .box 2), some (false, .int R), some (false, .int C), some (false, .int w), some (true, .lst tab), some (false, .int room), some (true, .lst (row.map .int)), x7', x8', none, none], dr d' ++ ρ⟩ := by
  have hit := items_rng1 (C + 1) (by omega) (by omega)
  obtain ⟨s', e, row, d', x7', x8', hs, h1, h2, h3⟩ := loop_inv (t := 7) (f := evSs g (runI g (k + 3)) cIn) (fun i s => ∃ (row : List Int) (d : Dr) (x7 x8 : Option (Bool × D)), s = ⟨[some (false, .box 2), some (false, .int R), some (false, .int C), some (false, .int w), some (true, .lst tab), some (false, .int room), some (true, .lst (row.map .int)), x7, x8, none, none], dr d ++ ρ⟩ ∧ d.ok ∧ row.length = i ∧ ∀ x ∈ row, 0 ≤ x ∧ x < R)
    ((List.range (C + 1).toNat).map fun (i : Nat) => D.int (0 + (i : Int)))
    (by
      rintro i x hx s ⟨row, d, x7, x8, rfl, hd, hl, hr⟩
      obtain ⟨n, hn, rfl⟩ := List.mem_map.1 (List.mem_of_getElem? hx)
      have hi : i < (C + 1).toNat := by have := (List.getElem?_eq_some_iff.1 hx).1; simpa using this
      obtain ⟨v, d', x8', hv, hd', e⟩ := ink_turn (k := k) (C := C) (w := w) hd ρ hR hR2 tab hroom row (show (0 : Int) ≤ 0 + (n : Int) by omega) (by omega) x8
      refine ⟨_, e, row ++ [v], d', _, x8', rfl, hd', by simp [hl], ?_⟩
      intro y hy
      rcases List.mem_append.1 hy with hy | hy
      · exact hr y hy
      · simp at hy; subst hy; exact hv)
    ⟨[some (false, .box 2), some (false, .int R), some (false, .int C), some (false, .int w), some (true, .lst tab), some (false, .int room), some (true, .lst []), x7, x8, none, none], dr d ++ ρ⟩ ⟨[], d, x7, x8, rfl, hd, rfl, by simp⟩
  refine ⟨row, d', x7', x8', ⟨?_, h3⟩, h1, ?_⟩
  · simp at h2; omega
  · rw [show nth (inn (nth c__law_table 1)) 1 = .for_ 7 .rng1 (.cons (.bin .add (.var false 2) (.con (.int 1))) .nil) cIn from rfl,
      for_run (s' := ⟨[some (false, .box 2), some (false, .int R), some (false, .int C), some (false, .int w), some (true, .lst tab), some (false, .int room), some (true, .lst []), x7, x8, none, none], dr d ++ ρ⟩) (xs := [.int (C + 1)]) (by simp) rfl hit, e, hs]
theorem room_turn {k : Nat} {d : Dr} (hd : d.ok) (ρ : List Bx) {R C w room : Int} (hR : 1 ≤ R) (hR2 : R ≤ 1000) (hC : 1 ≤ C ∧ C ≤ 4) (tab : List (List Int)) (ht : tab.length < 1000) (hroom : 0 ≤ room ∧ room < R) (x6 x7 x8 : Option (Bool × D)) :
    ∃ row d' x6' x7' x8', Rok R C row ∧ Dr.ok d' ∧ evSs g (runI g (k + 3)) (inn (nth c__law_table 1)) ⟨[some (false, .box 2), some (false, .int R), some (false, .int C), some (false, .int w), some (true, .lst (tab.map tR)), some (false, .int room), x6, x7, x8, none, none], dr d ++ ρ⟩ = .nx ⟨[some (false, .box 2), some (false, .int R), some (false, .int C), some (false, .int w), some (true, .lst ((tab ++ [row]).map tR)), some (false, .int room), x6', x7', x8', none, none], dr d' ++ ρ⟩ := by
  obtain ⟨row, d', x7', x8', hrow, hd', e⟩ := row_walk (k := k) (w := w) hd ρ hR hR2 hC (tab.map tR) hroom x7 x8
  refine ⟨row, d', some (true, .lst (row.map .int)), x7', x8', hrow, hd', ?_⟩
  · rw [show inn (nth c__law_table 1) = .cons (.asg 6 (.lst .nil)) (.cons (nth (inn (nth c__law_table 1)) 1) (.cons (.exp (.bm .append (.var false 4) (.cons (.bcall .tuple (.cons (.var false 6) .nil)) .nil))) .nil)) from rfl]
    have e0 : evS g (runI g (k + 3)) (.asg 6 (.lst .nil)) ⟨[some (false, .box 2), some (false, .int R), some (false, .int C), some (false, .int w), some (true, .lst (tab.map tR)), some (false, .int room), x6, x7, x8, none, none], dr d ++ ρ⟩ = .nx ⟨[some (false, .box 2), some (false, .int R), some (false, .int C), some (false, .int w), some (true, .lst (tab.map tR)), some (false, .int room), some (true, .lst []), x7, x8, none, none], dr d ++ ρ⟩ := by
      simp [sizeL]
    rw [evSs_cons, e0, then_nx, evSs_cons, e, then_nx]
    have h1 : bmOk .append (some (.lst (tab.map tR))) = true := rfl
    have h2 : bmeth .append (.lst (tab.map tR)) [.tup (row.map .int)] = some (.non, some (.lst (tab.map tR ++ [.tup (row.map .int)]))) := by
      simp [bmeth, sizeL]; omega
    simp [h1, h2]
    rfl
/-- a table that may stand -/
structure Tok (R C : Int) (T : List (List Int)) : Prop where
  len : (T.length : Int) = R
  row : ∀ r ∈ T, Rok R C r
theorem tab_walk {k : Nat} {d : Dr} (hd : d.ok) (ρ : List Bx) {R C w : Int} (hR : 1 ≤ R) (hR2 : R ≤ 900) (hC : 1 ≤ C ∧ C ≤ 4) :
    ∃ T d' x5 x6 x7 x8, Tok R C T ∧ Dr.ok d' ∧ evS g (runI g (k + 3)) (nth c__law_table 1) ⟨[some (false, .box 2), some (false, .int R), some (false, .int C), some (false, .int w), some (true, .lst []), none, none, none, none, none, none], dr d ++ ρ⟩ = .nx ⟨[some (false, .box 2), some (false, .int R), some (false, .int C), some (false, .int w), some (true, .lst (T.map tR)), x5, x6, x7, x8, none, none], dr d' ++ ρ⟩ := by
  have hit := items_rng1 R (by omega) (by omega)
  obtain ⟨s', e, T, d', x5, x6, x7, x8, hs, h1, h2, h3⟩ := loop_inv (t := 5) (f := evSs g (runI g (k + 3)) (inn (nth c__law_table 1))) (fun i s => ∃ (T : List (List Int)) (d : Dr) (x5 x6 x7 x8 : Option (Bool × D)), s = ⟨[some (false, .box 2), some (false, .int R), some (false, .int C), some (false, .int w), some (true, .lst (T.map tR)), x5, x6, x7, x8, none, none], dr d ++ ρ⟩ ∧ d.ok ∧ T.length = i ∧ ∀ r ∈ T, Rok R C r)
    ((List.range R.toNat).map fun (i : Nat) => D.int (0 + (i : Int)))
    (by
      rintro i x hx s ⟨T, d, x5, x6, x7, x8, rfl, hd, hl, hr⟩
      obtain ⟨n, hn, rfl⟩ := List.mem_map.1 (List.mem_of_getElem? hx)
      have hn := List.mem_range.1 hn
      have hi : i < R.toNat := by have := (List.getElem?_eq_some_iff.1 hx).1; simpa using this
      obtain ⟨row, d', x6', x7', x8', hrow, hd', e⟩ := room_turn (k := k) (w := w) hd ρ hR (by omega) hC T (by omega) (room := 0 + (n : Int)) (by omega) x6 x7 x8
      refine ⟨_, e, T ++ [row], d', _, x6', x7', x8', rfl, hd', by simp [hl], ?_⟩
      intro y hy
      rcases List.mem_append.1 hy with hy | hy
      · exact hr y hy
      · simp at hy; subst hy; exact hrow)
    ⟨[some (false, .box 2), some (false, .int R), some (false, .int C), some (false, .int w), some (true, .lst []), none, none, none, none, none, none], dr d ++ ρ⟩ ⟨[], d, none, none, none, none, rfl, hd, rfl, by simp⟩
  refine ⟨T, d', x5, x6, x7, x8, ⟨?_, h3⟩, h1, ?_⟩
  · simp at h2; omega
  · rw [show nth c__law_table 1 = .for_ 5 .rng1 (.cons (.var false 1) .nil) (inn (nth c__law_table 1)) from rfl,
      for_run (s' := ⟨[some (false, .box 2), some (false, .int R), some (false, .int C), some (false, .int w), some (true, .lst []), none, none, none, none, none, none], dr d ++ ρ⟩) (xs := [.int R]) (by simp) rfl hit, e, hs]
/-- a list of goods made by draws -/
theorem goods_walk {k : Nat} {d : Dr} (hd : d.ok) (ρ : List Bx) {R C w dense : Int} (hR : 1 ≤ R) (hR2 : R ≤ 900) (x4 x5 x6 x7 x8 : Option (Bool × D)) :
    ∃ (B : List Bool) (d' : Dr) (y5 : Option (Bool × D)), (B.length : Int) = R ∧ d'.ok ∧ evE g (runI g (k + 3)) (.lc [5] .rng1 (.cons (.var false 1) .nil) 5 .yes (.cmp .lt (.call 10 (.cons (.var false 0) (.cons (.con (.int 4)) .nil))) (.var false 9))) ⟨[some (false, .box 2), some (false, .int R), some (false, .int C), some (false, .int w), x4, x5, x6, x7, x8, some (false, .int dense), none], dr d ++ ρ⟩ = .ok (true, lB B) ⟨[some (false, .box 2), some (false, .int R), some (false, .int C), some (false, .int w), x4, y5, x6, x7, x8, some (false, .int dense), none], dr d' ++ ρ⟩ := by
  have hit := items_rng1 R (by omega) (by omega)
  let s0 : S := ⟨[some (false, .box 2), some (false, .int R), some (false, .int C), some (false, .int w), x4, x5, x6, x7, x8, some (false, .int dense), none], dr d ++ ρ⟩
  obtain ⟨acc, s1, e, B, d', y5, h1, h2, h3, h4⟩ := turns_inv (t := 5) (own := [5]) (f := fun s acc => (evT g (runI g (k + 3)) .yes s).bind fun b s => if b then (evE g (runI g (k + 3)) (.cmp .lt (.call 10 (.cons (.var false 0) (.cons (.con (.int 4)) .nil))) (.var false 9)) s).bind fun x s => if acc.length < sizeL then .ok (acc ++ [x.2]) s else .no else .ok acc s)
    (fun i acc s => ∃ (B : List Bool) (d : Dr) (y5 : Option (Bool × D)), acc = B.map .bl ∧ B.length = i ∧ d.ok ∧ s = ⟨[some (false, .box 2), some (false, .int R), some (false, .int C), some (false, .int w), x4, y5, x6, x7, x8, some (false, .int dense), none], dr d ++ ρ.map (seen s0)⟩)
    ((List.range R.toNat).map fun (i : Nat) => D.int (0 + (i : Int)))
    (by
      rintro i x hx acc s ⟨B, d, y5, rfl, hl, hd, rfl⟩
      have hi : i < R.toNat := by have := (List.getElem?_eq_some_iff.1 hx).1; simpa using this
      have hc := c_tk (k + 3) (by omega) hd (a := 4) (by omega) (by omega)
      have hs : B.length < sizeL := by simp only [sizeL]; omega
      refine ⟨(B ++ [decide (tkV d 4 < dense)]).map .bl, ⟨[some (false, .box 2), some (false, .int R), some (false, .int C), some (false, .int w), x4, some (false, x), x6, x7, x8, some (false, .int dense), none], dr (tkD d 4) ++ ρ.map (seen s0)⟩, ?_, B ++ [decide (tkV d 4 < dense)], tkD d 4, some (false, x), rfl, by simp [hl], tk_ok hd (by omega), rfl⟩
      simp [wipe, hc, hs])
    [] ⟨s0.σ, dr d ++ ρ.map (seen s0)⟩ ⟨[], d, x5, rfl, rfl, hd, rfl⟩
  refine ⟨B, d', (match (some x5 : Option (Option (Bool × D))) with | some (some (false, d)) => some (false, d) | _ => none), ?_, h3, ?_⟩
  · simp at h2; omega
  · rw [evE_lc]
    rw [show evEs g (runI g (k + 3)) (.cons (.var false 1) .nil) ⟨[some (false, .box 2), some (false, .int R), some (false, .int C), some (false, .int w), x4, x5, x6, x7, x8, some (false, .int dense), none], dr d ++ ρ⟩ = .ok [.int R] s0 from rfl, bind_ok, hit, of_some, bind_ok]
    rw [show (⟨s0.σ, enter s0⟩ : S) = ⟨s0.σ, dr d ++ ρ.map (seen s0)⟩ from rfl]
    rw [e, h1, h4]
    show Res.ok (true, lB B) ⟨_, leave (dr d ++ ρ) (dr d' ++ ρ.map (seen s0))⟩ = _
    rw [leave_dr, leave_enter]
    rfl
end K72
end
section
set_option linter.all false
set_option maxRecDepth 100000
namespace K72
open Iv Iw
open PySem (Str)
/-- a call that changes the draw alone, of which not all is told -/
theorem called_drE {f : Nat} {as : List D} {k : Nat} {o : Bool} {d : Dr} {α : Type} (F : α → D) (P : α → Dr → Prop) (h : ∀ ρ, ∃ v d', P v d' ∧ runI g k (.inl f) as (dr d ++ ρ) = .ok o (F v) (dr d' ++ shut ρ)) (σ : List (Option (Bool × D))) (ρ : List Bx) : ∃ v d', P v d' ∧ called (runI g k (.inl f) as (enter ⟨σ, dr d ++ ρ⟩)) ⟨σ, dr d ++ ρ⟩ = .ok (o, F v) ⟨σ, dr d' ++ ρ⟩ := by
  obtain ⟨v, d', hp, e⟩ := h (ρ.map (seen ⟨σ, dr d ++ ρ⟩))
  refine ⟨v, d', hp, ?_⟩
  rw [enter_dr, e, shut_seen]
  simp only [called, leave_dr, leave_shut]
theorem pick_int {d : Dr} (hd : d.ok) (xs : List Int) (hx : xs ≠ []) : ∃ v ∈ xs, pkV d (xs.map .int) = .int v := by
  obtain ⟨v, hv, he⟩ := List.mem_map.1 (pk_mem hd (xs := xs.map .int) (by simpa using hx))
  exact ⟨v, hv, he.symm⟩
theorem table_ok (k : Nat) {d : Dr} (hd : d.ok) {R C : Int} (hR : 1 ≤ R) (hR2 : R ≤ 900) (hC : 1 ≤ C ∧ C ≤ 4) (ρ : List Bx) :
    ∃ (v : List (List Int) × List Bool) (d' : Dr), (Tok R C v.1 ∧ (v.2.length : Int) = R ∧ d'.ok) ∧ runI g (k + 4) (.inl 13) [.box 2, .int R, .int C] (dr d ++ ρ) = .ok false (.tup [tT v.1, tB v.2]) (dr d' ++ shut ρ) := by
  rw [run_succ _ _ 13 _ _ rfl, runF_eq _ _ _ _ _ rfl]
  have hc := c_tk (k + 3) (by omega) hd (a := 6) (by omega) (by omega)
  have e0 : evS g (runI g (k + 3)) (nth c__law_table 0) ⟨[some (false, .box 2), some (false, .int R), some (false, .int C), none, none, none, none, none, none, none, none], dr d ++ ρ⟩ = .nx ⟨[some (false, .box 2), some (false, .int R), some (false, .int C), some (false, .int (tkV d 6)), some (true, .lst []), none, none, none, none, none, none], dr (tkD d 6) ++ ρ⟩ := by
    simp [nth, c__law_table, hc, sizeL, setPar]
  obtain ⟨T, d1, x5, x6, x7, x8, hT, hd1, e1⟩ := tab_walk (k := k) (w := tkV d 6) (tk_ok hd (show (0 : Int) < 6 by omega)) ρ hR hR2 hC
  obtain ⟨dv, hdv, hp⟩ := pick_int hd1 [1, 1, 2, 3] (by simp)
  have hc2 := c_pk (k + 3) (by omega) hd1 (xs := [.int 1, .int 1, .int 2, .int 3]) (by simp) (by simp)
  rw [show pkV d1 [.int 1, .int 1, .int 2, .int 3] = .int dv from hp] at hc2
  simp only [List.length_cons, List.length_nil, Nat.zero_add, Nat.reduceAdd] at hc2
  have e2 : evS g (runI g (k + 3)) (nth c__law_table 2) ⟨[some (false, .box 2), some (false, .int R), some (false, .int C), some (false, .int (tkV d 6)), some (true, .lst (T.map tR)), x5, x6, x7, x8, none, none], dr d1 ++ ρ⟩ = .nx ⟨[some (false, .box 2), some (false, .int R), some (false, .int C), some (false, .int (tkV d 6)), some (true, .lst (T.map tR)), x5, x6, x7, x8, some (false, .int dv), none], dr (tkD d1 4) ++ ρ⟩ := by
    simp [nth, c__law_table, sizeL, hc2]
  obtain ⟨B, d3, y5, hB, hd3, e3⟩ := goods_walk (k := k) (C := C) (w := tkV d 6) (dense := dv) (tk_ok hd1 (show (0 : Int) < 4 by omega)) ρ hR hR2 (some (true, .lst (T.map tR))) x5 x6 x7 x8
  refine ⟨(T, B), d3, ⟨hT, hB, hd3⟩, ?_⟩
  rw [show (⟨3, 11, c__law_table⟩ : Fn).body = .cons (nth c__law_table 0) (.cons (nth c__law_table 1) (.cons (nth c__law_table 2) (.cons (nth c__law_table 3) (.cons (nth c__law_table 4) .nil)))) from rfl]
  have hσ : (List.map (fun a => some (false, a)) [D.box 2, .int R, .int C] ++ List.replicate ((11 : Nat) - 3) none : List (Option (Bool × D))) = [some (false, .box 2), some (false, .int R), some (false, .int C), none, none, none, none, none, none, none, none] := rfl
  have e4 : evS g (runI g (k + 3)) (nth c__law_table 3) ⟨[some (false, .box 2), some (false, .int R), some (false, .int C), some (false, .int (tkV d 6)), some (true, .lst (T.map tR)), x5, x6, x7, x8, some (false, .int dv), none], dr (tkD d1 4) ++ ρ⟩ = .nx ⟨[some (false, .box 2), some (false, .int R), some (false, .int C), some (false, .int (tkV d 6)), some (true, .lst (T.map tR)), y5, x6, x7, x8, some (false, .int dv), some (false, tB B)], dr d3 ++ ρ⟩ := by
    simp [nth, c__law_table, e3]
  have e5 : ∃ s, evS g (runI g (k + 3)) (nth c__law_table 4) ⟨[some (false, .box 2), some (false, .int R), some (false, .int C), some (false, .int (tkV d 6)), some (true, .lst (T.map tR)), y5, x6, x7, x8, some (false, .int dv), some (false, tB B)], dr d3 ++ ρ⟩ = .rt false (.tup [tT T, tB B]) s ∧ s.μ = dr d3 ++ ρ := by
    refine ⟨⟨[some (false, .box 2), some (false, .int R), some (false, .int C), some (false, .int (tkV d 6)), some (true, .lst (T.map tR)), y5, x6, x7, x8, some (false, .int dv), some (false, tB B)], dr d3 ++ ρ⟩, ?_, rfl⟩
    simp [nth, c__law_table, sizeL, tT]
  obtain ⟨s, e5, hs⟩ := e5
  rw [hσ, evSs_cons, e0, then_nx, evSs_cons, e1, then_nx, evSs_cons, e2, then_nx, evSs_cons, e4, then_nx, evSs_cons, e5, then_rt, endS_rt, hs, shut_dr]
theorem Tok.pok {R C : Int} {T : List (List Int)} {B : List Bool} (h : Tok R C T) (hR : 1 ≤ R ∧ R ≤ 60) (hC : 1 ≤ C ∧ C ≤ 4) (hB : (B.length : Int) = R) : Pok C T B :=
  ⟨hC.1, hC.2, by have := h.len; omega, by have := h.len; omega, fun r hr => (h.row r hr).len, fun r hr x hx => by have := (h.row r hr).rng x hx; have := h.len; omega, by have := h.len; omega⟩
/-- a plan: told by three things -/
abbrev PV := Int × List (List Int) × List Bool
def PV.d (v : PV) : D := dPl v.1 v.2.1 v.2.2
def PV.ok (v : PV) : Prop := Pok v.1 v.2.1 v.2.2
theorem plan_ok (k : Nat) {d : Dr} (hd : d.ok) (ρ : List Bx) :
    ∃ (v : PV) (d' : Dr), ((v.ok ∧ v.2.1.length ≤ 12) ∧ d'.ok) ∧ runI g (k + 5) (.inl 14) [.box 2, .int 12] (dr d ++ ρ) = .ok false v.d (dr d' ++ shut ρ) := by
  rw [run_succ _ _ 14 _ _ rfl, runF_eq _ _ _ _ _ rfl]
  have hc := c_tk (k + 4) (by omega) hd (a := 4) (by omega) (by omega)
  have hC := tk_rng hd (a := 4) (by omega)
  have hd1 := tk_ok hd (show (0 : Int) < 4 by omega)
  generalize tkD d 4 = d1 at *
  generalize tkV d 4 = cv at *
  have hc1 := c_tk (k + 4) (by omega) hd1 (a := 12) (by omega) (by omega)
  have hr := tk_rng hd1 (a := 12) (by omega)
  have hd2 := tk_ok hd1 (show (0 : Int) < 12 by omega)
  generalize tkD d1 12 = d2 at *
  generalize tkV d1 12 = rv at *
  obtain ⟨R, hR, hp⟩ := pick_int hd2 [1, 2, 3, 4, 5, 1 + rv, 12] (by simp)
  have hRr : 1 ≤ R ∧ R ≤ 12 := by simp at hR; omega
  have hc2 := c_pk (k + 4) (by omega) hd2 (xs := [.int 1, .int 2, .int 3, .int 4, .int 5, .int (1 + rv), .int 12]) (by simp) (by simp)
  rw [show pkV d2 [.int 1, .int 2, .int 3, .int 4, .int 5, .int (1 + rv), .int 12] = .int R from hp] at hc2
  simp only [List.length_cons, List.length_nil, Nat.zero_add, Nat.reduceAdd] at hc2
  have hd3 := tk_ok hd2 (show (0 : Int) < (7 : Nat) by omega)
  generalize tkD d2 (7 : Nat) = d3 at *
  obtain ⟨⟨T, B⟩, d4, ⟨hT, hB, hd4⟩, ht⟩ := called_drE (f := 13) (as := [.box 2, .int R, .int (1 + cv)]) (k := k + 4) (o := false) (d := d3) (fun v : List (List Int) × List Bool => .tup [tT v.1, tB v.2]) (fun v d' => Tok R (1 + cv) v.1 ∧ (v.2.length : Int) = R ∧ d'.ok) (fun ρ => table_ok k hd3 (by omega) (by omega) ⟨by omega, by omega⟩ ρ) [some (false, .box 2), some (false, .int 12), some (false, .int (1 + cv)), some (false, .int R)] ρ
  have hpk : Pok (1 + cv) T B := hT.pok ⟨by omega, by omega⟩ ⟨by omega, by omega⟩ hB
  refine ⟨(1 + cv, T, B), d4, ⟨⟨hpk, ?_⟩, hd4⟩, ?_⟩
  · have : (T.length : Int) = R := hT.len
    show T.length ≤ 12
    omega
  · simp [c__law_plan, hc, sizeL, hc1, hc2, ht]
    rfl
end K72
end
section
set_option linter.all false
set_option maxRecDepth 100000
namespace K72
open Iv Iw
open PySem (Str)
/-! rings -/
def ringRow (n : Nat) (b : Nat) (L at_ : Nat) : List Int := List.replicate n ((b : Int) + (if at_ + 1 < L then (at_ : Int) + 1 else 0))
def ringStep (n : Nat) (s : List (List Int) × List Int) (L : Nat) : List (List Int) × List Int := (s.1 ++ (List.range L).map (ringRow n s.1.length L), s.2 ++ [(s.1.length : Int)])
def ringFold (n : Nat) (ls : List Nat) : List (List Int) × List Int := ls.foldl (ringStep n) ([[]], [])
def ringsT (ls : List Nat) : List (List Int) := (ringFold ls.length ls).1.set 0 (ringFold ls.length ls).2
def lN (ls : List Nat) : List D := ls.map fun (i : Nat) => .int i
theorem getI_lastI (bs : List Int) (b : Int) : getI (.lst ((bs ++ [b]).map .int)) (.int (-1)) = some (.int b) := by
  have h2 : -((bs.length : Int) + 1) ≤ -1 := by omega
  simp [getI, ixN, h2, show (-1 + ((bs.length : Int) + 1)).toNat = bs.length by omega]
theorem mul_tup (x : Int) (n : Nat) (h : 2 ≤ n) (h2 : n ≤ 1000) : opB .mul (.tup [.int x]) (.int n) = some (false, tR (List.replicate n x)) := by
  have : (2 : Int) ≤ n ∧ (n : Int) ≤ 1000 := by omega
  simp [opB, this, tR]
theorem ring_cell {k : Nat} {d : Dr} (hd : d.ok) (ρ : List Bx) {ls : List Nat} (hls : 2 ≤ ls.length ∧ ls.length ≤ 900) (tab : List (List Int)) (ht : tab.length ≤ 100000) (B : List Bool) (hB : B.length ≤ 100000) (bs : List Int) (b L i : Nat) (hi : i < L) (spot : Int) (x8 : Option (Bool × D)) :
    ∃ v d' x8', Dr.ok d' ∧ evSs g (runI g (k + 3)) (inn (nth (inn (nth c__law_rings 1)) 2)) ⟨[some (false, .box 2), some (false, .lst (lN ls)), some (true, .lst (tab.map tR)), some (true, lB B), some (true, .lst ((bs ++ [(b : Int)]).map .int)), some (false, .int L), some (false, .int spot), some (false, .int (0 + (i : Int))), x8], dr d ++ ρ⟩ = .nx ⟨[some (false, .box 2), some (false, .lst (lN ls)), some (true, .lst ((tab ++ [ringRow ls.length b L i]).map tR)), some (true, lB (B ++ [v])), some (true, .lst ((bs ++ [(b : Int)]).map .int)), some (false, .int L), some (false, .int spot), some (false, .int (0 + (i : Int))), x8'], dr d' ++ ρ⟩ := by
  have hgl := getI_lastI bs b
  let goal : Int := (b : Int) + (if i + 1 < L then (i : Int) + 1 else 0)
  rw [show inn (nth (inn (nth c__law_rings 1)) 2) = .cons (nth (inn (nth (inn (nth c__law_rings 1)) 2)) 0) (.cons (nth (inn (nth (inn (nth c__law_rings 1)) 2)) 1) (.cons (nth (inn (nth (inn (nth c__law_rings 1)) 2)) 2) .nil)) from rfl]
  have e0 : evS g (runI g (k + 3)) (nth (inn (nth (inn (nth c__law_rings 1)) 2)) 0) ⟨[some (false, .box 2), some (false, .lst (lN ls)), some (true, .lst (tab.map tR)), some (true, lB B), some (true, .lst ((bs ++ [(b : Int)]).map .int)), some (false, .int L), some (false, .int spot), some (false, .int (0 + (i : Int))), x8], dr d ++ ρ⟩ = .nx ⟨[some (false, .box 2), some (false, .lst (lN ls)), some (true, .lst (tab.map tR)), some (true, lB B), some (true, .lst ((bs ++ [(b : Int)]).map .int)), some (false, .int L), some (false, .int spot), some (false, .int (0 + (i : Int))), some (false, .int goal)], dr d ++ ρ⟩ := by
    by_cases hiL : i + 1 < L
    · have : (i : Int) + 1 < L := by omega
      simp only [List.map_append, List.map_cons, List.map_nil] at hgl
      simp [nth, inn, c__law_rings, hgl, this, goal, hiL]
    · have : ¬ (i : Int) + 1 < L := by omega
      simp only [List.map_append, List.map_cons, List.map_nil] at hgl
      simp [nth, inn, c__law_rings, hgl, this, goal, hiL]
  have hm := mul_tup goal ls.length hls.1 (by omega)
  have hll : (lN ls).length = ls.length := by simp [lN]
  have h1 : bmOk .append (some (.lst (tab.map tR))) = true := rfl
  have h2 : bmeth .append (.lst (tab.map tR)) [tR (List.replicate ls.length goal)] = some (.non, some (.lst (tab.map tR ++ [tR (List.replicate ls.length goal)]))) := by
    simp [bmeth, sizeL]; omega
  have e1 : evS g (runI g (k + 3)) (nth (inn (nth (inn (nth c__law_rings 1)) 2)) 1) ⟨[some (false, .box 2), some (false, .lst (lN ls)), some (true, .lst (tab.map tR)), some (true, lB B), some (true, .lst ((bs ++ [(b : Int)]).map .int)), some (false, .int L), some (false, .int spot), some (false, .int (0 + (i : Int))), some (false, .int goal)], dr d ++ ρ⟩ = .nx ⟨[some (false, .box 2), some (false, .lst (lN ls)), some (true, .lst ((tab ++ [ringRow ls.length b L i]).map tR)), some (true, lB B), some (true, .lst ((bs ++ [(b : Int)]).map .int)), some (false, .int L), some (false, .int spot), some (false, .int (0 + (i : Int))), some (false, .int goal)], dr d ++ ρ⟩ := by
    simp [nth, inn, c__law_rings, h1, h2, hll, hm, sizeL]
    rfl
  have hs : B.length < sizeL := by simp only [sizeL]; omega
  by_cases hsp : (i : Int) = spot
  · have ha := app_lB B true hs
    refine ⟨true, d, some (false, .int goal), hd, ?_⟩
    have e2 : evS g (runI g (k + 3)) (nth (inn (nth (inn (nth c__law_rings 1)) 2)) 2) ⟨[some (false, .box 2), some (false, .lst (lN ls)), some (true, .lst ((tab ++ [ringRow ls.length b L i]).map tR)), some (true, lB B), some (true, .lst ((bs ++ [(b : Int)]).map .int)), some (false, .int L), some (false, .int spot), some (false, .int (0 + (i : Int))), some (false, .int goal)], dr d ++ ρ⟩ = .nx ⟨[some (false, .box 2), some (false, .lst (lN ls)), some (true, .lst ((tab ++ [ringRow ls.length b L i]).map tR)), some (true, lB (B ++ [true])), some (true, .lst ((bs ++ [(b : Int)]).map .int)), some (false, .int L), some (false, .int spot), some (false, .int (0 + (i : Int))), some (false, .int goal)], dr d ++ ρ⟩ := by
      simp [nth, inn, c__law_rings, hsp, ha]
    rw [evSs_cons, e0, then_nx, evSs_cons, e1, then_nx, evSs_cons, e2, then_nx, evSs_nil]
  · have hc := c_tk (k + 3) (by omega) hd (a := 9) (by omega) (by omega)
    have ha := app_lB B (tkV d 9 == 0) hs
    refine ⟨(tkV d 9 == 0), tkD d 9, some (false, .int goal), tk_ok hd (by omega), ?_⟩
    have e2 : evS g (runI g (k + 3)) (nth (inn (nth (inn (nth c__law_rings 1)) 2)) 2) ⟨[some (false, .box 2), some (false, .lst (lN ls)), some (true, .lst ((tab ++ [ringRow ls.length b L i]).map tR)), some (true, lB B), some (true, .lst ((bs ++ [(b : Int)]).map .int)), some (false, .int L), some (false, .int spot), some (false, .int (0 + (i : Int))), some (false, .int goal)], dr d ++ ρ⟩ = .nx ⟨[some (false, .box 2), some (false, .lst (lN ls)), some (true, .lst ((tab ++ [ringRow ls.length b L i]).map tR)), some (true, lB (B ++ [(tkV d 9 == 0)])), some (true, .lst ((bs ++ [(b : Int)]).map .int)), some (false, .int L), some (false, .int spot), some (false, .int (0 + (i : Int))), some (false, .int goal)], dr (tkD d 9) ++ ρ⟩ := by
      have hb : ((i : Int) == spot) = false := by simpa using hsp
      simp [nth, inn, c__law_rings, hb, hc, ha]
    rw [evSs_cons, e0, then_nx, evSs_cons, e1, then_nx, evSs_cons, e2, then_nx, evSs_nil]
theorem ring_walk {k : Nat} {d : Dr} (hd : d.ok) (ρ : List Bx) {ls : List Nat} (hls : 2 ≤ ls.length ∧ ls.length ≤ 900) (tab : List (List Int)) (ht : tab.length ≤ 50000) (B : List Bool) (hB : B.length = tab.length) (bs : List Int) (L : Nat) (hL : L ≤ 1000) (spot : Int) (x7 x8 : Option (Bool × D)) :
    ∃ B' d' x7' x8', (B'.length = tab.length + L ∧ Dr.ok d') ∧ evS g (runI g (k + 3)) (nth (inn (nth c__law_rings 1)) 2) ⟨[some (false, .box 2), some (false, .lst (lN ls)), some (true, .lst (tab.map tR)), some (true, lB B), some (true, .lst ((bs ++ [(tab.length : Int)]).map .int)), some (false, .int L), some (false, .int spot), x7, x8], dr d ++ ρ⟩ = .nx ⟨[some (false, .box 2), some (false, .lst (lN ls)), some (true, .lst ((ringStep ls.length (tab, bs) L).1.map tR)), some (true, lB B'), some (true, .lst ((ringStep ls.length (tab, bs) L).2.map .int)), some (false, .int L), some (false, .int spot), x7', x8'], dr d' ++ ρ⟩ := by
  have hit := items_rng1 L (by omega) (by omega)
  simp only [Int.toNat_natCast] at hit
  obtain ⟨s', e, B', d', x7', x8', hs, h1, h2⟩ := loop_inv (t := 7) (f := evSs g (runI g (k + 3)) (inn (nth (inn (nth c__law_rings 1)) 2))) (fun i s => ∃ (B : List Bool) (d : Dr) (x7 x8 : Option (Bool × D)), s = ⟨[some (false, .box 2), some (false, .lst (lN ls)), some (true, .lst ((tab ++ (List.range i).map (ringRow ls.length tab.length L)).map tR)), some (true, lB B), some (true, .lst ((bs ++ [(tab.length : Int)]).map .int)), some (false, .int L), some (false, .int spot), x7, x8], dr d ++ ρ⟩ ∧ d.ok ∧ B.length = tab.length + i)
    ((List.range L).map fun (i : Nat) => D.int (0 + (i : Int)))
    (by
      rintro i x hx s ⟨B, d, x7, x8, rfl, hd, hl⟩
      have hi : i < L := by have := (List.getElem?_eq_some_iff.1 hx).1; simpa using this
      have hxx : x = .int (0 + (i : Int)) := by
        rw [List.getElem?_map, List.getElem?_range hi] at hx
        simpa using hx.symm
      subst hxx
      obtain ⟨v, d', x8', hd', e⟩ := ring_cell (k := k) hd ρ hls (tab ++ (List.range i).map (ringRow ls.length tab.length L)) (by simp; omega) B (by omega) bs tab.length L i hi spot x8
      refine ⟨_, e, B ++ [v], d', some (false, .int (0 + (i : Int))), x8', ?_, hd', by simp [hl]; omega⟩
      have hap : tab ++ (List.range (i + 1)).map (ringRow ls.length tab.length L) = tab ++ (List.range i).map (ringRow ls.length tab.length L) ++ [ringRow ls.length tab.length L i] := by
        simp [List.range_succ]
      rw [hap])
    ⟨[some (false, .box 2), some (false, .lst (lN ls)), some (true, .lst (tab.map tR)), some (true, lB B), some (true, .lst ((bs ++ [(tab.length : Int)]).map .int)), some (false, .int L), some (false, .int spot), x7, x8], dr d ++ ρ⟩ ⟨B, d, x7, x8, by simp, hd, by simp [hB]⟩
  simp only [List.length_map, List.length_range] at hs h2
  refine ⟨B', d', x7', x8', ⟨h2, h1⟩, ?_⟩
  rw [show nth (inn (nth c__law_rings 1)) 2 = .for_ 7 .rng1 (.cons (.var false 5) .nil) (inn (nth (inn (nth c__law_rings 1)) 2)) from rfl,
      for_run (s' := ⟨[some (false, .box 2), some (false, .lst (lN ls)), some (true, .lst (tab.map tR)), some (true, lB B), some (true, .lst ((bs ++ [(tab.length : Int)]).map .int)), some (false, .int L), some (false, .int spot), x7, x8], dr d ++ ρ⟩) (xs := [.int L]) (by simp) rfl hit, e, hs]
  rfl
theorem ring_turn {k : Nat} {d : Dr} (hd : d.ok) (ρ : List Bx) {ls : List Nat} (hls : 2 ≤ ls.length ∧ ls.length ≤ 900) (tab : List (List Int)) (ht : tab.length ≤ 50000) (B : List Bool) (hB : B.length = tab.length) (bs : List Int) (hbs : bs.length ≤ 1000) (L : Nat) (hL1 : 1 ≤ L) (hL : L ≤ 1000) (x6 x7 x8 : Option (Bool × D)) :
    ∃ B' d' x6' x7' x8', (B'.length = tab.length + L ∧ Dr.ok d') ∧ evSs g (runI g (k + 3)) (inn (nth c__law_rings 1)) ⟨[some (false, .box 2), some (false, .lst (lN ls)), some (true, .lst (tab.map tR)), some (true, lB B), some (true, .lst (bs.map .int)), some (false, .int L), x6, x7, x8], dr d ++ ρ⟩ = .nx ⟨[some (false, .box 2), some (false, .lst (lN ls)), some (true, .lst ((ringStep ls.length (tab, bs) L).1.map tR)), some (true, lB B'), some (true, .lst ((ringStep ls.length (tab, bs) L).2.map .int)), some (false, .int L), x6', x7', x8'], dr d' ++ ρ⟩ := by
  have hc := c_tk (k + 3) (by omega) hd (a := L) (by omega) (by omega)
  have hd1 := tk_ok hd (show (0 : Int) < L by omega)
  obtain ⟨B', d', x7', x8', hp, e2⟩ := ring_walk (k := k) hd1 ρ hls tab ht B hB bs L hL (tkV d L) x7 x8
  have h1 : bmOk .append (some (.lst (bs.map D.int))) = true := rfl
  have h2 : bmeth .append (.lst (bs.map D.int)) [.int tab.length] = some (.non, some (.lst ((bs ++ [(tab.length : Int)]).map .int))) := by
    simp [bmeth, sizeL]; omega
  refine ⟨B', d', some (false, .int (tkV d L)), x7', x8', hp, ?_⟩
  rw [show inn (nth c__law_rings 1) = .cons (nth (inn (nth c__law_rings 1)) 0) (.cons (nth (inn (nth c__law_rings 1)) 1) (.cons (nth (inn (nth c__law_rings 1)) 2) .nil)) from rfl]
  have e0 : evS g (runI g (k + 3)) (nth (inn (nth c__law_rings 1)) 0) ⟨[some (false, .box 2), some (false, .lst (lN ls)), some (true, .lst (tab.map tR)), some (true, lB B), some (true, .lst (bs.map .int)), some (false, .int L), x6, x7, x8], dr d ++ ρ⟩ = .nx ⟨[some (false, .box 2), some (false, .lst (lN ls)), some (true, .lst (tab.map tR)), some (true, lB B), some (true, .lst ((bs ++ [(tab.length : Int)]).map .int)), some (false, .int L), x6, x7, x8], dr d ++ ρ⟩ := by
    simp [nth, inn, c__law_rings, h1]
    simp at h2
    simp [h2]
  have e1 : evS g (runI g (k + 3)) (nth (inn (nth c__law_rings 1)) 1) ⟨[some (false, .box 2), some (false, .lst (lN ls)), some (true, .lst (tab.map tR)), some (true, lB B), some (true, .lst ((bs ++ [(tab.length : Int)]).map .int)), some (false, .int L), x6, x7, x8], dr d ++ ρ⟩ = .nx ⟨[some (false, .box 2), some (false, .lst (lN ls)), some (true, .lst (tab.map tR)), some (true, lB B), some (true, .lst ((bs ++ [(tab.length : Int)]).map .int)), some (false, .int L), some (false, .int (tkV d L)), x7, x8], dr (tkD d L) ++ ρ⟩ := by
    simp [nth, inn, c__law_rings, hc]
  rw [evSs_cons, e0, then_nx, evSs_cons, e1, then_nx, evSs_cons, e2, then_nx, evSs_nil]
theorem ringStep_len (n : Nat) (s : List (List Int) × List Int) (L : Nat) : (ringStep n s L).1.length = s.1.length + L ∧ (ringStep n s L).2.length = s.2.length + 1 := by simp [ringStep]
theorem ringFold_len (n : Nat) (ls : List Nat) : (ringFold n ls).1.length = ls.sum + 1 ∧ (ringFold n ls).2.length = ls.length := by
  have : ∀ (ls : List Nat) s, (ls.foldl (ringStep n) s).1.length = s.1.length + ls.sum ∧ (ls.foldl (ringStep n) s).2.length = s.2.length + ls.length := by
    intro ls
    induction ls with
    | nil => intro s; simp
    | cons x r ih =>
      intro s
      have h1 := ih (ringStep n s x)
      have h2 := ringStep_len n s x
      simp only [List.foldl_cons, List.sum_cons, List.length_cons]
      omega
  have h := this ls ([[]], [])
  simp only [ringFold, List.length_cons, List.length_nil] at h ⊢
  omega
theorem sum_take (ls : List Nat) (i : Nat) : (ls.take i).sum ≤ ls.sum := by
  induction ls generalizing i with
  | nil => simp
  | cons x r ih => cases i with
    | zero => simp
    | succ i => have := ih i; simp; omega
theorem rings_ok (k : Nat) {d : Dr} (hd : d.ok) {ls : List Nat} (hls : 2 ≤ ls.length ∧ ls.length ≤ 900) (hL : ∀ L ∈ ls, 1 ≤ L ∧ L ≤ 1000) (hsum : ls.sum ≤ 40000) (ρ : List Bx) :
    ∃ (B : List Bool) (d' : Dr), (B.length = (ringsT ls).length ∧ d'.ok) ∧ runI g (k + 4) (.inl 17) [.box 2, .lst (lN ls)] (dr d ++ ρ) = .ok false (dPl ((ls.length : Int) - 1) (ringsT ls) B) (dr d' ++ shut ρ) := by
  rw [run_succ _ _ 17 _ _ rfl, runF_eq _ _ _ _ _ rfl]
  have hc := c_tk (k + 3) (by omega) hd (a := 2) (by omega) (by omega)
  have hd1 := tk_ok hd (show (0 : Int) < 2 by omega)
  have e0 : evS g (runI g (k + 3)) (nth c__law_rings 0) ⟨[some (false, .box 2), some (false, .lst (lN ls)), none, none, none, none, none, none, none], dr d ++ ρ⟩ = .nx ⟨[some (false, .box 2), some (false, .lst (lN ls)), some (true, .lst (([[]] : List (List Int)).map tR)), some (true, lB [tkV d 2 == 0]), some (true, .lst (([] : List Int).map .int)), none, none, none, none], dr (tkD d 2) ++ ρ⟩ := by
    simp [nth, c__law_rings, hc, sizeL, setPar, lB, tR]
  obtain ⟨s', e, B, d', x5, x6, x7, x8, hs, h1, h2⟩ := loop_inv (t := 5) (f := evSs g (runI g (k + 3)) (inn (nth c__law_rings 1))) (fun i s => ∃ (B : List Bool) (d : Dr) (x5 x6 x7 x8 : Option (Bool × D)), s = ⟨[some (false, .box 2), some (false, .lst (lN ls)), some (true, .lst ((ringFold ls.length (ls.take i)).1.map tR)), some (true, lB B), some (true, .lst ((ringFold ls.length (ls.take i)).2.map .int)), x5, x6, x7, x8], dr d ++ ρ⟩ ∧ d.ok ∧ B.length = (ringFold ls.length (ls.take i)).1.length)
    (lN ls)
    (by
      rintro i x hx s ⟨B, d, x5, x6, x7, x8, rfl, hd, hl⟩
      rw [lN, List.getElem?_map] at hx
      obtain ⟨L, hLi, rfl⟩ := Option.map_eq_some_iff.1 hx
      have hLm := hL L (List.mem_of_getElem? hLi)
      have hfl := ringFold_len ls.length (ls.take i)
      have hst := sum_take ls i
      have htl : (ls.take i).length ≤ ls.length := by simp; omega
      obtain ⟨B', d', x6', x7', x8', ⟨hl', hd'⟩, e⟩ := ring_turn (k := k) hd ρ hls (ringFold ls.length (ls.take i)).1 (by omega) B hl (ringFold ls.length (ls.take i)).2 (by omega) L hLm.1 hLm.2 x6 x7 x8
      have hstep : ringFold ls.length (ls.take (i + 1)) = ringStep ls.length (ringFold ls.length (ls.take i)) L := by
        rw [List.take_add_one, hLi, ringFold, List.foldl_append]
        rfl
      refine ⟨_, e, B', d', some (false, .int L), x6', x7', x8', by rw [hstep], hd', ?_⟩
      rw [hstep, (ringStep_len _ _ _).1, hl'])
    ⟨[some (false, .box 2), some (false, .lst (lN ls)), some (true, .lst (([[]] : List (List Int)).map tR)), some (true, lB [tkV d 2 == 0]), some (true, .lst (([] : List Int).map .int)), none, none, none, none], dr (tkD d 2) ++ ρ⟩ ⟨[tkV d 2 == 0], tkD d 2, none, none, none, none, rfl, hd1, rfl⟩
  rw [show (lN ls).length = ls.length by simp [lN], List.take_length] at hs h2
  have e1 : evS g (runI g (k + 3)) (nth c__law_rings 1) ⟨[some (false, .box 2), some (false, .lst (lN ls)), some (true, .lst (([[]] : List (List Int)).map tR)), some (true, lB [tkV d 2 == 0]), some (true, .lst (([] : List Int).map .int)), none, none, none, none], dr (tkD d 2) ++ ρ⟩ = .nx s' := by
    rw [show nth c__law_rings 1 = .for_ 5 .seq (.cons (.var false 1) .nil) (inn (nth c__law_rings 1)) from rfl,
      for_run (s' := ⟨[some (false, .box 2), some (false, .lst (lN ls)), some (true, .lst (([[]] : List (List Int)).map tR)), some (true, lB [tkV d 2 == 0]), some (true, .lst (([] : List Int).map .int)), none, none, none, none], dr (tkD d 2) ++ ρ⟩) (xs := [.lst (lN ls)]) (by simp) rfl rfl, e]
  subst hs
  have hfl := ringFold_len ls.length ls
  have e2 : evS g (runI g (k + 3)) (nth c__law_rings 2) ⟨[some (false, .box 2), some (false, .lst (lN ls)), some (true, .lst ((ringFold ls.length ls).1.map tR)), some (true, lB B), some (true, .lst ((ringFold ls.length ls).2.map .int)), x5, x6, x7, x8], dr d' ++ ρ⟩ = .nx ⟨[some (false, .box 2), some (false, .lst (lN ls)), some (true, .lst ((ringsT ls).map tR)), some (true, lB B), some (true, .lst ((ringFold ls.length ls).2.map .int)), x5, x6, x7, x8], dr d' ++ ρ⟩ := by
    have hp : putI (.lst ((ringFold ls.length ls).1.map tR)) (.int 0) (.tup ((ringFold ls.length ls).2.map .int)) = some (.lst ((ringsT ls).map tR)) := by
      have : (0 : Int) < (ringFold ls.length ls).1.length := by omega
      simp [putI, ixN, ringsT, List.map_set]
      refine ⟨by omega, ?_⟩
      rfl
    simp [nth, c__law_rings, hp]
  refine ⟨B, d', ⟨by rw [h2, ringsT, List.length_set], h1⟩, ?_⟩
  have hll : (lN ls).length = ls.length := by simp [lN]
  rw [show (⟨2, 9, c__law_rings⟩ : Fn).body = .cons (nth c__law_rings 0) (.cons (nth c__law_rings 1) (.cons (nth c__law_rings 2) (.cons (nth c__law_rings 3) .nil))) from rfl]
  have hσ : (List.map (fun a => some (false, a)) [D.box 2, .lst (lN ls)] ++ List.replicate ((9 : Nat) - 2) none : List (Option (Bool × D))) = [some (false, .box 2), some (false, .lst (lN ls)), none, none, none, none, none, none, none] := rfl
  rw [hσ, evSs_cons, e0, then_nx, evSs_cons, e1, then_nx, evSs_cons, e2, then_nx]
  simp [nth, c__law_rings, sizeL, hll]
  rfl
end K72
end
section
set_option linter.all false
set_option maxRecDepth 100000
namespace K72
open Iv Iw
open PySem (Str)
/-! when crowds come again -/
theorem first_rep (T : List (List Int)) (n : Nat) : (∃ N j, Fst T N j ∧ N ≤ n) ∨ (∀ a b, a < b → b ≤ n → orb T a ≠ orb T b) := by
  induction n with
  | zero => right; intro a b h1 h2; omega
  | succ n ih =>
    rcases ih with ⟨N, j, h1, h2⟩ | h
    · exact .inl ⟨N, j, h1, by omega⟩
    · by_cases he : ∃ a, a < n + 1 ∧ orb T a = orb T (n + 1)
      · obtain ⟨a, h1, h2⟩ := he
        exact .inl ⟨n + 1, a, ⟨h1, h2.symm, fun x y h3 h4 => h x y h3 (by omega)⟩, by omega⟩
      · right
        intro a b h1 h2
        by_cases hb : b = n + 1
        · subst hb; exact fun e => he ⟨a, h1, e⟩
        · exact h a b h1 (by omega)
theorem rep_of {T : List (List Int)} {n i : Nat} (h : i < n) (e : orb T i = orb T n) : ∃ N j, Fst T N j ∧ N ≤ n := by
  rcases first_rep T n with h1 | h1
  · exact h1
  · exact absurd e (h1 i n h (by omega))
/-! small plans -/
def subs (a : Int) : Nat → List (List Int)
  | 0 => [[]]
  | k + 1 => subs (a + 1) k ++ (subs (a + 1) k).map (a :: ·)
theorem subs_len (a : Int) (k : Nat) : (subs a k).length = 2 ^ k := by
  induction k generalizing a with
  | zero => rfl
  | succ k ih => simp [subs, ih]; omega
theorem mem_subs (k : Nat) : ∀ (a : Int) (l : List Int), l.Pairwise (· < ·) → (∀ x ∈ l, a ≤ x ∧ x < a + k) → l ∈ subs a k := by
  induction k with
  | zero =>
    intro a l h hr
    cases l with
    | nil => simp [subs]
    | cons x r => have := hr x (by simp); omega
  | succ k ih =>
    intro a l h hr
    cases l with
    | nil => exact List.mem_append_left _ (ih (a + 1) [] (by simp) (by simp))
    | cons x r =>
      have h2 := List.pairwise_cons.1 h
      by_cases hx : x = a
      · subst hx
        refine List.mem_append_right _ (List.mem_map.2 ⟨r, ih (x + 1) r h2.2 fun y hy => ?_, rfl⟩)
        have := h2.1 y hy
        have := hr y (by simp [hy])
        omega
      · refine List.mem_append_left _ (ih (a + 1) _ h fun y hy => ?_)
        have hx2 := hr x (by simp)
        rcases List.mem_cons.1 hy with rfl | hy2
        · omega
        · have := h2.1 y hy2
          have := hr y hy
          omega
theorem nodup_sub {α : Type} [DecidableEq α] (l : List α) : ∀ L : List α, l.Nodup → (∀ x ∈ l, x ∈ L) → l.length ≤ L.length := by
  induction l with
  | nil => intro L _ _; simp
  | cons x r ih =>
    intro L h hs
    have h2 := List.nodup_cons.1 h
    have hx := hs x (by simp)
    have := ih (L.erase x) h2.2 fun y hy => by
      have : y ≠ x := fun e => h2.1 (e ▸ hy)
      exact (List.mem_erase_of_ne this).2 (hs y (by simp [hy]))
    rw [List.length_erase_of_mem hx] at this
    have := List.length_pos_of_mem hx
    simp only [List.length_cons]
    omega
theorem plan_rep {c : Int} {T : List (List Int)} {B : List Bool} (h : Pok c T B) (hT : T.length ≤ 12) : ∃ N j, Fst T N j ∧ N ≤ 5000 := by
  rcases first_rep T 4096 with ⟨N, j, h1, h2⟩ | h1
  · exact ⟨N, j, h1, by omega⟩
  · exfalso
    have hn : ((List.range 4097).map (orb T)).Nodup := by
      rw [List.nodup_iff_pairwise_ne, List.pairwise_map]
      refine List.Pairwise.imp_of_mem ?_ (List.pairwise_lt_range (n := 4097))
      intro a b ha hb hab
      exact h1 a b hab (by have := List.mem_range.1 hb; omega)
    have hs := nodup_sub _ (subs 0 12) hn (by
      intro x hx
      obtain ⟨n, _, rfl⟩ := List.mem_map.1 hx
      have hc := orb_ok h n
      exact mem_subs 12 0 _ hc.srt fun r hr => by have := hc.rng r hr; omega)
    rw [subs_len, List.length_map, List.length_range] at hs
    omega
/-! rings -/
structure Ring (T : List (List Int)) (m : Nat) (bl : List (Nat × Nat)) : Prop where
  m1 : 1 ≤ m
  z : row T 0 = bl.map fun p => (p.1 : Int)
  r : ∀ p ∈ bl, ∀ x, x < p.2 → row T ((p.1 + x : Nat) : Int) = List.replicate m ((p.1 + (x + 1) % p.2 : Nat) : Int)
  asc : bl.Pairwise fun p q => p.1 + p.2 ≤ q.1
  pos : ∀ p ∈ bl, 1 ≤ p.1 ∧ 1 ≤ p.2
def posn (bl : List (Nat × Nat)) (n : Nat) : List Int := bl.map fun p => ((p.1 + n % p.2 : Nat) : Int)
theorem insU_head {x : Int} {l : List Int} (h : ∀ y ∈ l, x < y) : insU x l = x :: l := by
  cases l with
  | nil => rfl
  | cons y r => have := h y (by simp); simp [insU, this]
theorem sortU_rep (m : Nat) (hm : 1 ≤ m) (xs : List Int) (h : xs.Pairwise (· < ·)) : sortU (xs.flatMap fun x => List.replicate m x) = xs := by
  induction xs with
  | nil => rfl
  | cons x r ih =>
    have h2 := List.pairwise_cons.1 h
    rw [List.flatMap_cons, sortU, List.foldr_append]
    rw [show List.foldr insU [] (r.flatMap fun x => List.replicate m x) = r from ih h2.2]
    clear ih
    obtain ⟨j, rfl⟩ : ∃ j, m = j + 1 := ⟨m - 1, by omega⟩
    clear hm
    induction j with
    | zero => simp [insU_head h2.1]
    | succ j ihj =>
      rw [List.replicate_succ, List.foldr_cons, ihj]
      simp [insU]
theorem sortU_self (xs : List Int) (h : xs.Pairwise (· < ·)) : sortU xs = xs := by
  have := sortU_rep 1 (by omega) xs h
  simpa using this
section
variable {T : List (List Int)} {m : Nat} {bl : List (Nat × Nat)} (h : Ring T m bl)
include h
theorem posn_asc (n : Nat) : (posn bl n).Pairwise (· < ·) := by
  rw [posn, List.pairwise_map]
  refine List.Pairwise.imp_of_mem ?_ h.asc
  intro p q hp hq hpq
  have := Nat.mod_lt n (show p.2 > 0 from (h.pos p hp).2)
  omega
theorem ring_orb (n : Nat) : orb T (n + 1) = posn bl n := by
  induction n with
  | zero =>
    show sortU (List.flatMap (row T) [0]) = _
    have h0 : posn bl 0 = bl.map fun p => (p.1 : Int) := by simp [posn]
    have := posn_asc h 0
    rw [h0] at this ⊢
    simp only [List.flatMap_cons, List.flatMap_nil, List.append_nil, h.z]
    exact sortU_self _ this
  | succ n ih =>
    show sortU (List.flatMap (row T) (orb T (n + 1))) = _
    rw [ih]
    have e : (posn bl n).flatMap (row T) = (posn bl (n + 1)).flatMap fun x => List.replicate m x := by
      simp only [posn, List.flatMap_map]
      have hr := h.r
      have hp := h.pos
      clear h ih
      induction bl with
      | nil => rfl
      | cons p r ihr =>
        have h1 := hr p (by simp) (n % p.2) (Nat.mod_lt _ (hp p (by simp)).2)
        rw [Nat.mod_add_mod] at h1
        rw [List.flatMap_cons, List.flatMap_cons, h1, ihr (fun q hq => hr q (by simp [hq])) (fun q hq => hp q (by simp [hq]))]
    rw [e]
    exact sortU_rep m h.m1 _ (posn_asc h (n + 1))
theorem ring_rep (P : Nat) (hP : 1 ≤ P) (hd : ∀ p ∈ bl, P % p.2 = 0) : ∃ N j, Fst T N j ∧ N ≤ P + 1 := by
  refine rep_of (n := P + 1) (i := 1) (by omega) ?_
  rw [ring_orb h P, show (1 : Nat) = 0 + 1 from rfl, ring_orb h 0]
  refine List.map_congr_left fun p hp => ?_
  rw [hd p hp, Nat.zero_mod]
end
/-- does the table of the rings stand? -/
def ringBl (ls : List Nat) : List (Nat × Nat) := (ls.foldl (fun (s : List (Nat × Nat) × Nat) L => (s.1 ++ [(s.2, L)], s.2 + L)) ([], 1)).1
def ringChk (ls : List Nat) : Bool :=
  let T := ringsT ls
  let n := ls.length
  let bl := ringBl ls
  decide (2 ≤ n) && decide (n ≤ 5) && decide (1 ≤ T.length) && decide (T.length ≤ 60) && T.all (fun r => decide (r.length = n) && r.all fun x => decide (0 ≤ x) && decide (x < T.length)) &&
  decide (row T 0 = bl.map fun p => (p.1 : Int)) && bl.all (fun p => (List.range p.2).all fun x => decide (row T ((p.1 + x : Nat) : Int) = List.replicate n ((p.1 + (x + 1) % p.2 : Nat) : Int))) &&
  decide (bl.Pairwise fun p q => p.1 + p.2 ≤ q.1) && bl.all (fun p => decide (1 ≤ p.1) && decide (1 ≤ p.2)) && ls.all (fun L => decide (1 ≤ L) && decide (L ≤ 1000)) && decide (ls.sum ≤ 40000)
theorem chk_ring {ls : List Nat} (h : ringChk ls = true) : Ring (ringsT ls) ls.length (ringBl ls) := by
  simp only [ringChk, Bool.and_eq_true, decide_eq_true_eq, List.all_eq_true, List.mem_range] at h
  obtain ⟨⟨⟨⟨⟨⟨⟨⟨⟨⟨h1, h2⟩, h3⟩, h4⟩, h5⟩, h6⟩, h7⟩, h8⟩, h9⟩, h10⟩, h11⟩ := h
  exact ⟨by omega, h6, h7, h8, h9⟩
theorem chk_pok {ls : List Nat} (h : ringChk ls = true) (B : List Bool) (hB : B.length = (ringsT ls).length) : Pok ((ls.length : Int) - 1) (ringsT ls) B := by
  simp only [ringChk, Bool.and_eq_true, decide_eq_true_eq, List.all_eq_true, List.mem_range] at h
  obtain ⟨⟨⟨⟨⟨⟨⟨⟨⟨⟨h1, h2⟩, h3⟩, h4⟩, h5⟩, h6⟩, h7⟩, h8⟩, h9⟩, h10⟩, h11⟩ := h
  exact ⟨by omega, by omega, h3, h4, fun r hr => by have := (h5 r hr).1; omega, fun r hr x hx => (h5 r hr).2 x hx, hB⟩
theorem chk_ls {ls : List Nat} (h : ringChk ls = true) : (2 ≤ ls.length ∧ ls.length ≤ 900) ∧ (∀ L ∈ ls, 1 ≤ L ∧ L ≤ 1000) ∧ ls.sum ≤ 40000 := by
  simp only [ringChk, Bool.and_eq_true, decide_eq_true_eq, List.all_eq_true, List.mem_range] at h
  obtain ⟨⟨⟨⟨⟨⟨⟨⟨⟨⟨h1, h2⟩, h3⟩, h4⟩, h5⟩, h6⟩, h7⟩, h8⟩, h9⟩, h10⟩, h11⟩ := h
  exact ⟨by omega, h10, h11⟩
/-- the rings of the law's laps, with a length of their way -/
def smallRings : List (List Nat) := [[2, 3], [4, 6], [5, 7, 3], [2, 3, 5, 7], [1, 8], [9, 4, 5]]
theorem small_chk : ∀ ls ∈ smallRings, ringChk ls = true ∧ ∀ p ∈ ringBl ls, 2520 % p.2 = 0 := by decide +kernel
theorem small_rep {ls : List Nat} (h : ls ∈ smallRings) : ∃ N j, Fst (ringsT ls) N j ∧ N ≤ 5000 := by
  have hs := small_chk ls h
  by_cases h8 : ∀ p ∈ ringBl ls, 2520 % p.2 = 0
  · obtain ⟨N, j, h1, h2⟩ := ring_rep (chk_ring hs.1) 2520 (by omega) h8
    exact ⟨N, j, h1, by omega⟩
  · exact absurd hs.2 h8
theorem near_chk : ringChk [4, 5, 13, 19] = true := by decide +kernel
theorem far_chk : ringChk [5, 7, 9, 16] = true := by decide +kernel
theorem near_rep : ∃ N j, Fst (ringsT [4, 5, 13, 19]) N j ∧ N ≤ 5000 := by
  obtain ⟨N, j, h1, h2⟩ := ring_rep (chk_ring near_chk) 4940 (by omega) (by decide +kernel)
  exact ⟨N, j, h1, by omega⟩
theorem far_ne : ∀ a b, a < b → b ≤ 5000 → orb (ringsT [5, 7, 9, 16]) a ≠ orb (ringsT [5, 7, 9, 16]) b := by
  have hr := chk_ring far_chk
  have hbl : ringBl [5, 7, 9, 16] = [(1, 5), (6, 7), (13, 9), (22, 16)] := rfl
  intro a b hab hb e
  obtain ⟨m, rfl⟩ : ∃ m, b = m + 1 := ⟨b - 1, by omega⟩
  rw [ring_orb hr m] at e
  cases a with
  | zero =>
    rw [hbl] at e
    simp [orb, posn] at e
  | succ n =>
    rw [ring_orb hr n, hbl] at e
    simp only [posn, List.map_cons, List.map_nil, List.cons.injEq] at e
    omega
end K72
end
section
set_option linter.all false
set_option maxRecDepth 100000
namespace K72
open Iv Iw
open PySem (Str)
/-! texts that are the same -/
theorem zip_self_all (xs : List D) (f : D → D → Bool) (h : ∀ x ∈ xs, f x x = true) : ((xs.zip xs).all fun p => f p.1 p.2) = true := by
  induction xs with
  | nil => rfl
  | cons x r ih =>
    simp only [List.zip_cons_cons, List.all_cons, h x (by simp), Bool.true_and]
    exact ih fun y hy => h y (by simp [hy])
theorem deq_refl (n : Nat) : ∀ d, okD n d = true → deq n d d = true ∧ opC.sameT n d d = true := by
  induction n with
  | zero => intro d h; cases d <;> simp_all [okD, deq, opC.sameT]
  | succ n ih =>
    intro d h
    cases d with
    | lst xs =>
      have h : ∀ x ∈ xs, okD n x = true := by simpa [okD] using h
      have h1 := zip_self_all xs (deq n) fun x hx => (ih x (h x hx)).1
      have h2 := zip_self_all xs (opC.sameT n) fun x hx => (ih x (h x hx)).2
      simp [deq, opC.sameT]
      simp at h1 h2
      exact ⟨h1, h2⟩
    | tup xs =>
      have h : ∀ x ∈ xs, okD n x = true := by simpa [okD] using h
      have h1 := zip_self_all xs (deq n) fun x hx => (ih x (h x hx)).1
      have h2 := zip_self_all xs (opC.sameT n) fun x hx => (ih x (h x hx)).2
      simp [deq, opC.sameT]
      simp at h1 h2
      exact ⟨h1, h2⟩
    | _ => simp_all [okD, deq, opC.sameT]
theorem rep_ne {d : D} (h : okD 60 d = true) : opC .ne (.rep d) (.rep d) = some false := by
  have := deq_refl 60 d h
  simp [opC, opC.repSame, h, this.1, this.2]
theorem rep_eq {d : D} (h : okD 60 d = true) : opC .eq (.rep d) (.rep d) = some true := by
  have := deq_refl 60 d h
  simp [opC, opC.repSame, h, this.1, this.2]
theorem okD_tB (n : Nat) (l : List Bool) : okD (n + 1) (tB l) = true := okD_bls n l
theorem okD_dP (n : Nat) (p : List Bool × List Bool) : okD (n + 2) (dP p) = true := by
  simp [dP, okD, tB]
theorem okD_PP (p : List Bool × List Bool) : okD 60 (.lst [dP p, dP p]) = true := by
  have := okD_dP 57 p
  simp [okD]
  exact this
theorem sz_tB (n : Nat) (l : List Bool) : szR (n + 1) (tB l) = 7 * l.length + 4 := by
  simp only [szR, tB, List.map_map]
  have : ((fun x => szR n x + 2) ∘ D.bl) = fun _ => 7 := by
    funext b
    cases n <;> rfl
  rw [this]
  have h2 : (l.map fun _ => 7).sum = 7 * l.length := by
    induction l with
    | nil => rfl
    | cons x r ih => simp only [List.map_cons, List.sum_cons, List.length_cons, ih]; omega
  omega
theorem small_tB (n : Nat) (l : List Bool) : smallI (n + 1) (tB l) = true := by
  simp [smallI, tB]
theorem repr_P (g : G) (μ : List Bx) (a : D) (p : List Bool × List Bool) (h : p.1.length + p.2.length ≤ 20000) : bfun g μ .repr [(a, .lst [dP p, dP p])] = some (false, .rep (.lst [dP p, dP p])) := by
  have h1 := okD_PP p
  have h2 : smallI 60 (.lst [dP p, dP p]) = true := by
    have a1 := small_tB 57 p.1
    have a2 := small_tB 57 p.2
    simp [smallI, dP, a1, a2]
  have h3 : szR 60 (.lst [dP p, dP p]) ≤ sizeL := by
    have a1 := sz_tB 57 p.1
    have a2 := sz_tB 57 p.2
    simp [szR, dP, a1, a2, sizeL]
    omega
  simp [h1, h2, h3, seqOf]
theorem repr_b (g : G) (μ : List Bx) (a : D) (x : Bool) : bfun g μ .repr [(a, .lst [.bl x, .bl x])] = some (false, .rep (.lst [.bl x, .bl x])) := rfl
theorem okD_b (x : Bool) : okD 60 (.lst [.bl x, .bl x]) = true := rfl
/-! what is caught -/
theorem called_exv {r : CRes} {s : S} {c : Nat} {ν : List Bx} (h : r = .ex c (shut s.μ ++ ν)) : called r s = .ex c { s with μ := s.μ ++ shut ν } := by
  simp [h, called]
  rw [Iw.leave_app _ _ _ (by simp), leave_shut]
theorem called_okv {r : CRes} {s : S} {o : Bool} {d : D} {ν : List Bx} (h : r = .ok o d (shut s.μ ++ ν)) : called r s = .ok (o, d) { s with μ := s.μ ++ shut ν } := by
  simp [h, called]
  rw [Iw.leave_app _ _ _ (by simp), leave_shut]
theorem shut_app (μ ν : List Bx) : shut (μ ++ ν) = shut μ ++ shut ν := by simp [shut]
theorem caught_ex (k : Nat) {m : Nat} {μ : List Bx} {l : Lm} {ds : List D} (hm : μ[m]? = some (.clo l ds)) {c : Nat} (hc : c = 2 ∨ c = 3) {ν : List Bx} (h : ∀ μ', shut μ' = shut μ → runI g k (.inr l) ds μ' = .ex c (shut μ' ++ ν)) : runI g (k + 1) (.inl 12) [.box m] μ = .ok false (.exc c) (shut μ ++ shut ν) := by
  rw [run_succ _ _ 12 _ _ rfl, runF_eq _ _ _ _ _ rfl]
  have hm' : (enter ⟨[some (false, .box m), some (false, .non), none], μ⟩)[m]? = some (.clo l ds) := by simp [enter, hm, seen]
  have hc' := called_exv (r := runI g k (.inr l) ds (enter ⟨[some (false, .box m), some (false, .non), none], μ⟩)) (s := ⟨[some (false, .box m), some (false, .non), none], μ⟩) (ν := ν) (by rw [h (enter ⟨[some (false, .box m), some (false, .non), none], μ⟩) (by simp), shut_enter])
  have e : evS g (runI g k) (nth c__law_caught 1) ⟨[some (false, .box m), some (false, .non), none], μ⟩ = .nx ⟨[some (false, .box m), some (false, .exc c), none], μ ++ shut ν⟩ := by
    have e1 : evSs g (runI g k) (.cons (.exp (.app 0 .nil)) .nil) ⟨[some (false, .box m), some (false, .non), none], μ⟩ = .ex c ⟨[some (false, .box m), some (false, .non), none], μ ++ shut ν⟩ := by
      simp [hm', hc']
    rw [show nth c__law_caught 1 = .try_ (.cons (.exp (.app 0 .nil)) .nil) 0 2 1 from rfl, evS_try, e1]
    rcases hc with rfl | rfl <;> simp [tSel]
  rw [show (⟨1, 3, c__law_caught⟩ : Fn).body = .cons (.asg 1 (.con .non)) (.cons (nth c__law_caught 1) (.cons (.ret (.var true 1)) .nil)) from rfl]
  simp [e, shut_app]
theorem caught_ok (k : Nat) {m : Nat} {μ : List Bx} {l : Lm} {ds : List D} (hm : μ[m]? = some (.clo l ds)) {o : Bool} {v : D} {ν : List Bx} (h : ∀ μ', shut μ' = shut μ → runI g k (.inr l) ds μ' = .ok o v (shut μ' ++ ν)) : runI g (k + 1) (.inl 12) [.box m] μ = .ok false .non (shut μ ++ shut ν) := by
  rw [run_succ _ _ 12 _ _ rfl, runF_eq _ _ _ _ _ rfl]
  have hm' : (enter ⟨[some (false, .box m), some (false, .non), none], μ⟩)[m]? = some (.clo l ds) := by simp [enter, hm, seen]
  have hc' := called_okv (r := runI g k (.inr l) ds (enter ⟨[some (false, .box m), some (false, .non), none], μ⟩)) (s := ⟨[some (false, .box m), some (false, .non), none], μ⟩) (ν := ν) (by rw [h (enter ⟨[some (false, .box m), some (false, .non), none], μ⟩) (by simp), shut_enter])
  have e : evS g (runI g k) (nth c__law_caught 1) ⟨[some (false, .box m), some (false, .non), none], μ⟩ = .nx ⟨[some (false, .box m), some (false, .non), none], μ ++ shut ν⟩ := by
    have e1 : evSs g (runI g k) (.cons (.exp (.app 0 .nil)) .nil) ⟨[some (false, .box m), some (false, .non), none], μ⟩ = .nx ⟨[some (false, .box m), some (false, .non), none], μ ++ shut ν⟩ := by
      simp [hm', hc']
    rw [show nth c__law_caught 1 = .try_ (.cons (.exp (.app 0 .nil)) .nil) 0 2 1 from rfl, evS_try, e1]
    rfl
  rw [show (⟨1, 3, c__law_caught⟩ : Fn).body = .cons (.asg 1 (.con .non)) (.cons (nth c__law_caught 1) (.cons (.ret (.var true 1)) .nil)) from rfl]
  simp [e, shut_app]
theorem run_lam (k : Nat) (l : Lm) (as : List D) (μ : List Bx) (h : as.length = l.names.length) : runI g (k + 1) (.inr l) as μ = endE (evE g (runI g k) l.body { σ := as.map fun a => some (false, a), μ := μ }) := by
  show runL g (runI g k) l as μ = _
  simp [runL, h]
end K72
end
section
set_option linter.all false
set_option maxRecDepth 100000
namespace K72
open Iv Iw
open PySem (Str)
/-! one lap of the law -/
abbrev cLap : Sms := inn (nth c_law 1)
/-- a plan whose crowds come again in time -/
def PV.good (v : PV) : Prop := v.ok ∧ ∃ N j, Fst v.2.1 N j ∧ N ≤ 5000
theorem lap_rings {k : Nat} {d : Dr} (hd : d.ok) (ρ : List Bx) (x0 x2 x3 x4 x5 x6 x7 x8 x9 x10 x11 x12 x13 x14 : Option (Bool × D)) :
    ∃ ls ∈ smallRings, ∃ d', Dr.ok d' ∧ evS g (runI g (k + 6)) (nth cLap 0) ⟨[x0, some (false, .box 2), x2, x3, x4, x5, x6, x7, x8, x9, x10, x11, x12, x13, x14], dr d ++ ρ⟩ = .nx ⟨[x0, some (false, .box 2), x2, some (false, .lst (lN ls)), x4, x5, x6, x7, x8, x9, x10, x11, x12, x13, x14], dr d' ++ ρ⟩ := by
  have hx : smallRings.map (fun ls => D.lst (lN ls)) = [.lst [.int 2, .int 3], .lst [.int 4, .int 6], .lst [.int 5, .int 7, .int 3], .lst [.int 2, .int 3, .int 5, .int 7], .lst [.int 1, .int 8], .lst [.int 9, .int 4, .int 5]] := rfl
  have hp := pk_mem hd (xs := smallRings.map (fun ls => D.lst (lN ls))) (by simp [smallRings])
  obtain ⟨ls, hls, he⟩ := List.mem_map.1 hp
  rw [hx] at he
  have hc := c_pk (k + 6) (by omega) hd (xs := [.lst [.int 2, .int 3], .lst [.int 4, .int 6], .lst [.int 5, .int 7, .int 3], .lst [.int 2, .int 3, .int 5, .int 7], .lst [.int 1, .int 8], .lst [.int 9, .int 4, .int 5]]) (by simp) (by simp)
  rw [← he] at hc
  simp only [List.length_cons, List.length_nil, Nat.zero_add, Nat.reduceAdd] at hc
  refine ⟨ls, hls, tkD d (6 : Nat), tk_ok hd (by omega), ?_⟩
  simp [cLap, nth, inn, c_law, sizeL, hc]
theorem lap_plan {k : Nat} {d : Dr} (hd : d.ok) (ρ : List Bx) {ls : List Nat} (hls : ls ∈ smallRings) (x0 x2 x4 x5 x6 x7 x8 x9 x10 x11 x12 x13 x14 : Option (Bool × D)) :
    ∃ v : PV, v.good ∧ ∃ d', Dr.ok d' ∧ evS g (runI g (k + 6)) (nth cLap 1) ⟨[x0, some (false, .box 2), x2, some (false, .lst (lN ls)), x4, x5, x6, x7, x8, x9, x10, x11, x12, x13, x14], dr d ++ ρ⟩ = .nx ⟨[x0, some (false, .box 2), x2, some (false, .lst (lN ls)), some (false, v.d), x5, x6, x7, x8, x9, x10, x11, x12, x13, x14], dr d' ++ ρ⟩ := by
  have hchk := (small_chk ls hls).1
  have hl := chk_ls hchk
  obtain ⟨v1, d1, ⟨⟨hv1, hv12⟩, hd1⟩, c1⟩ := called_drE (f := 14) (as := [.box 2, .int 12]) (k := k + 6) (o := false) (d := d) PV.d (fun v d' => (v.ok ∧ v.2.1.length ≤ 12) ∧ d'.ok) (fun ρ => plan_ok (k + 1) hd ρ) [x0, some (false, .box 2), x2, some (false, .lst (lN ls)), x4, x5, x6, x7, x8, x9, x10, x11, x12, x13, x14] ρ
  obtain ⟨B, d2, ⟨hB, hd2⟩, c2⟩ := called_drE (f := 17) (as := [.box 2, .lst (lN ls)]) (k := k + 6) (o := false) (d := d1) (fun B => dPl ((ls.length : Int) - 1) (ringsT ls) B) (fun B d' => B.length = (ringsT ls).length ∧ d'.ok) (fun ρ => rings_ok (k + 2) hd1 hl.1 hl.2.1 hl.2.2 ρ) [x0, some (false, .box 2), x2, some (false, .lst (lN ls)), x4, x5, x6, x7, x8, x9, x10, x11, x12, x13, x14] ρ
  let v2 : PV := ((ls.length : Int) - 1, ringsT ls, B)
  have hv2 : v2.good := ⟨chk_pok hchk B hB, small_rep hls⟩
  have hv1 : v1.good := ⟨hv1, plan_rep hv1 hv12⟩
  have hx : ([v1, v2] : List PV).map PV.d = [v1.d, v2.d] := rfl
  obtain ⟨v, hv, he⟩ := List.mem_map.1 (pk_mem hd2 (xs := ([v1, v2] : List PV).map PV.d) (by simp))
  have hvg : v.good := by
    simp at hv
    rcases hv with rfl | rfl
    · exact hv1
    · exact hv2
  rw [hx] at he
  have hc := c_pk (k + 6) (by omega) hd2 (xs := [v1.d, v2.d]) (by simp) (by simp)
  rw [← he] at hc
  simp only [List.length_cons, List.length_nil, Nat.zero_add, Nat.reduceAdd] at hc
  rw [show dPl ((ls.length : Int) - 1) (ringsT ls) B = v2.d from rfl] at c2
  refine ⟨v, hvg, tkD d2 (2 : Nat), tk_ok hd2 (by omega), ?_⟩
  simp [cLap, nth, inn, c_law, sizeL, hc, c1, c2]
theorem lap_make {k : Nat} (d : Dr) (ρ : List Bx) {v : PV} (hv : v.ok) (x0 x2 x3 x5 x6 x7 x8 x9 x10 x11 x12 x13 x14 : Option (Bool × D)) :
    evS g (runI g (k + 6)) (nth cLap 2) ⟨[x0, some (false, .box 2), x2, x3, some (false, v.d), x5, x6, x7, x8, x9, x10, x11, x12, x13, x14], dr d ++ ρ⟩ = .nx ⟨[x0, some (false, .box 2), x2, x3, some (false, v.d), some (false, .box (ρ.length + 3)), x6, x7, x8, x9, x10, x11, x12, x13, x14], dr d ++ (ρ ++ [mach v.1 v.2.1 v.2.2])⟩ := by
  have hm : ∀ (σ : List (Option (Bool × D))) (μ : List Bx), newI g (runI g (k + 6)) 4 [.int v.1, tT v.2.1, tB v.2.2] ⟨σ, μ⟩ = .ok (false, .box μ.length) ⟨σ, μ ++ [mach v.1 v.2.1 v.2.2]⟩ := fun σ μ => make_ok (k + 3) hv σ μ
  have hl : (dr d ++ ρ).length = ρ.length + 3 := by simp [dr]
  rw [PV.d, ← List.append_assoc, ← hl]
  generalize dr d ++ ρ = μ at *
  rw [show nth cLap 2 = .asg 5 (.make 4 (.cons (.sub (.var false 4) (.con (.int 0))) (.cons (.sub (.var false 4) (.con (.int 1))) (.cons (.sub (.var false 4) (.con (.int 2))) .nil)))) from rfl]
  simp [hm]
theorem lap_due {k : Nat} (d : Dr) (ρ : List Bx) {v : PV} (hv : v.ok) {N j : Nat} (hN : Fst v.2.1 N j) (hl : N ≤ 5000) (x0 x2 x3 x5 x6 x7 x8 x9 x10 x11 x12 x13 x14 : Option (Bool × D)) :
    evS g (runI g (k + 6)) (nth cLap 3) ⟨[x0, some (false, .box 2), x2, x3, some (false, v.d), x5, x6, x7, x8, x9, x10, x11, x12, x13, x14], dr d ++ ρ⟩ = .nx ⟨[x0, some (false, .box 2), x2, x3, some (false, v.d), x5, some (false, dP (shrt v.2.1 v.2.2 N j)), x7, x8, x9, x10, x11, x12, x13, x14], dr d ++ ρ⟩ := by
  have hc : ∀ s, called (runI g (k + 6) (.inl 15) [v.d, .int 4999] (enter s)) s = .ok (false, .tup [lB ((flags v.2.1 v.2.2 N).take j), lB ((flags v.2.1 v.2.2 N).drop j)]) s := fun s => called_same (by rw [PV.d, told_ok hv (k + 4) (enter s) hN hl, shut_enter])
  have hd : (flags v.2.1 v.2.2 N).drop j ≠ [] := by
    have := hN.lt
    intro e
    have := congrArg List.length e
    simp at this; omega
  have hs := c_ls (k + 6) (by omega) ((flags v.2.1 v.2.2 N).take j) ((flags v.2.1 v.2.2 N).drop j) hd (by have := hN.lt; simp; omega)
  have h0 : getI (.tup [lB ((flags v.2.1 v.2.2 N).take j), lB ((flags v.2.1 v.2.2 N).drop j)]) (.int 0) = some (lB ((flags v.2.1 v.2.2 N).take j)) := rfl
  have h1 : getI (.tup [lB ((flags v.2.1 v.2.2 N).take j), lB ((flags v.2.1 v.2.2 N).drop j)]) (.int 1) = some (lB ((flags v.2.1 v.2.2 N).drop j)) := rfl
  rw [show dP (shrt v.2.1 v.2.2 N j) = .tup [tB (short ((flags v.2.1 v.2.2 N).take j) ((flags v.2.1 v.2.2 N).drop j)).1, tB (short ((flags v.2.1 v.2.2 N).take j) ((flags v.2.1 v.2.2 N).drop j)).2] from rfl]
  generalize (flags v.2.1 v.2.2 N).take j = fa at *
  generalize (flags v.2.1 v.2.2 N).drop j = fb at *
  simp [cLap, nth, inn, c_law, hc, h0, h1, hs]
theorem shrt_len {T : List (List Int)} {B : List Bool} {N j : Nat} (hN : Fst T N j) (hl : N ≤ 5000) : (shrt T B N j).1.length + (shrt T B N j).2.length ≤ 20000 ∧ (shrt T B N j).2 ≠ [] := by
  have hd : (flags T B N).drop j ≠ [] := by
    have := hN.lt
    intro e
    have := congrArg List.length e
    simp at this; omega
  have hs := short_len ((flags T B N).take j) ((flags T B N).drop j) hd
  have hj := hN.lt
  unfold shrt
  simp only [List.length_take, List.length_drop, flags_len] at hs
  exact ⟨by omega, hs.2.2⟩
theorem lap_repr {k : Nat} {n : Nat} {μ : List Bx} {v : PV} (hv : v.ok) (hm : μ[n]? = some (mach v.1 v.2.1 v.2.2)) {N j : Nat} (hN : Fst v.2.1 N j) (hl : N ≤ 5000) (x0 x1 x2 x3 x4 x7 x8 x9 x10 x11 x12 x13 x14 : Option (Bool × D)) :
    evS g (runI g (k + 6)) (nth cLap 4) ⟨[x0, x1, x2, x3, x4, some (false, .box n), some (false, dP (shrt v.2.1 v.2.2 N j)), x7, x8, x9, x10, x11, x12, x13, x14], μ⟩ = .nx ⟨[x0, x1, x2, x3, x4, some (false, .box n), some (false, dP (shrt v.2.1 v.2.2 N j)), x7, x8, x9, x10, x11, x12, x13, x14], μ⟩ := by
  have hlen := (shrt_len (B := v.2.2) hN hl).1
  have hc : ∀ σ, called (runI g (k + 6) (.inl 6) [.box n] (enter ⟨σ, μ⟩)) ⟨σ, μ⟩ = .ok (false, dP (shrt v.2.1 v.2.2 N j)) ⟨σ, μ⟩ := fun σ => called_same (by rw [sizes_ok hv (k + 4) (enter_at (s := ⟨σ, μ⟩) hm) hN hl, shut_enter])
  generalize shrt v.2.1 v.2.2 N j = p at *
  have hr := repr_P g μ (.lst [dP p, dP p]) p hlen
  have hne := rep_ne (okD_PP p)
  simp only [cLap, nth, inn, c_law, evS_ite, evT_tru, asVar_cmp, evE_cmp, asVar_bcall, evE_bcall, evHs_cons, evHs_nil, asVar_lst, evE_lst, evEs_cons, evEs_nil, evE_call, evE_callK, evE_var, rVar_sel, List.getElem?_cons_succ, List.getElem?_cons_zero, rSel_f, bind_ok, hc, of_some, List.mapM_cons, List.mapM_nil]
  simp [hc, sizeL, hr, hne]
end K72
end
section
set_option linter.all false
set_option maxRecDepth 100000
namespace K72
open Iv Iw
open PySem (Str)
theorem tell_eq {k : Nat} {p : List Bool × List Bool} (hp : p.2 ≠ []) (z : Int) (h0 : 0 ≤ z) (x0 x1 x2 x3 x4 x5 x8 x9 x10 x11 x12 x13 x14 : Option (Bool × D)) (μ : List Bx) :
    evS g (runI g k) (nth (inn (nth cLap 5)) 0) ⟨[x0, x1, x2, x3, x4, x5, some (false, dP p), some (false, .int z), x8, x9, x10, x11, x12, x13, x14], μ⟩ = .nx ⟨[x0, x1, x2, x3, x4, x5, some (false, dP p), some (false, .int z), some (false, .bl (tell p z)), x9, x10, x11, x12, x13, x14], μ⟩ := by
  have hl := List.length_pos_iff.2 hp
  have hp0 : (p.2.length : Int) ≠ 0 := by omega
  have g0 : getI (dP p) (.int 0) = some (tB p.1) := rfl
  have g1 : getI (dP p) (.int 1) = some (tB p.2) := rfl
  have hh : ∀ o, hOf (o, dP p) = .val (dP p) := fun _ => rfl
  by_cases hz : z < p.1.length
  · have := get_B (B := p.1) (r := z) ⟨h0, hz⟩
    simp [cLap, nth, inn, c_law, hz, this, tell, g0, g1, hh]
  · have := get_B (B := p.2) (r := (z - p.1.length).fmod p.2.length) ⟨Int.fmod_nonneg_of_pos _ (by omega), Int.fmod_lt_of_pos _ (by omega)⟩
    have hm := mod_i (z - p.1.length) p.2.length hp0
    simp [cLap, nth, inn, c_law, hz, this, tell, g0, g1, hh, hm]
theorem size_turn {k : Nat} {n : Nat} {μ : List Bx} {v : PV} (hv : v.ok) (hm : μ[n]? = some (mach v.1 v.2.1 v.2.2)) {N j : Nat} (hN : Fst v.2.1 N j) (hl : N ≤ 5000) (z : Int) (h0 : 0 ≤ z) (h1 : z ≤ 10 ^ 60) (x0 x1 x2 x3 x4 x8 x9 x10 x11 x12 x13 x14 : Option (Bool × D)) :
    evSs g (runI g (k + 6)) (inn (nth cLap 5)) ⟨[x0, x1, x2, x3, x4, some (false, .box n), some (false, dP (shrt v.2.1 v.2.2 N j)), some (false, .int z), x8, x9, x10, x11, x12, x13, x14], μ⟩ = .nx ⟨[x0, x1, x2, x3, x4, some (false, .box n), some (false, dP (shrt v.2.1 v.2.2 N j)), some (false, .int z), some (false, .bl (tell (shrt v.2.1 v.2.2 N j) z)), x9, x10, x11, x12, x13, x14], μ⟩ := by
  have hp := (shrt_len (B := v.2.2) hN hl).2
  have hc : ∀ σ, called (runI g (k + 6) (.inl 7) [.box n, .int z] (enter ⟨σ, μ⟩)) ⟨σ, μ⟩ = .ok (false, .bl (tell (shrt v.2.1 v.2.2 N j) z)) ⟨σ, μ⟩ := fun σ => called_same (by rw [has_ok hv (k + 3) (enter_at (s := ⟨σ, μ⟩) hm) hN hl z h0 h1, shut_enter])
  have e0 := tell_eq (k := k + 6) hp z h0 x0 x1 x2 x3 x4 (some (false, .box n)) x8 x9 x10 x11 x12 x13 x14 μ
  generalize shrt v.2.1 v.2.2 N j = p at *
  have hr := repr_b g μ (.lst [.bl (tell p z), .bl (tell p z)]) (tell p z)
  have hne := rep_ne (okD_b (tell p z))
  have e1 : evS g (runI g (k + 6)) (nth (inn (nth cLap 5)) 1) ⟨[x0, x1, x2, x3, x4, some (false, .box n), some (false, dP p), some (false, .int z), some (false, .bl (tell p z)), x9, x10, x11, x12, x13, x14], μ⟩ = .nx ⟨[x0, x1, x2, x3, x4, some (false, .box n), some (false, dP p), some (false, .int z), some (false, .bl (tell p z)), x9, x10, x11, x12, x13, x14], μ⟩ := by
    simp only [cLap, nth, inn, c_law, evS_ite, evT_tru, asVar_cmp, evE_cmp, asVar_bcall, evE_bcall, evHs_cons, evHs_nil, asVar_lst, evE_lst, evEs_cons, evEs_nil, evE_call, evE_callK, evE_var, rVar_sel, List.getElem?_cons_succ, List.getElem?_cons_zero, rSel_f, bind_ok, hc, of_some, List.mapM_cons, List.mapM_nil]
    simp [hc, sizeL, hr, hne]
  rw [show inn (nth cLap 5) = .cons (nth (inn (nth cLap 5)) 0) (.cons (nth (inn (nth cLap 5)) 1) .nil) from rfl]
  rw [evSs_cons, e0, then_nx, evSs_cons, e1, then_nx, evSs_nil]
theorem lap_sizes {k : Nat} {d : Dr} (hd : d.ok) (ρ : List Bx) {n : Nat} {v : PV} (hv : v.ok) (hm : ∀ d, (dr d ++ ρ)[n]? = some (mach v.1 v.2.1 v.2.2)) {N j : Nat} (hN : Fst v.2.1 N j) (hl : N ≤ 5000) (x0 x2 x3 x4 x7 x8 x9 x10 x11 x12 x13 x14 : Option (Bool × D)) :
    ∃ d' x7' x8', Dr.ok d' ∧ evS g (runI g (k + 6)) (nth cLap 5) ⟨[x0, some (false, .box 2), x2, x3, x4, some (false, .box n), some (false, dP (shrt v.2.1 v.2.2 N j)), x7, x8, x9, x10, x11, x12, x13, x14], dr d ++ ρ⟩ = .nx ⟨[x0, some (false, .box 2), x2, x3, x4, some (false, .box n), some (false, dP (shrt v.2.1 v.2.2 N j)), x7', x8', x9, x10, x11, x12, x13, x14], dr d' ++ ρ⟩ := by
  have c1 := c_tk (k + 6) (by omega) hd (a := 900) (by omega) (by omega)
  have r1 := tk_rng hd (a := 900) (by omega)
  have hd1 := tk_ok hd (show (0 : Int) < 900 by omega)
  generalize tkD d 900 = d1 at *
  generalize tkV d 900 = v1 at *
  have c2 := c_tk (k + 6) (by omega) hd1 (a := 99) (by omega) (by omega)
  have r2 := tk_rng hd1 (a := 99) (by omega)
  have hd2 := tk_ok hd1 (show (0 : Int) < 99 by omega)
  generalize tkD d1 99 = d2 at *
  generalize tkV d1 99 = v2 at *
  let zs : List Int := [0, 1, v1, 10 ^ 60, 10 ^ 60 - v2]
  have hz : ∀ z ∈ zs, 0 ≤ z ∧ z ≤ 10 ^ 60 := by
    intro z hz
    simp only [zs, List.mem_cons, List.mem_nil_iff, or_false] at hz
    rcases hz with rfl | rfl | rfl | rfl | rfl <;> omega
  have hit : evEs g (runI g (k + 6)) (.cons (.lst (.cons (.con (.int 0)) (.cons (.con (.int 1)) (.cons (.call 10 (.cons (.var false 1) (.cons (.con (.int 900)) .nil))) (.cons (.bin .pow (.con (.int 10)) (.con (.int 60))) (.cons (.bin .sub (.bin .pow (.con (.int 10)) (.con (.int 60))) (.call 10 (.cons (.var false 1) (.cons (.con (.int 99)) .nil)))) .nil)))))) .nil) ⟨[x0, some (false, .box 2), x2, x3, x4, some (false, .box n), some (false, dP (shrt v.2.1 v.2.2 N j)), x7, x8, x9, x10, x11, x12, x13, x14], dr d ++ ρ⟩ = .ok [.lst (zs.map .int)] ⟨[x0, some (false, .box 2), x2, x3, x4, some (false, .box n), some (false, dP (shrt v.2.1 v.2.2 N j)), x7, x8, x9, x10, x11, x12, x13, x14], dr d2 ++ ρ⟩ := by
    simp [c1, c2, sizeL, zs]
  obtain ⟨s', e, x7', x8', hs⟩ := loop_inv (t := 7) (f := evSs g (runI g (k + 6)) (inn (nth cLap 5))) (fun i s => ∃ x7 x8, s = ⟨[x0, some (false, .box 2), x2, x3, x4, some (false, .box n), some (false, dP (shrt v.2.1 v.2.2 N j)), x7, x8, x9, x10, x11, x12, x13, x14], dr d2 ++ ρ⟩) (zs.map .int)
    (by
      rintro i x hx s ⟨x7, x8, rfl⟩
      obtain ⟨z, hzz, rfl⟩ := List.mem_map.1 (List.mem_of_getElem? hx)
      have hz := hz z hzz
      exact ⟨_, size_turn (k := k) hv (hm d2) hN hl z hz.1 hz.2 x0 (some (false, .box 2)) x2 x3 x4 x8 x9 x10 x11 x12 x13 x14, _, _, rfl⟩)
    ⟨[x0, some (false, .box 2), x2, x3, x4, some (false, .box n), some (false, dP (shrt v.2.1 v.2.2 N j)), x7, x8, x9, x10, x11, x12, x13, x14], dr d2 ++ ρ⟩ ⟨x7, x8, rfl⟩
  refine ⟨d2, x7', x8', hd2, ?_⟩
  rw [show nth cLap 5 = .for_ 7 .seq (.cons (.lst (.cons (.con (.int 0)) (.cons (.con (.int 1)) (.cons (.call 10 (.cons (.var false 1) (.cons (.con (.int 900)) .nil))) (.cons (.bin .pow (.con (.int 10)) (.con (.int 60))) (.cons (.bin .sub (.bin .pow (.con (.int 10)) (.con (.int 60))) (.call 10 (.cons (.var false 1) (.cons (.con (.int 99)) .nil)))) .nil)))))) .nil) (inn (nth cLap 5)) from rfl,
    for_run hit rfl rfl, e, hs]
/-- the lambda of the law -/
def lmBad : Lm := ⟨"law.<locals>.<lambda>", ["bad", "machine"], [9, 5], .call 7 (.cons (.var false 1) (.cons (.var false 0) .nil))⟩
theorem lam_bad (k n : Nat) (b : D) (hb : badSz b) (μ : List Bx) : runI g (k + 3) (.inr lmBad) [b, .box n] μ = .ex 2 (shut μ) := by
  rw [run_lam _ _ _ _ rfl]
  have hc : called (runI g (k + 2) (.inl 7) [.box n, b] (enter ⟨[some (false, b), some (false, .box n)], μ⟩)) ⟨[some (false, b), some (false, .box n)], μ⟩ = .ex 2 ⟨[some (false, b), some (false, .box n)], μ⟩ := called_ex (by rw [has_bad k n b hb, shut_enter])
  simp [lmBad, hc, endE]
theorem bad_turn {k : Nat} {n : Nat} (μ : List Bx) (b : D) (hb : badSz b) (x0 x1 x2 x3 x4 x6 x7 x8 x10 x11 x12 x13 x14 : Option (Bool × D)) :
    evSs g (runI g (k + 6)) (inn (nth cLap 6)) ⟨[x0, x1, x2, x3, x4, some (false, .box n), x6, x7, x8, some (false, b), x10, x11, x12, x13, x14], μ⟩ = .nx ⟨[x0, x1, x2, x3, x4, some (false, .box n), x6, x7, x8, some (false, b), x10, x11, x12, x13, x14], μ ++ [.lam lmBad]⟩ := by
  let s1 : S := ⟨[x0, x1, x2, x3, x4, some (false, .box n), x6, x7, x8, some (false, b), x10, x11, x12, x13, x14], μ ++ [.lam lmBad]⟩
  have hm : (enter s1)[μ.length]? = some (.clo lmBad [b, .box n]) := by
    simp [enter, s1, seen, snap, lmBad]
  have hc := caught_ex (k + 5) hm (c := 2) (.inl rfl) (ν := []) (fun μ' _ => by rw [lam_bad (k + 2) n b hb]; simp)
  have hcc : called (runI g (k + 6) (.inl 12) [.box μ.length] (enter s1)) s1 = .ok (false, .exc 2) s1 := called_same (by rw [hc, shut_enter]; simp [shut])
  have hev : evE g (runI g (k + 6)) (.lam "law.<locals>.<lambda>" ["bad", "machine"] [9, 5] (.call 7 (.cons (.var false 1) (.cons (.var false 0) .nil)))) ⟨[x0, x1, x2, x3, x4, some (false, .box n), x6, x7, x8, some (false, b), x10, x11, x12, x13, x14], μ⟩ = .ok (false, .box μ.length) s1 := rfl
  rw [show inn (nth cLap 6) = .cons (.ite (.not (.tru (.bcall .isinst (.cons (.call 12 (.cons (.lam "law.<locals>.<lambda>" ["bad", "machine"] [9, 5] (.call 7 (.cons (.var false 1) (.cons (.var false 0) .nil)))) .nil)) (.cons (.con (.cls 2)) .nil))))) (.cons (.ret (.con (.bl false))) .nil) .nil) .nil from rfl]
  have ht : bfun g s1.μ .isinst [(.exc 2, .exc 2), (.cls 2, .cls 2)] = some (false, .bl true) := rfl
  simp only [evSs_cons, evS_ite, evT_not, evT_tru, asVar_bcall, evE_bcall, evHs_cons, evHs_nil, asVar_call, evE_call, evEs_cons, evEs_nil, hev, bind_ok, hcc, hOf_exc, asVar_con, evE_con, hOf_cls, args_cons, args_nil, arg_val, Option.bind_some, ht, of_some, hOf_bl, cont_val, truth_bl, out_ok]
  simp [s1]
theorem lap_bad {k : Nat} {n : Nat} (μ : List Bx) (x0 x1 x2 x3 x4 x6 x7 x8 x9 x10 x11 x12 x13 x14 : Option (Bool × D)) :
    ∃ ν x9', evS g (runI g (k + 6)) (nth cLap 6) ⟨[x0, x1, x2, x3, x4, some (false, .box n), x6, x7, x8, x9, x10, x11, x12, x13, x14], μ⟩ = .nx ⟨[x0, x1, x2, x3, x4, some (false, .box n), x6, x7, x8, x9', x10, x11, x12, x13, x14], μ ++ ν⟩ := by
  let bs : List D := [.non, .int (-1), .int (10 ^ 60 + 1), .bl true, .str "3"]
  have hb : ∀ b ∈ bs, badSz b := by
    intro b hb
    simp only [bs, List.mem_cons, List.mem_nil_iff, or_false] at hb
    rcases hb with rfl | rfl | rfl | rfl | rfl <;> simp [badSz]
  have hit : evEs g (runI g (k + 6)) (.cons (.lst (.cons (.con .non) (.cons (.neg (.con (.int 1))) (.cons (.bin .add (.bin .pow (.con (.int 10)) (.con (.int 60))) (.con (.int 1))) (.cons (.con (.bl true)) (.cons (.con (.str "3")) .nil)))))) .nil) ⟨[x0, x1, x2, x3, x4, some (false, .box n), x6, x7, x8, x9, x10, x11, x12, x13, x14], μ⟩ = .ok [.lst bs] ⟨[x0, x1, x2, x3, x4, some (false, .box n), x6, x7, x8, x9, x10, x11, x12, x13, x14], μ⟩ := by
    simp [sizeL, bs]
  obtain ⟨s', e, ν, x9', hs⟩ := loop_inv (t := 9) (f := evSs g (runI g (k + 6)) (inn (nth cLap 6))) (fun i s => ∃ ν x9, s = ⟨[x0, x1, x2, x3, x4, some (false, .box n), x6, x7, x8, x9, x10, x11, x12, x13, x14], μ ++ ν⟩) bs
    (by
      rintro i x hx s ⟨ν, x9, rfl⟩
      have hx := hb x (List.mem_of_getElem? hx)
      exact ⟨_, bad_turn (k := k) (n := n) (μ ++ ν) x hx x0 x1 x2 x3 x4 x6 x7 x8 x10 x11 x12 x13 x14, ν ++ [.lam lmBad], some (false, x), by rw [List.append_assoc]⟩)
    ⟨[x0, x1, x2, x3, x4, some (false, .box n), x6, x7, x8, x9, x10, x11, x12, x13, x14], μ⟩ ⟨[], x9, by simp⟩
  refine ⟨ν, x9', ?_⟩
  rw [show nth cLap 6 = .for_ 9 .seq (.cons (.lst (.cons (.con .non) (.cons (.neg (.con (.int 1))) (.cons (.bin .add (.bin .pow (.con (.int 10)) (.con (.int 60))) (.con (.int 1))) (.cons (.con (.bl true)) (.cons (.con (.str "3")) .nil)))))) .nil) (inn (nth cLap 6)) from rfl,
    for_run hit rfl rfl, e, hs]
end K72
end
section
set_option linter.all false
set_option maxRecDepth 100000
namespace K72
open Iv Iw
open PySem (Str)
theorem lap_ok {k : Nat} {d : Dr} (hd : d.ok) (ρ : List Bx) (x0 x2 x3 x4 x5 x6 x7 x8 x9 x10 x11 x12 x13 x14 : Option (Bool × D)) :
    ∃ d' ρ' y3 y4 y5 y6 y7 y8 y9, Dr.ok d' ∧ evSs g (runI g (k + 6)) cLap ⟨[x0, some (false, .box 2), x2, x3, x4, x5, x6, x7, x8, x9, x10, x11, x12, x13, x14], dr d ++ ρ⟩ = .nx ⟨[x0, some (false, .box 2), x2, y3, y4, y5, y6, y7, y8, y9, x10, x11, x12, x13, x14], dr d' ++ ρ'⟩ := by
  obtain ⟨ls, hls, d1, hd1, e0⟩ := lap_rings (k := k) hd ρ x0 x2 x3 x4 x5 x6 x7 x8 x9 x10 x11 x12 x13 x14
  obtain ⟨v, ⟨hv, N, j, hN, hl⟩, d2, hd2, e1⟩ := lap_plan (k := k) hd1 ρ hls x0 x2 x4 x5 x6 x7 x8 x9 x10 x11 x12 x13 x14
  have e2 := lap_make (k := k) d2 ρ hv x0 x2 (some (false, .lst (lN ls))) x5 x6 x7 x8 x9 x10 x11 x12 x13 x14
  have e3 := lap_due (k := k) d2 (ρ ++ [mach v.1 v.2.1 v.2.2]) hv hN hl x0 x2 (some (false, .lst (lN ls))) (some (false, .box (ρ.length + 3))) x6 x7 x8 x9 x10 x11 x12 x13 x14
  have hm : ∀ d, (dr d ++ (ρ ++ [mach v.1 v.2.1 v.2.2]))[ρ.length + 3]? = some (mach v.1 v.2.1 v.2.2) := by
    intro d
    have : (dr d).length = 3 := rfl
    rw [List.getElem?_append_right (by omega), this]
    simp
  have e4 := lap_repr (k := k) hv (hm d2) hN hl x0 (some (false, .box 2)) x2 (some (false, .lst (lN ls))) (some (false, v.d)) x7 x8 x9 x10 x11 x12 x13 x14
  obtain ⟨d5, y7, y8, hd5, e5⟩ := lap_sizes (k := k) hd2 (ρ ++ [mach v.1 v.2.1 v.2.2]) hv hm hN hl x0 x2 (some (false, .lst (lN ls))) (some (false, v.d)) x7 x8 x9 x10 x11 x12 x13 x14
  obtain ⟨ν, y9, e6⟩ := lap_bad (k := k) (n := ρ.length + 3) (dr d5 ++ (ρ ++ [mach v.1 v.2.1 v.2.2])) x0 (some (false, .box 2)) x2 (some (false, .lst (lN ls))) (some (false, v.d)) (some (false, dP (shrt v.2.1 v.2.2 N j))) y7 y8 x9 x10 x11 x12 x13 x14
  rw [List.append_assoc] at e6
  refine ⟨d5, ρ ++ [mach v.1 v.2.1 v.2.2] ++ ν, some (false, .lst (lN ls)), some (false, v.d), some (false, .box (ρ.length + 3)), some (false, dP (shrt v.2.1 v.2.2 N j)), y7, y8, y9, hd5, ?_⟩
  · rw [show cLap = .cons (nth cLap 0) (.cons (nth cLap 1) (.cons (nth cLap 2) (.cons (nth cLap 3) (.cons (nth cLap 4) (.cons (nth cLap 5) (.cons (nth cLap 6) .nil)))))) from rfl]
    rw [evSs_cons, e0, then_nx, evSs_cons, e1, then_nx, evSs_cons, e2, then_nx, evSs_cons, e3, then_nx, evSs_cons, e4, then_nx, evSs_cons, e5, then_nx, evSs_cons, e6, then_nx, evSs_nil]
theorem laps_ok {k : Nat} {d : Dr} (hd : d.ok) (ns : List Int) (hn : ns.length ≤ 63) :
    ∃ d' ρ' y2 y3 y4 y5 y6 y7 y8 y9, Dr.ok d' ∧ evS g (runI g (k + 6)) (nth c_law 1) ⟨[some (false, .scr (ns.map .int)), some (false, .box 2), none, none, none, none, none, none, none, none, none, none, none, none, none], dr d⟩ = .nx ⟨[some (false, .scr (ns.map .int)), some (false, .box 2), y2, y3, y4, y5, y6, y7, y8, y9, none, none, none, none, none], dr d' ++ ρ'⟩ := by
  have hit := items_rng1 (3 + (if 5 < (ns.length : Int) then 5 else (ns.length : Int))) (by split <;> omega) (by split <;> omega)
  obtain ⟨s', e, d', ρ', y2, y3, y4, y5, y6, y7, y8, y9, hd', hs⟩ := loop_inv (t := 2) (f := evSs g (runI g (k + 6)) cLap) (fun i s => ∃ d ρ y2 y3 y4 y5 y6 y7 y8 y9, Dr.ok d ∧ s = ⟨[some (false, .scr (ns.map .int)), some (false, .box 2), y2, y3, y4, y5, y6, y7, y8, y9, none, none, none, none, none], dr d ++ ρ⟩) ((List.range (3 + (if 5 < (ns.length : Int) then 5 else (ns.length : Int))).toNat).map fun (i : Nat) => D.int (0 + (i : Int)))
    (by
      rintro i x hx s ⟨d, ρ, y2, y3, y4, y5, y6, y7, y8, y9, hd, rfl⟩
      obtain ⟨d', ρ', z3, z4, z5, z6, z7, z8, z9, hd', e⟩ := lap_ok (k := k) hd ρ (some (false, .scr (ns.map .int))) (some (false, x)) y3 y4 y5 y6 y7 y8 y9 none none none none none
      exact ⟨_, e, d', ρ', some (false, x), z3, z4, z5, z6, z7, z8, z9, hd', rfl⟩)
    ⟨[some (false, .scr (ns.map .int)), some (false, .box 2), none, none, none, none, none, none, none, none, none, none, none, none, none], dr d⟩ ⟨d, [], none, none, none, none, none, none, none, none, hd, by simp⟩
  refine ⟨d', ρ', y2, y3, y4, y5, y6, y7, y8, y9, hd', ?_⟩
  rw [show nth c_law 1 = .for_ 2 .rng1 (.cons (.bin .add (.con (.int 3)) (.bcall .min (.cons (.bcall .len (.cons (.var false 0) .nil)) (.cons (.con (.int 5)) .nil)))) .nil) cLap from rfl,
    for_run (s' := ⟨[some (false, .scr (ns.map .int)), some (false, .box 2), none, none, none, none, none, none, none, none, none, none, none, none, none], dr d⟩) (xs := [.int (3 + (if 5 < (ns.length : Int) then 5 else (ns.length : Int)))]) (by simp) rfl hit, e, hs]
/-! the far and the near -/
def mk4 : Ex := .make 4 (.cons (.sub (.var false 0) (.con (.int 0))) (.cons (.sub (.var false 0) (.con (.int 1))) (.cons (.sub (.var false 0) (.con (.int 2))) .nil)))
def lmF1 : Lm := ⟨"law.<locals>.<lambda>", ["far"], [10], .call 6 (.cons mk4 .nil)⟩
def lmF2 : Lm := ⟨"law.<locals>.<lambda>", ["far"], [10], .call 7 (.cons mk4 (.cons (.con (.int 5)) .nil))⟩
def lmN : Lm := ⟨"law.<locals>.<lambda>", ["near"], [11], .call 6 (.cons mk4 .nil)⟩
theorem mk4_ok (k : Nat) {v : PV} (hv : v.ok) (μ : List Bx) : evE g (runI g (k + 3)) mk4 ⟨[some (false, v.d)], μ⟩ = .ok (false, .box μ.length) ⟨[some (false, v.d)], μ ++ [mach v.1 v.2.1 v.2.2]⟩ := by
  have hm := make_ok k hv [some (false, v.d)] μ
  rw [PV.d] at hm ⊢
  simp [mk4, hm]
theorem has_many {c : Int} {T : List (List Int)} {B : List Bool} (h : Pok c T B) (k : Nat) {n : Nat} {μ : List Bx} (hm : μ[n]? = some (mach c T B)) (hne : ∀ a b, a < b → b ≤ 5000 → orb T a ≠ orb T b) : runI g (k + 3) (.inl 7) [.box n, .int 5] μ = .ex 3 (shut μ) := by
  rw [run_succ _ _ 7 _ _ rfl, runF_eq _ _ _ _ _ rfl]
  have e1 : called (runI g (k + 2) (.inl 6) [.box n] (enter ⟨[some (false, .box n), some (false, .int 5), none, none], μ⟩)) ⟨[some (false, .box n), some (false, .int 5), none, none], μ⟩ = .ex 3 ⟨[some (false, .box n), some (false, .int 5), none, none], μ⟩ := called_ex (by rw [sizes_many h k (enter_at hm) hne, shut_enter])
  simp [c_has_lines, e1]
theorem mach_at (μ : List Bx) (c : Int) (T : List (List Int)) (B : List Bool) : (μ ++ [mach c T B])[μ.length]? = some (mach c T B) := by simp
theorem shut_mach (μ : List Bx) (c : Int) (T : List (List Int)) (B : List Bool) : shut (μ ++ [mach c T B]) = shut μ ++ [mach c T B] := by simp [shut, mach, shutB]
theorem lam_F1 (k : Nat) {v : PV} (hv : v.ok) (hne : ∀ a b, a < b → b ≤ 5000 → orb v.2.1 a ≠ orb v.2.1 b) (μ : List Bx) : runI g (k + 5) (.inr lmF1) [v.d] μ = .ex 3 (shut μ ++ [mach v.1 v.2.1 v.2.2]) := by
  rw [run_lam _ _ _ _ rfl]
  have hm := mk4_ok (k + 1) hv μ
  have hc : called (runI g (k + 4) (.inl 6) [.box μ.length] (enter ⟨[some (false, v.d)], μ ++ [mach v.1 v.2.1 v.2.2]⟩)) ⟨[some (false, v.d)], μ ++ [mach v.1 v.2.1 v.2.2]⟩ = .ex 3 ⟨[some (false, v.d)], μ ++ [mach v.1 v.2.1 v.2.2]⟩ := called_ex (by rw [sizes_many hv (k + 2) (enter_at (mach_at _ _ _ _)) hne, shut_enter])
  show endE (evE g (runI g (k + 4)) (.call 6 (.cons mk4 .nil)) ⟨[some (false, v.d)], μ⟩) = _
  rw [evE_call, evEs_cons, hm, bind_ok, evEs_nil, bind_ok, bind_ok, hc, ← shut_mach]
  rfl
theorem lam_F2 (k : Nat) {v : PV} (hv : v.ok) (hne : ∀ a b, a < b → b ≤ 5000 → orb v.2.1 a ≠ orb v.2.1 b) (μ : List Bx) : runI g (k + 5) (.inr lmF2) [v.d] μ = .ex 3 (shut μ ++ [mach v.1 v.2.1 v.2.2]) := by
  rw [run_lam _ _ _ _ rfl]
  have hm := mk4_ok (k + 1) hv μ
  have hc : called (runI g (k + 4) (.inl 7) [.box μ.length, .int 5] (enter ⟨[some (false, v.d)], μ ++ [mach v.1 v.2.1 v.2.2]⟩)) ⟨[some (false, v.d)], μ ++ [mach v.1 v.2.1 v.2.2]⟩ = .ex 3 ⟨[some (false, v.d)], μ ++ [mach v.1 v.2.1 v.2.2]⟩ := called_ex (by rw [has_many hv (k + 1) (enter_at (mach_at _ _ _ _)) hne, shut_enter])
  show endE (evE g (runI g (k + 4)) (.call 7 (.cons mk4 (.cons (.con (.int 5)) .nil))) ⟨[some (false, v.d)], μ⟩) = _
  rw [evE_call, evEs_cons, hm, bind_ok, evEs_cons, evE_con, bind_ok, evEs_nil, bind_ok, bind_ok, bind_ok, hc, ← shut_mach]
  rfl
theorem lam_N (k : Nat) {v : PV} (hv : v.ok) {N j : Nat} (hN : Fst v.2.1 N j) (hl : N ≤ 5000) (μ : List Bx) : runI g (k + 5) (.inr lmN) [v.d] μ = .ok false (dP (shrt v.2.1 v.2.2 N j)) (shut μ ++ [mach v.1 v.2.1 v.2.2]) := by
  rw [run_lam _ _ _ _ rfl]
  have hm := mk4_ok (k + 1) hv μ
  have hc : called (runI g (k + 4) (.inl 6) [.box μ.length] (enter ⟨[some (false, v.d)], μ ++ [mach v.1 v.2.1 v.2.2]⟩)) ⟨[some (false, v.d)], μ ++ [mach v.1 v.2.1 v.2.2]⟩ = .ok (false, dP (shrt v.2.1 v.2.2 N j)) ⟨[some (false, v.d)], μ ++ [mach v.1 v.2.1 v.2.2]⟩ := called_same (by rw [sizes_ok hv (k + 2) (enter_at (mach_at _ _ _ _)) hN hl, shut_enter])
  show endE (evE g (runI g (k + 4)) (.call 6 (.cons mk4 .nil)) ⟨[some (false, v.d)], μ⟩) = _
  rw [evE_call, evEs_cons, hm, bind_ok, evEs_nil, bind_ok, bind_ok, hc, ← shut_mach]
  rfl
end K72
end
section
set_option linter.all false
set_option maxRecDepth 100000
namespace K72
open Iv Iw
open PySem (Str)
abbrev cFar : Sms := inn (nth c_law 2)
def stF (x0 x2 x3 x4 x5 x6 x7 x8 x9 x10 x11 x12 : Option (Bool × D)) : List (Option (Bool × D)) := [x0, some (false, .box 2), x2, x3, x4, x5, x6, x7, x8, x9, x10, x11, x12, none, none]
section
variable {k : Nat} (x0 x2 x3 x4 x5 x6 x7 x8 x9 : Option (Bool × D))
theorem far_make {d : Dr} (hd : d.ok) (ρ : List Bx) (x10 x11 x12 : Option (Bool × D)) :
    ∃ v : PV, (v.ok ∧ v.2.1 = ringsT [5, 7, 9, 16]) ∧ ∃ d', Dr.ok d' ∧ evS g (runI g (k + 6)) (nth cFar 0) ⟨stF x0 x2 x3 x4 x5 x6 x7 x8 x9 x10 x11 x12, dr d ++ ρ⟩ = .nx ⟨stF x0 x2 x3 x4 x5 x6 x7 x8 x9 (some (false, v.d)) x11 x12, dr d' ++ ρ⟩ := by
  have hl := chk_ls far_chk
  obtain ⟨B, d2, ⟨hB, hd2⟩, c2⟩ := called_drE (f := 17) (as := [.box 2, .lst (lN [5, 7, 9, 16])]) (k := k + 6) (o := false) (d := d) (fun B => dPl (([5, 7, 9, 16] : List Nat).length - 1) (ringsT [5, 7, 9, 16]) B) (fun B d' => B.length = (ringsT [5, 7, 9, 16]).length ∧ d'.ok) (fun ρ => rings_ok (k + 2) hd hl.1 hl.2.1 hl.2.2 ρ) (stF x0 x2 x3 x4 x5 x6 x7 x8 x9 x10 x11 x12) ρ
  refine ⟨((([5, 7, 9, 16] : List Nat).length : Int) - 1, ringsT [5, 7, 9, 16], B), ⟨chk_pok far_chk B hB, rfl⟩, d2, hd2, ?_⟩
  rw [show nth cFar 0 = .asg 10 (.call 17 (.cons (.var false 1) (.cons (.lst (.cons (.con (.int 5)) (.cons (.con (.int 7)) (.cons (.con (.int 9)) (.cons (.con (.int 16)) .nil))))) .nil))) from rfl, evS_asg, evE_call]
  have he : evEs g (runI g (k + 6)) (.cons (.var false 1) (.cons (.lst (.cons (.con (.int 5)) (.cons (.con (.int 7)) (.cons (.con (.int 9)) (.cons (.con (.int 16)) .nil))))) .nil)) ⟨stF x0 x2 x3 x4 x5 x6 x7 x8 x9 x10 x11 x12, dr d ++ ρ⟩ = .ok [.box 2, .lst (lN [5, 7, 9, 16])] ⟨stF x0 x2 x3 x4 x5 x6 x7 x8 x9 x10 x11 x12, dr d ++ ρ⟩ := by
    simp [stF, sizeL, lN]
  rw [he, bind_ok, c2]
  rfl
theorem near_make {d : Dr} (hd : d.ok) (ρ : List Bx) (x10 x11 x12 : Option (Bool × D)) :
    ∃ v : PV, (v.ok ∧ v.2.1 = ringsT [4, 5, 13, 19]) ∧ ∃ d', Dr.ok d' ∧ evS g (runI g (k + 6)) (nth cFar 1) ⟨stF x0 x2 x3 x4 x5 x6 x7 x8 x9 x10 x11 x12, dr d ++ ρ⟩ = .nx ⟨stF x0 x2 x3 x4 x5 x6 x7 x8 x9 x10 (some (false, v.d)) x12, dr d' ++ ρ⟩ := by
  have hl := chk_ls near_chk
  obtain ⟨B, d2, ⟨hB, hd2⟩, c2⟩ := called_drE (f := 17) (as := [.box 2, .lst (lN [4, 5, 13, 19])]) (k := k + 6) (o := false) (d := d) (fun B => dPl (([4, 5, 13, 19] : List Nat).length - 1) (ringsT [4, 5, 13, 19]) B) (fun B d' => B.length = (ringsT [4, 5, 13, 19]).length ∧ d'.ok) (fun ρ => rings_ok (k + 2) hd hl.1 hl.2.1 hl.2.2 ρ) (stF x0 x2 x3 x4 x5 x6 x7 x8 x9 x10 x11 x12) ρ
  refine ⟨((([4, 5, 13, 19] : List Nat).length : Int) - 1, ringsT [4, 5, 13, 19], B), ⟨chk_pok near_chk B hB, rfl⟩, d2, hd2, ?_⟩
  rw [show nth cFar 1 = .asg 11 (.call 17 (.cons (.var false 1) (.cons (.lst (.cons (.con (.int 4)) (.cons (.con (.int 5)) (.cons (.con (.int 13)) (.cons (.con (.int 19)) .nil))))) .nil))) from rfl, evS_asg, evE_call]
  have he : evEs g (runI g (k + 6)) (.cons (.var false 1) (.cons (.lst (.cons (.con (.int 4)) (.cons (.con (.int 5)) (.cons (.con (.int 13)) (.cons (.con (.int 19)) .nil))))) .nil)) ⟨stF x0 x2 x3 x4 x5 x6 x7 x8 x9 x10 x11 x12, dr d ++ ρ⟩ = .ok [.box 2, .lst (lN [4, 5, 13, 19])] ⟨stF x0 x2 x3 x4 x5 x6 x7 x8 x9 x10 x11 x12, dr d ++ ρ⟩ := by
    simp [stF, sizeL, lN]
  rw [he, bind_ok, c2]
  rfl
theorem far_works (v : PV) (μ : List Bx) (x11 : Option (Bool × D)) :
    evS g (runI g (k + 6)) (nth cFar 2) ⟨stF x0 x2 x3 x4 x5 x6 x7 x8 x9 (some (false, v.d)) x11 none, μ⟩ = .nx ⟨stF x0 x2 x3 x4 x5 x6 x7 x8 x9 (some (false, v.d)) x11 (some (true, .lst [.box μ.length])), μ ++ [.lam lmF1]⟩ := by
  rw [show nth cFar 2 = .asg 12 (.lst (.cons (.lam "law.<locals>.<lambda>" ["far"] [10] (.call 6 (.cons mk4 .nil))) .nil)) from rfl]
  have hev : evE g (runI g (k + 6)) (.lam "law.<locals>.<lambda>" ["far"] [10] (.call 6 (.cons mk4 .nil))) ⟨stF x0 x2 x3 x4 x5 x6 x7 x8 x9 (some (false, v.d)) x11 none, μ⟩ = .ok (false, .box μ.length) ⟨stF x0 x2 x3 x4 x5 x6 x7 x8 x9 (some (false, v.d)) x11 none, μ ++ [.lam lmF1]⟩ := rfl
  rw [evS_asg, evE_lst, evEs_cons, hev, bind_ok, evEs_nil, bind_ok, bind_ok]
  rfl
theorem far_works2 (v : PV) (μ : List Bx) (x11 : Option (Bool × D)) (m : Nat) :
    evS g (runI g (k + 6)) (nth cFar 3) ⟨stF x0 x2 x3 x4 x5 x6 x7 x8 x9 (some (false, v.d)) x11 (some (true, .lst [.box m])), μ⟩ = .nx ⟨stF x0 x2 x3 x4 x5 x6 x7 x8 x9 (some (false, v.d)) x11 (some (true, .lst [.box m, .box μ.length])), μ ++ [.lam lmF2]⟩ := by
  rw [show nth cFar 3 = .exp (.bm .append (.var false 12) (.cons (.lam "law.<locals>.<lambda>" ["far"] [10] (.call 7 (.cons mk4 (.cons (.con (.int 5)) .nil)))) .nil)) from rfl]
  have hev : evE g (runI g (k + 6)) (.lam "law.<locals>.<lambda>" ["far"] [10] (.call 7 (.cons mk4 (.cons (.con (.int 5)) .nil)))) ⟨stF x0 x2 x3 x4 x5 x6 x7 x8 x9 (some (false, v.d)) x11 (some (true, .lst [.box m])), μ⟩ = .ok (false, .box μ.length) ⟨stF x0 x2 x3 x4 x5 x6 x7 x8 x9 (some (false, v.d)) x11 (some (true, .lst [.box m])), μ ++ [.lam lmF2]⟩ := rfl
  rw [evS_exp, evE_bm]
  have hv : hVar 12 ⟨stF x0 x2 x3 x4 x5 x6 x7 x8 x9 (some (false, v.d)) x11 (some (true, .lst [.box m])), μ⟩ = .ok (.slot 12) ⟨stF x0 x2 x3 x4 x5 x6 x7 x8 x9 (some (false, v.d)) x11 (some (true, .lst [.box m])), μ⟩ := rfl
  have h1 : bmOk .append (some (.lst [.box m])) = true := rfl
  simp only [asVar_var]
  rw [hv, bind_ok]
  rw [evEs_cons, hev, bind_ok, evEs_nil, bind_ok, bind_ok]
  simp [stF, h1, bmeth, sizeL]
theorem far_all {v : PV} (hv : v.ok) (hne : ∀ a b, a < b → b ≤ 5000 → orb v.2.1 a ≠ orb v.2.1 b) (μ0 : List Bx) (x11 : Option (Bool × D)) :
    evS g (runI g (k + 7)) (nth cFar 4) ⟨stF x0 x2 x3 x4 x5 x6 x7 x8 x9 (some (false, v.d)) x11 (some (true, .lst [.box μ0.length, .box (μ0.length + 1)])), μ0 ++ [.lam lmF1] ++ [.lam lmF2]⟩ = .nx ⟨stF x0 x2 x3 x4 x5 x6 x7 x8 x9 (some (false, v.d)) x11 (some (false, .lst [.box μ0.length, .box (μ0.length + 1)])), μ0 ++ [.lam lmF1] ++ [.lam lmF2] ++ [mach v.1 v.2.1 v.2.2, mach v.1 v.2.1 v.2.2]⟩ := by
  let s0 : S := ⟨stF x0 x2 x3 x4 x5 x6 x7 x8 x9 (some (false, v.d)) x11 (some (false, .lst [.box μ0.length, .box (μ0.length + 1)])), μ0 ++ [.lam lmF1] ++ [.lam lmF2]⟩
  let E := enter s0
  have hE1 : E[μ0.length]? = some (.clo lmF1 [v.d]) := by
    simp [E, s0, enter, seen, snap, lmF1, stF]
  have hE2 : E[μ0.length + 1]? = some (.clo lmF2 [v.d]) := by
    have : (μ0 ++ [Bx.lam lmF1] ++ [Bx.lam lmF2])[μ0.length + 1]? = some (.lam lmF2) := by simp
    simp only [E, s0, enter, List.getElem?_map, this, Option.map_some, seen]
    simp [snap, lmF2, stF]
  let M := mach v.1 v.2.1 v.2.2
  have hM : shut [M] = [M] := rfl
  have t1 : ∀ σ, called (runI g (k + 7) (.inl 12) [.box μ0.length] (enter ⟨σ, E⟩)) ⟨σ, E⟩ = .ok (false, .exc 3) ⟨σ, E ++ [M]⟩ := by
    intro σ
    have hx : (enter ⟨σ, E⟩)[μ0.length]? = some (.clo lmF1 [v.d]) := by simp [enter, hE1, seen]
    have hc : runI g (k + 7) (.inl 12) [.box μ0.length] (enter ⟨σ, E⟩) = .ok false (.exc 3) (shut (enter ⟨σ, E⟩) ++ shut [M]) := caught_ex (k + 6) hx (c := 3) (.inr rfl) (ν := [M]) (fun μ' _ => lam_F1 (k + 1) hv hne μ')
    rw [hM] at hc
    have := called_okv (r := runI g (k + 7) (.inl 12) [.box μ0.length] (enter ⟨σ, E⟩)) (s := ⟨σ, E⟩) (o := false) (d := .exc 3) (ν := [M]) (by rw [hc, shut_enter])
    rw [this, hM]
  have t2 : ∀ σ, called (runI g (k + 7) (.inl 12) [.box (μ0.length + 1)] (enter ⟨σ, E ++ [M]⟩)) ⟨σ, E ++ [M]⟩ = .ok (false, .exc 3) ⟨σ, E ++ [M, M]⟩ := by
    intro σ
    have hx0 : (E ++ [M])[μ0.length + 1]? = some (.clo lmF2 [v.d]) := by
      have hlt : μ0.length + 1 < E.length := by simp [E, s0]
      rw [List.getElem?_append_left hlt, hE2]
    have hx : (enter ⟨σ, E ++ [M]⟩)[μ0.length + 1]? = some (.clo lmF2 [v.d]) := by
      simp only [enter, List.getElem?_map, hx0, Option.map_some, seen]
    have hc : runI g (k + 7) (.inl 12) [.box (μ0.length + 1)] (enter ⟨σ, E ++ [M]⟩) = .ok false (.exc 3) (shut (enter ⟨σ, E ++ [M]⟩) ++ shut [M]) := caught_ex (k + 6) hx (c := 3) (.inr rfl) (ν := [M]) (fun μ' _ => lam_F2 (k + 1) hv hne μ')
    rw [hM] at hc
    have := called_okv (r := runI g (k + 7) (.inl 12) [.box (μ0.length + 1)] (enter ⟨σ, E ++ [M]⟩)) (s := ⟨σ, E ++ [M]⟩) (o := false) (d := .exc 3) (ν := [M]) (by rw [hc, shut_enter])
    rw [this, hM, List.append_assoc]
    rfl
  have ht : ∀ μ, bfun g μ .isinst [(.exc 3, .exc 3), (.cls 3, .cls 3)] = some (false, .bl true) := fun μ => rfl
  have hlc : evE g (runI g (k + 7)) (.lc [13] .seq (.cons (.var false 12) .nil) 13 (.not (.tru (.bcall .isinst (.cons (.call 12 (.cons (.var false 13) .nil)) (.cons (.con (.cls 3)) .nil))))) (.con (.int 1))) ⟨stF x0 x2 x3 x4 x5 x6 x7 x8 x9 (some (false, v.d)) x11 (some (true, .lst [.box μ0.length, .box (μ0.length + 1)])), μ0 ++ [.lam lmF1] ++ [.lam lmF2]⟩ = .ok (true, .lst []) ⟨s0.σ, s0.μ ++ [M, M]⟩ := by
    rw [evE_lc]
    rw [show evEs g (runI g (k + 7)) (.cons (.var false 12) .nil) ⟨stF x0 x2 x3 x4 x5 x6 x7 x8 x9 (some (false, v.d)) x11 (some (true, .lst [.box μ0.length, .box (μ0.length + 1)])), μ0 ++ [.lam lmF1] ++ [.lam lmF2]⟩ = .ok [.lst [.box μ0.length, .box (μ0.length + 1)]] s0 from rfl, bind_ok, items_l, of_some, bind_ok]
    rw [show (⟨s0.σ, enter s0⟩ : S) = ⟨s0.σ, E⟩ from rfl]
    have u1 : evT g (runI g (k + 7)) (.not (.tru (.bcall .isinst (.cons (.call 12 (.cons (.var false 13) .nil)) (.cons (.con (.cls 3)) .nil))))) ⟨(wipe s0.σ [13]).set 13 (some (false, .box μ0.length)), E⟩ = .ok false ⟨(wipe s0.σ [13]).set 13 (some (false, .box μ0.length)), E ++ [M]⟩ := by
      simp [s0, stF, wipe, t1, ht]
    have u2 : evT g (runI g (k + 7)) (.not (.tru (.bcall .isinst (.cons (.call 12 (.cons (.var false 13) .nil)) (.cons (.con (.cls 3)) .nil))))) ⟨(wipe ((wipe s0.σ [13]).set 13 (some (false, .box μ0.length))) [13]).set 13 (some (false, .box (μ0.length + 1))), E ++ [M]⟩ = .ok false ⟨(wipe ((wipe s0.σ [13]).set 13 (some (false, .box μ0.length))) [13]).set 13 (some (false, .box (μ0.length + 1))), E ++ [M, M]⟩ := by
      simp [s0, stF, wipe, t2, ht]
    simp only [turns, u1, u2, bind_ok, Bool.false_eq_true, if_false]
    have hlv : leave s0.μ (E ++ [M, M]) = s0.μ ++ [M, M] := by
      rw [Iw.leave_app _ _ _ (by simp [E])]
      rw [show leave s0.μ E = s0.μ from leave_enter s0 s0.μ]
      rfl
    rw [hlv]
    rfl
  rw [show nth cFar 4 = .ite (.tru (.cmp .ne (.lc [13] .seq (.cons (.var false 12) .nil) 13 (.not (.tru (.bcall .isinst (.cons (.call 12 (.cons (.var false 13) .nil)) (.cons (.con (.cls 3)) .nil))))) (.con (.int 1))) (.lst .nil))) (.cons (.ret (.con (.bl false))) .nil) .nil from rfl]
  have hq : eqD (.lst []) (.lst []) = some true := rfl
  rw [evS_ite, evT_tru, asVar_cmp]
  simp only []
  rw [evE_cmp, asVar_lc]
  simp only []
  rw [hlc]
  simp [hq, sizeL]
  exact ⟨rfl, by simp [s0, M]⟩
theorem near_all {v : PV} (hv : v.ok) {N j : Nat} (hN : Fst v.2.1 N j) (hl : N ≤ 5000) (μ : List Bx) (x10 x12 : Option (Bool × D)) :
    evS g (runI g (k + 7)) (nth cFar 5) ⟨stF x0 x2 x3 x4 x5 x6 x7 x8 x9 x10 (some (false, v.d)) x12, μ⟩ = .nx ⟨stF x0 x2 x3 x4 x5 x6 x7 x8 x9 x10 (some (false, v.d)) x12, μ ++ [.lam lmN] ++ [mach v.1 v.2.1 v.2.2]⟩ := by
  let s1 : S := ⟨stF x0 x2 x3 x4 x5 x6 x7 x8 x9 x10 (some (false, v.d)) x12, μ ++ [.lam lmN]⟩
  let M := mach v.1 v.2.1 v.2.2
  have hM : shut [M] = [M] := rfl
  have hx : (enter s1)[μ.length]? = some (.clo lmN [v.d]) := by
    simp [s1, enter, seen, snap, lmN, stF]
  have hc : runI g (k + 7) (.inl 12) [.box μ.length] (enter s1) = .ok false .non (shut (enter s1) ++ shut [M]) := caught_ok (k + 6) hx (ν := [M]) (fun μ' _ => lam_N (k + 1) hv hN hl μ')
  rw [hM] at hc
  have hcc := called_okv (r := runI g (k + 7) (.inl 12) [.box μ.length] (enter s1)) (s := s1) (o := false) (d := .non) (ν := [M]) (by rw [hc, shut_enter])
  have hev : evE g (runI g (k + 7)) (.lam "law.<locals>.<lambda>" ["near"] [11] (.call 6 (.cons mk4 .nil))) ⟨stF x0 x2 x3 x4 x5 x6 x7 x8 x9 x10 (some (false, v.d)) x12, μ⟩ = .ok (false, .box μ.length) s1 := rfl
  rw [show nth cFar 5 = .ite (.tru (.cmp .isNot (.call 12 (.cons (.lam "law.<locals>.<lambda>" ["near"] [11] (.call 6 (.cons mk4 .nil))) .nil)) (.con .non))) (.cons (.ret (.con (.bl false))) .nil) .nil from rfl]
  rw [evS_ite, evT_tru, asVar_cmp]
  simp only []
  rw [evE_cmp, asVar_call]
  simp only []
  rw [evE_call, evEs_cons, hev, bind_ok, evEs_nil, bind_ok, bind_ok, hcc, hM]
  simp [Hd.self, D.isNon]
  exact ⟨rfl, by simp [s1, M]⟩
theorem far_ok {d : Dr} (hd : d.ok) (ρ : List Bx) :
    ∃ y10 y11 y12 ν, evS g (runI g (k + 7)) (nth c_law 2) ⟨stF x0 x2 x3 x4 x5 x6 x7 x8 x9 none none none, dr d ++ ρ⟩ = .nx ⟨stF x0 x2 x3 x4 x5 x6 x7 x8 x9 y10 y11 y12, ν⟩ := by
  have c1 := c_tk (k + 7) (by omega) hd (a := 5) (by omega) (by omega)
  have hd1 := tk_ok hd (show (0 : Int) < 5 by omega)
  have hcnd : evT g (runI g (k + 7)) (cnd (nth c_law 2)) ⟨stF x0 x2 x3 x4 x5 x6 x7 x8 x9 none none none, dr d ++ ρ⟩ = .ok (tkV d 5 == 0) ⟨stF x0 x2 x3 x4 x5 x6 x7 x8 x9 none none none, dr (tkD d 5) ++ ρ⟩ := by
    rw [show cnd (nth c_law 2) = .tru (.cmp .eq (.call 10 (.cons (.var false 1) (.cons (.con (.int 5)) .nil))) (.con (.int 0))) from rfl]
    simp [stF, c1]
  rw [show nth c_law 2 = .ite (cnd (nth c_law 2)) cFar .nil from rfl, evS_ite, hcnd, out_ok]
  by_cases h : (tkV d 5 == 0) = true
  · rw [if_pos h]
    obtain ⟨v, ⟨hv, hT⟩, d2, hd2, e0⟩ := far_make (k := k + 1) x0 x2 x3 x4 x5 x6 x7 x8 x9 hd1 ρ none none none
    obtain ⟨u, ⟨hu, hU⟩, d3, hd3, e1⟩ := near_make (k := k + 1) x0 x2 x3 x4 x5 x6 x7 x8 x9 hd2 ρ (some (false, v.d)) none none
    have hne : ∀ a b, a < b → b ≤ 5000 → orb v.2.1 a ≠ orb v.2.1 b := by rw [hT]; exact far_ne
    have hnr : ∃ N j, Fst u.2.1 N j ∧ N ≤ 5000 := by rw [hU]; exact near_rep
    obtain ⟨N, j, hN, hl⟩ := hnr
    have e2 := far_works (k := k + 1) x0 x2 x3 x4 x5 x6 x7 x8 x9 v (dr d3 ++ ρ) (some (false, u.d))
    have e3 := far_works2 (k := k + 1) x0 x2 x3 x4 x5 x6 x7 x8 x9 v (dr d3 ++ ρ ++ [.lam lmF1]) (some (false, u.d)) (dr d3 ++ ρ).length
    rw [show (dr d3 ++ ρ ++ [Bx.lam lmF1]).length = (dr d3 ++ ρ).length + 1 by simp; omega] at e3
    have e4 := far_all (k := k) x0 x2 x3 x4 x5 x6 x7 x8 x9 hv hne (dr d3 ++ ρ) (some (false, u.d))
    have e5 := near_all (k := k) x0 x2 x3 x4 x5 x6 x7 x8 x9 hu hN hl (dr d3 ++ ρ ++ [.lam lmF1] ++ [.lam lmF2] ++ [mach v.1 v.2.1 v.2.2, mach v.1 v.2.1 v.2.2]) (some (false, v.d)) (some (false, .lst [.box (dr d3 ++ ρ).length, .box ((dr d3 ++ ρ).length + 1)]))
    refine ⟨some (false, v.d), some (false, u.d), some (false, .lst [.box (dr d3 ++ ρ).length, .box ((dr d3 ++ ρ).length + 1)]), dr d3 ++ ρ ++ [.lam lmF1] ++ [.lam lmF2] ++ [mach v.1 v.2.1 v.2.2, mach v.1 v.2.1 v.2.2] ++ [.lam lmN] ++ [mach u.1 u.2.1 u.2.2], ?_⟩
    · rw [show cFar = .cons (nth cFar 0) (.cons (nth cFar 1) (.cons (nth cFar 2) (.cons (nth cFar 3) (.cons (nth cFar 4) (.cons (nth cFar 5) .nil))))) from rfl]
      rw [evSs_cons, e0, then_nx, evSs_cons, e1, then_nx, evSs_cons, e2, then_nx, evSs_cons, e3, then_nx, evSs_cons, e4, then_nx, evSs_cons, e5, then_nx, evSs_nil]
  · rw [if_neg h, evSs_nil]
    exact ⟨none, none, none, _, rfl⟩
/-! the end -/
def T1 : List (List Int) := [[1, 1], [2, 2], [2, 2]]
def B1 : List Bool := [false, true, false]
def T2 : List (List Int) := [[0, 0, 0]]
def B2 : List Bool := [true]
theorem p1_ok : Pok 1 T1 B1 := ⟨by decide, by decide, by decide, by decide, by decide, by decide, rfl⟩
theorem p2_ok : Pok 2 T2 B2 := ⟨by decide, by decide, by decide, by decide, by decide, by decide, rfl⟩
theorem f1 : Fst T1 3 2 := ⟨by decide, by decide +kernel, by
  intro a b h1 h2
  have : (a = 0 ∧ b = 1) ∨ (a = 0 ∧ b = 2) ∨ (a = 1 ∧ b = 2) := by omega
  rcases this with ⟨rfl, rfl⟩ | ⟨rfl, rfl⟩ | ⟨rfl, rfl⟩ <;> decide +kernel⟩
theorem f2 : Fst T2 1 0 := ⟨by decide, by decide +kernel, by intro a b h1 h2; omega⟩
theorem s1_eq : shrt T1 B1 3 2 = ([false, true], [false]) := by decide +kernel
theorem s2_eq : shrt T2 B2 1 0 = ([], [true]) := by decide +kernel
def lastD : D := .lst [dP ([false, true], [false]), dP ([], [true])]
theorem last_make (x10 x11 x12 : Option (Bool × D)) (μ : List Bx) :
    evS g (runI g (k + 7)) (nth c_law 3) ⟨stF x0 x2 x3 x4 x5 x6 x7 x8 x9 x10 x11 x12, μ⟩ = .nx ⟨[x0, some (false, .box 2), x2, x3, x4, x5, x6, x7, x8, x9, x10, x11, x12, none, some (false, .box μ.length)], μ ++ [mach 1 T1 B1]⟩ := by
  have hm := make_ok (k + 4) p1_ok (stF x0 x2 x3 x4 x5 x6 x7 x8 x9 x10 x11 x12) μ
  rw [show nth c_law 3 = .asg 14 (.make 4 (.cons (.con (.int 1)) (.cons (.tup (.cons (.tup (.cons (.con (.int 1)) (.cons (.con (.int 1)) .nil))) (.cons (.tup (.cons (.con (.int 2)) (.cons (.con (.int 2)) .nil))) (.cons (.tup (.cons (.con (.int 2)) (.cons (.con (.int 2)) .nil))) .nil)))) (.cons (.tup (.cons (.con (.bl false)) (.cons (.con (.bl true)) (.cons (.con (.bl false)) .nil)))) .nil)))) from rfl, evS_asg, evE_make]
  have he : evEs g (runI g (k + 7)) (.cons (.con (.int 1)) (.cons (.tup (.cons (.tup (.cons (.con (.int 1)) (.cons (.con (.int 1)) .nil))) (.cons (.tup (.cons (.con (.int 2)) (.cons (.con (.int 2)) .nil))) (.cons (.tup (.cons (.con (.int 2)) (.cons (.con (.int 2)) .nil))) .nil)))) (.cons (.tup (.cons (.con (.bl false)) (.cons (.con (.bl true)) (.cons (.con (.bl false)) .nil)))) .nil))) ⟨stF x0 x2 x3 x4 x5 x6 x7 x8 x9 x10 x11 x12, μ⟩ = .ok [.int 1, tT T1, tB B1] ⟨stF x0 x2 x3 x4 x5 x6 x7 x8 x9 x10 x11 x12, μ⟩ := by
    simp [sizeL, tT, tB, tR, T1, B1]
  rw [he, bind_ok, hm]
  rfl
theorem last_ret (x10 x11 x12 : Option (Bool × D)) (μ : List Bx) :
    ∃ s, evS g (runI g (k + 7)) (nth c_law 4) ⟨[x0, some (false, .box 2), x2, x3, x4, x5, x6, x7, x8, x9, x10, x11, x12, none, some (false, .box μ.length)], μ ++ [mach 1 T1 B1]⟩ = .rt false (.bl true) s := by
  let σ : List (Option (Bool × D)) := [x0, some (false, .box 2), x2, x3, x4, x5, x6, x7, x8, x9, x10, x11, x12, none, some (false, .box μ.length)]
  let μ1 := μ ++ [mach 1 T1 B1]
  let μ2 := μ1 ++ [mach 2 T2 B2]
  have c1 : called (runI g (k + 7) (.inl 6) [.box μ.length] (enter ⟨σ, μ1⟩)) ⟨σ, μ1⟩ = .ok (false, dP ([false, true], [false])) ⟨σ, μ1⟩ := called_same (by rw [sizes_ok p1_ok (k + 5) (enter_at (s := ⟨σ, μ1⟩) (mach_at _ _ _ _)) f1 (by decide), shut_enter, s1_eq])
  have c2 : called (runI g (k + 7) (.inl 6) [.box μ1.length] (enter ⟨σ, μ2⟩)) ⟨σ, μ2⟩ = .ok (false, dP ([], [true])) ⟨σ, μ2⟩ := called_same (by rw [sizes_ok p2_ok (k + 5) (enter_at (s := ⟨σ, μ2⟩) (mach_at _ _ _ _)) f2 (by decide), shut_enter, s2_eq])
  have hm : newI g (runI g (k + 7)) 4 [.int 2, tT T2, tB B2] ⟨σ, μ1⟩ = .ok (false, .box μ1.length) ⟨σ, μ2⟩ := make_ok (k + 4) p2_ok σ μ1
  have he : evEs g (runI g (k + 7)) (.cons (.con (.int 2)) (.cons (.tup (.cons (.tup (.cons (.con (.int 0)) (.cons (.con (.int 0)) (.cons (.con (.int 0)) .nil)))) .nil)) (.cons (.tup (.cons (.con (.bl true)) .nil)) .nil))) ⟨σ, μ1⟩ = .ok [.int 2, tT T2, tB B2] ⟨σ, μ1⟩ := by
    simp [sizeL, tT, tB, tR, T2, B2]
  have hr : ∀ μ a, bfun g μ .repr [(a, lastD)] = some (false, .rep lastD) := fun μ a => rfl
  have hq : opC .eq (.rep lastD) (.rep lastD) = some true := rep_eq rfl
  have e1 : evE g (runI g (k + 7)) (.lst (.cons (.call 6 (.cons (.var false 14) .nil)) (.cons (.call 6 (.cons (.make 4 (.cons (.con (.int 2)) (.cons (.tup (.cons (.tup (.cons (.con (.int 0)) (.cons (.con (.int 0)) (.cons (.con (.int 0)) .nil)))) .nil)) (.cons (.tup (.cons (.con (.bl true)) .nil)) .nil)))) .nil)) .nil))) ⟨σ, μ1⟩ = .ok (true, lastD) ⟨σ, μ2⟩ := by
    have h14 : evE g (runI g (k + 7)) (.var false 14) ⟨σ, μ1⟩ = .ok (false, .box μ.length) ⟨σ, μ1⟩ := rfl
    rw [evE_lst, evEs_cons, evE_call, evEs_cons, h14, bind_ok, evEs_nil, bind_ok, bind_ok, c1, bind_ok, evEs_cons, evE_call, evEs_cons, evE_make, he, bind_ok, hm, bind_ok, evEs_nil, bind_ok, bind_ok, c2, bind_ok, evEs_nil, bind_ok, bind_ok, bind_ok]
    rfl
  have e2 : evE g (runI g (k + 7)) (.lst (.cons (.tup (.cons (.tup (.cons (.con (.bl false)) (.cons (.con (.bl true)) .nil))) (.cons (.tup (.cons (.con (.bl false)) .nil)) .nil))) (.cons (.tup (.cons (.tup .nil) (.cons (.tup (.cons (.con (.bl true)) .nil)) .nil))) .nil))) ⟨σ, μ2⟩ = .ok (true, lastD) ⟨σ, μ2⟩ := by
    simp [sizeL, lastD, dP, tB]
  have ho : ∀ o, hOf (o, lastD) = .val lastD := fun _ => rfl
  refine ⟨⟨σ, μ2⟩, ?_⟩
  rw [show nth c_law 4 = .ret (.cmp .eq (.bcall .repr (.cons (.lst (.cons (.call 6 (.cons (.var false 14) .nil)) (.cons (.call 6 (.cons (.make 4 (.cons (.con (.int 2)) (.cons (.tup (.cons (.tup (.cons (.con (.int 0)) (.cons (.con (.int 0)) (.cons (.con (.int 0)) .nil)))) .nil)) (.cons (.tup (.cons (.con (.bl true)) .nil)) .nil)))) .nil)) .nil))) .nil)) (.bcall .repr (.cons (.lst (.cons (.tup (.cons (.tup (.cons (.con (.bl false)) (.cons (.con (.bl true)) .nil))) (.cons (.tup (.cons (.con (.bl false)) .nil)) .nil))) (.cons (.tup (.cons (.tup .nil) (.cons (.tup (.cons (.con (.bl true)) .nil)) .nil))) .nil))) .nil))) from rfl]
  simp only [evS_ret, evE_cmp, asVar_bcall, evE_bcall, evHs_cons, evHs_nil, asVar_lst]
  rw [e1]
  simp only [bind_ok, ho, args_cons, args_nil, arg_val, Option.bind_some, hr, of_some, hOf_rep]
  rw [e2]
  simp only [bind_ok, ho, args_cons, args_nil, arg_val, Option.bind_some, hr, of_some, hOf_rep, cont_val, hq, Option.map_some, out_ok]
end
theorem ev : ∀ ns : List Int, ns.length ≤ 63 → (∀ z ∈ ns, PySem.Builtin.Int.intBits z ≤ 1048576) → ∃ ow μ, Iv.runI K72.L.g 12 (.inl 18) [.scr (ns.map .int)] [] = .ok ow (.bl true) μ := by
  intro ns hn _
  show ∃ ow μ, Iv.runI g 12 (.inl 18) [.scr (ns.map .int)] [] = .ok ow (.bl true) μ
  rw [run_succ _ 11 18 _ _ rfl, runF_eq _ _ _ _ _ rfl]
  rw [show (⟨1, 15, c_law⟩ : Fn).body = .cons (nth c_law 0) (.cons (nth c_law 1) (.cons (nth c_law 2) (.cons (nth c_law 3) (.cons (nth c_law 4) .nil)))) from rfl]
  obtain ⟨d, hd, hb⟩ := begun_ok 10 ns hn
  have e0 : evS g (runI g 11) (nth c_law 0) ⟨[some (false, .scr (ns.map .int)), none, none, none, none, none, none, none, none, none, none, none, none, none, none], []⟩ = .nx ⟨[some (false, .scr (ns.map .int)), some (false, .box 2), none, none, none, none, none, none, none, none, none, none, none, none, none], dr d⟩ := by
    rw [show nth c_law 0 = .asg 1 (.call 8 (.cons (.var false 0) .nil)) from rfl]
    have hx : enter ⟨[some (false, .scr (ns.map .int)), none, none, none, none, none, none, none, none, none, none, none, none, none, none], []⟩ = [] := rfl
    simp [hx, hb, called, leave_nil]
    rfl
  obtain ⟨d1, ρ1, y2, y3, y4, y5, y6, y7, y8, y9, hd1, e1⟩ := laps_ok (k := 5) hd ns hn
  obtain ⟨y10, y11, y12, ν, e2⟩ := far_ok (k := 4) (some (false, .scr (ns.map .int))) y2 y3 y4 y5 y6 y7 y8 y9 hd1 ρ1
  have e3 := last_make (k := 4) (some (false, .scr (ns.map .int))) y2 y3 y4 y5 y6 y7 y8 y9 y10 y11 y12 ν
  obtain ⟨s, e4⟩ := last_ret (k := 4) (some (false, .scr (ns.map .int))) y2 y3 y4 y5 y6 y7 y8 y9 y10 y11 y12 ν
  refine ⟨false, shut s.μ, ?_⟩
  have hσ : (List.map (fun a => some (false, a)) [D.scr (ns.map .int)] ++ List.replicate ((15 : Nat) - 1) none : List (Option (Bool × D))) = [some (false, .scr (ns.map .int)), none, none, none, none, none, none, none, none, none, none, none, none, none, none] := rfl
  rw [hσ, evSs_cons, e0, then_nx, evSs_cons]
  rw [e1, then_nx, evSs_cons]
  rw [show (⟨[some (false, .scr (ns.map .int)), some (false, .box 2), y2, y3, y4, y5, y6, y7, y8, y9, none, none, none, none, none], dr d1 ++ ρ1⟩ : S) = ⟨stF (some (false, .scr (ns.map .int))) y2 y3 y4 y5 y6 y7 y8 y9 none none none, dr d1 ++ ρ1⟩ from rfl]
  rw [e2, then_nx, evSs_cons, e3, then_nx, evSs_cons, e4, then_rt, endS_rt]
end K72
end
section
set_option Elab.async false
set_option linter.all false
set_option maxRecDepth 100000
set_option maxHeartbeats 0
namespace K72
open PySem PySem.Spec PyProof.Rows L2 Iv
abbrev RL : PySem.W.OpenLaw := PySem.Challenge.rw_inkforall_k72_whole_sizes_that_have_line
abbrev R : PySem.W.OpenRow := PySem.W.OpenLaw.row RL
abbrev hk : PySem.W.Hook := He.hookX 6 [.glo "law"] L.defs [] L.tabs L.ex
def ob (s : PySem.W.SharedT) : He.AlX := He.obsX 6 [.glo "law"] L.defs [] L.tabs L.ex (HandSHeadRun.getT s)
theorem ob_eq (s : PySem.W.SharedT) : ob s = hk.obs s.abs := He.obsX_eq (HandSHeadRun.getT_eq s)
abbrev lo : List Str := ["_wall", "__name__", "InkError", "NoMachine", "NoNumber", "TooMany", "is_between", "MOST_PAINTS", "MOST_ROOMS", "is_table", "are_truths", "Machine", "shortest_told", "MOST_STEPS", "rooms_of_size", "sizes", "has_lines", "_law_begun", "_law_mixed", "_law_take", "_law_pick", "_law_caught", "_law_table", "_law_plan", "_law_told_sizes", "_law_shortest", "_law_rings"]
theorem run (w : World) : HandSHeadRun.RunEq R (PySem.W.view R.prog [32]) hk ob 6000 lo w := by
  intro os
  kernel_rfl
end K72
end
set_option Elab.async false
set_option linter.all false
set_option maxRecDepth 100000
set_option maxHeartbeats 0
open PySem PySem.W PySem.Calls PyProof.Rows
theorem PySem.Challenge.cw_inkforall_k72_whole_sizes_that_have_line_holds : PySem.Challenge.rw_inkforall_k72_whole_sizes_that_have_line.Holds := by
  w_on; o_law
  refine HandSHeadRun.head_any (r := K72.R) (q := view K72.R.prog [32]) (H := K72.hk) (ob := K72.ob) (M := 6000) (loose := K72.lo) (d := HandSHeadRun.topDef K72.R.prog 32) (kwd := []) K72.ob_eq
    (by kernel_rfl) (fun s => by kernel_rfl) K72.run (by kernel_rfl) (by kernel_rfl) (by kernel_rfl) (by rfl) (by first | assumption | decide +kernel) (by decide +kernel) ⟨rfl, rfl, rfl, rfl, rfl, by decide +kernel⟩ ?hw ?hc
  case hw => w_witness2
  case hc =>
    exact Iv.law_walk (l := K72.RL) (d := HandSHeadRun.topDef K72.R.prog 32) (n := 6) (k := 12) (f := 18) (L := K72.L) (i := K72.i_law) rfl (by kernel_rfl) ⟨rfl, by decide, by decide⟩ K72.ok rfl rfl rfl ⟨_, rfl⟩ K72.ev
