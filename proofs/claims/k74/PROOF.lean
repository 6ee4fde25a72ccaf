import PyProof.Rows.All
import Wide.All
import OpenK.AllK
import Wide.FinOn
import HandS.ForMost
import HandS.Wide
import HandS.WideBits
import HandS.Gcd
import HandS.IsInst
import HandS.Exc
import HandS.ExcInit
import HandS.TryMany
import HandS.TryOnly
import HandS.WordsExc
import HandS.CallSlots
import HandS.Style
import HandS.Rev
import HandS.TupMul
import HandS.TupAny
import HandS.SortInts
import HandS.Dict
import PyProof.SumAnyB
import PyProof.Rows.SumGenB
import HandS.ExcField
import HandS.Comp
import HandS.Flow
import HandS.Zip
import HandS.Zip0
import KE.GoesEnum
import KE.KRevSl
import HandS.Iter
import HandS.Conv
import HandS.Words
import KE.KStateDown
import HandS.Defaults
import HandS.Head0
import HandS.Head1
import HandS.Head2
import HandS.HeadEnd
import HandS.HeadHook1
import HandS.HeadHook2
import HandS.Head3
import PySem.Challenge.RW_realagain_k74_moments
set_option Elab.async false
set_option linter.all false
set_option maxRecDepth 100000
set_option maxHeartbeats 4000000
/-! Mp, part A: a small Python over data, without positions and without a heap but for a store of lists and dicts. -/
namespace Mp
open PySem
abbrev Key := L2.Key
inductive D where
  | non | bl (b : Bool) | int (i : Int) | str (s : Str)
  | tup (xs : List D) | lst (xs : List D) | dic (ks : List Key) (vs : List D)
  | ref (n : Nat) | ty (n : String) | exc (c : Str) (fs : List Str) (vs : List D)
instance : Inhabited D := ⟨.non⟩
mutual
def D.pure : D → Bool
  | .non => true | .bl _ => true | .int _ => true | .str _ => true | .ty _ => true
  | .tup xs => pureL xs
  | .lst xs => pureL xs
  | .dic _ vs => pureL vs
  | .ref _ => false
  | .exc _ _ vs => pureL vs
def pureL : List D → Bool
  | [] => true
  | x :: xs => x.pure && pureL xs
end
inductive O where
  | lst (xs : List D)
  | dic (ks : List Key) (vs : List D)
  /-- a dict that is being walked -/
  | lok (ks : List Key) (vs : List D)
def O.pure : O → Bool
  | .lst xs => pureL xs
  | .dic _ vs => pureL vs
  | .lok _ _ => false
abbrev Store := List O
inductive R (α : Type) where
  | ok (a : α) (S : Store)
  | exc (c : Str) (fs : List Str) (vs : List D) (S : Store)
  | bad
def R.bind {α β : Type} (r : R α) (f : α → Store → R β) : R β :=
  match r with
  | .ok a S => f a S
  | .exc c fs vs S => .exc c fs vs S
  | .bad => .bad
@[simp] theorem R.bind_ok {α β : Type} (a : α) (S : Store) (f : α → Store → R β) : (R.ok a S).bind f = f a S := Eq.trans rfl rfl
@[simp] theorem R.bind_bad {α β : Type} (f : α → Store → R β) : (R.bad : R α).bind f = .bad := Eq.trans rfl rfl
@[simp] theorem R.bind_exc {α β : Type} (c : Str) (fs : List Str) (vs : List D) (S : Store) (f : α → Store → R β) : (R.exc c fs vs S : R α).bind f = .exc c fs vs S := Eq.trans rfl rfl
/-! ### what operations give -/
def line : Nat := 16777216
def alloc (fz : Bool) (xs : List D) (S : Store) : R D := if fz then .ok (.lst xs) S else .ok (.ref S.length) (S ++ [.lst xs])
/-- the items of a list -/
def lstOf (S : Store) : D → Option (List D)
  | .lst xs => some xs
  | .ref n => match S[n]? with | some (.lst xs) => some xs | _ => none
  | _ => none
/-- of a list or a tuple -/
def seqOf (S : Store) : D → Option (List D)
  | .tup xs => some xs
  | d => lstOf S d
def mulOk (i j : Int) : Bool := decide (Builtin.Int.intBits i + Builtin.Int.intBits j ≤ 134217728)
def divOk (i j : Int) : Bool := decide (j ≠ 0) && !(Builtin.divisionGoesByPylong i j)
def powOk (i j : Int) : Bool := decide (0 ≤ j) && decide (j ≤ 1000000) && decide (i.natAbs < 2 ^ 64)
def binI (op : Operator) (i j : Int) (S : Store) : R D :=
  match op with
  | .Add => .ok (.int (i + j)) S
  | .Sub => .ok (.int (i - j)) S
  | .Mult => if mulOk i j then .ok (.int (i * j)) S else .bad
  | .FloorDiv => if divOk i j then .ok (.int (i.fdiv j)) S else .bad
  | .Mod => if j = 0 then .bad else .ok (.int (i.fmod j)) S
  | .Pow => if powOk i j then .ok (.int (i ^ j.toNat)) S else .bad
  | .LShift => if powOk i j then .ok (.int (i * 2 ^ j.toNat)) S else .bad
  | .RShift => if 0 ≤ j then .ok (.int (i / 2 ^ j.toNat)) S else .bad
  | .BitAnd => .ok (.int (Builtin.bitAnd i j)) S
  | .BitOr => .ok (.int (Builtin.bitOr i j)) S
  | .BitXor => .ok (.int (Builtin.bitXor i j)) S
  | _ => .bad
def repL (xs : List D) (k : Nat) : List D := (List.replicate k xs).flatten
/-- other operands: texts, tuples, lists -/
def binO (op : Operator) (fz : Bool) (a b : D) (S : Store) : R D :=
  match op with
  | .Add =>
    match a with
    | .str x => match b with | .str y => if x.length + y.length ≤ line then .ok (.str (x ++ y)) S else .bad | _ => .bad
    | .tup x => match b with | .tup y => if x.length + y.length ≤ line then .ok (.tup (x ++ y)) S else .bad | _ => .bad
    | _ => match lstOf S a with
      | some x => match lstOf S b with | some y => if x.length + y.length ≤ line then alloc fz (x ++ y) S else .bad | none => .bad
      | none => .bad
  | .Mult =>
    match b with
    | .int k => match a with
      | .tup x => if -(2 ^ 63) ≤ k ∧ k ≤ 1000 ∧ x.length ≤ 1000 then .ok (.tup (repL x k.toNat)) S else .bad
      | _ => match lstOf S a with
        | some x => if -(2 ^ 63) ≤ k ∧ k < 2 ^ 63 ∧ x.length * k.toNat ≤ line then alloc fz (repL x k.toNat) S else .bad
        | none => .bad
    | _ => .bad
  | _ => .bad
def binop (op : Operator) (fz : Bool) (a b : D) (S : Store) : R D :=
  match a, b with
  | .int i, .int j => binI op i j S
  | a, b => binO op fz a b S
mutual
/-- data without references, for == -/
def toPy : D → Option PyData
  | .non => some .none
  | .bl b => some (.bool b)
  | .int i => some (.int i)
  | .str s => some (.str s)
  | .tup xs => (toPyL xs).map .tuple
  | .lst xs => (toPyL xs).map .list
  | _ => none
def toPyL : List D → Option (List PyData)
  | [] => some []
  | x :: xs => match toPy x with
    | some d => match toPyL xs with
      | some ds => some (d :: ds)
      | none => none
    | none => none
end
def toPyS (S : Store) : D → Option PyData
  | .ref n => match S[n]? with | some (.lst xs) => (toPyL xs).map .list | _ => none
  | d => toPy d
def shp (d : PyData) : Bool := SeqAt.shaped d
/-- the kinds of data that == and != always tell apart or compare by themselves -/
def eqD (S : Store) (a b : D) : Option Bool :=
  match toPyS S a with
  | some x => match toPyS S b with
    | some y => if shp x && shp y then some (PyData.eqv x y) else none
    | none => none
  | none => none
def flat : D → Bool
  | .non => true | .bl _ => true | .int _ => true | .str _ => true
  | _ => false
/-- == of flat things -/
def eqF : D → D → Bool
  | .non, .non => true
  | .bl a, .bl b => a == b
  | .bl a, .int j => (if a then 1 else 0) == j
  | .int i, .bl b => i == (if b then 1 else 0)
  | .int i, .int j => i == j
  | .str x, .str y => x == y
  | _, _ => false
def keyOf : D → Option Key
  | .int i => some (.inl i)
  | .str s => some (.inr s)
  | _ => none
def keyD : Key → D
  | .inl i => .int i
  | .inr s => .str s
def dicOf (S : Store) : D → Option (List Key × List D)
  | .dic ks vs => some (ks, vs)
  | .ref n => match S[n]? with | some (.dic ks vs) => some (ks, vs) | some (.lok ks vs) => some (ks, vs) | _ => none
  | _ => none
def findK (k : Key) : List Key → List D → Option D
  | [], _ => none
  | _, [] => none
  | q :: ks, v :: vs => if q = k then some v else findK k ks vs
def inop (S : Store) (a b : D) : Option Bool :=
  match b with
  | .str y => match a with | .str x => some (!(Builtin.Str.occurrences y x 0 y.length 1).isEmpty) | _ => none
  | _ => match seqOf S b with
    | some ys => if flat a && ys.all flat then some (ys.any fun z => eqF z a) else none
    | none => match dicOf S b with
      | some (ks, vs) => match keyOf a with | some k => some (findK k ks vs).isSome | none => none
      | none => none
def cmpI (op : CmpOp) (i j : Int) : Option Bool :=
  match op with
  | .Eq => some (decide (i = j))
  | .NotEq => some (!decide (i = j))
  | .Lt => some (decide (i < j))
  | .LtE => some (decide (i ≤ j))
  | .Gt => some (decide (j < i))
  | .GtE => some (decide (j ≤ i))
  | _ => none
def isNon : D → Bool | .non => true | _ => false
def cmpO (op : CmpOp) (a b : D) (S : Store) : Option Bool :=
  match op with
  | .Is => match b with
    | .non => some (isNon a)
    | .bl y => match a with | .bl x => some (decide (x = y)) | _ => none
    | _ => none
  | .IsNot => match b with
    | .non => some (!isNon a)
    | _ => none
  | .Eq => eqD S a b
  | .NotEq => (eqD S a b).map not
  | .In => inop S a b
  | .NotIn => (inop S a b).map not
  | .Lt => match a with
    | .str x => match b with | .str y => some (decide (x.cps.toList < y.cps.toList)) | _ => none
    | _ => none
  | _ => none
def cmpop (op : CmpOp) (a b : D) (S : Store) : Option Bool :=
  match a, b with
  | .int i, .int j => cmpI op i j
  | a, b => cmpO op a b S
/-- truth -/
def truth (S : Store) : D → Option Bool
  | .non => some false
  | .bl b => some b
  | .int i => some (i != 0)
  | .str s => if s.length ≤ line then some ((s.length : Int) != 0) else none
  | .tup xs => some (!xs.isEmpty)
  | .lst xs => some (!xs.isEmpty)
  | .ref n => match S[n]? with | some (.lst xs) => some (!xs.isEmpty) | _ => none
  | _ => none
def tyName : D → Store → String
  | .non, _ => "NoneType" | .bl _, _ => "bool" | .int _, _ => "int" | .str _, _ => "str"
  | .tup _, _ => "tuple" | .lst _, _ => "list" | .dic _ _, _ => "dict"
  | .ref n, S => match S[n]? with | some (.lst _) => "list" | some (.dic _ _) => "dict" | some (.lok _ _) => "dict" | _ => "?"
  | _, _ => "?"
def isOne (t n : String) : Bool := n == t || (t == "bool" && n == "int")
def knownTy (n : String) : Bool := n == "int" || n == "bool" || n == "str" || n == "tuple" || n == "list" || n == "dict"
def isinst (S : Store) (x c : D) : Option Bool :=
  let t := tyName x S
  if t == "?" then none else
  match c with
  | .ty n => if knownTy n then some (isOne t n) else none
  | .tup [.ty n, .ty m] => if knownTy n && knownTy m then some (isOne t n || isOne t m) else none
  | _ => none
def sumI : List D → Option Int
  | [] => some 0
  | .int i :: r => match sumI r with | some s => some (i + s) | none => none
  | .bl b :: r => match sumI r with | some s => some ((if b = true then 1 else 0) + s) | none => none
  | _ => none
def allB : List D → Option Bool
  | [] => some true
  | .bl b :: r => match allB r with | some s => some (b && s) | none => none
  | _ => none
def anyB : List D → Option Bool
  | [] => some false
  | .bl b :: r => match anyB r with | some s => some (b || s) | none => none
  | _ => none
def intsOf : List D → Option (List Int)
  | [] => some []
  | .int i :: r => match intsOf r with | some s => some (i :: s) | none => none
  | _ => none
def maxI : List Int → Option Int
  | [] => none
  | i :: r => some (r.foldl (fun m x => if x > m then x else m) i)
def minI : List Int → Option Int
  | [] => none
  | i :: r => some (r.foldl (fun m x => if x < m then x else m) i)
/-- ascending -/
def insI (x : Int) : List Int → List Int
  | [] => [x]
  | y :: r => if x ≤ y then x :: y :: r else y :: insI x r
def sortI : List Int → List Int
  | [] => []
  | x :: r => insI x (sortI r)
inductive BI where
  | len | abs | int | sum | all | any | max | min | sorted | tuple | list | isinst | gcd | str | dict
  deriving DecidableEq
def lenOf (S : Store) : D → Option Nat
  | .str s => if s.length ≤ line then some s.length else none
  | .dic ks _ => some ks.length
  | .ref n => match S[n]? with | some (.lst xs) => some xs.length | some (.dic ks _) => some ks.length | some (.lok ks _) => some ks.length | none => none
  | .tup xs => some xs.length
  | .lst xs => some xs.length
  | _ => none
/-- pairs of a key and a value -/
def pairsOf : List D → Option (List Key × List D)
  | [] => some ([], [])
  | .tup [k, v] :: r => match keyOf k with
    | some q => match pairsOf r with | some (ks, vs) => some (q :: ks, v :: vs) | none => none
    | none => none
  | _ => none
def dicR (fz : Bool) (ks : List Key) (vs : List D) (S : Store) : R D := if ks.Nodup then (if fz then .ok (.dic ks vs) S else .ok (.ref S.length) (S ++ [.dic ks vs])) else .bad
def blt1 (b : BI) (fz : Bool) (x : D) (S : Store) : R D :=
  match b with
  | .len => match lenOf S x with | some n => .ok (.int n) S | none => .bad
  | .abs => match x with | .int i => .ok (.int (if i < 0 then -i else i)) S | _ => .bad
  | .int => match x with | .int i => .ok (.int i) S | .bl b => .ok (.int (PyProof.Rows.b2i b)) S | _ => .bad
  | .sum => match lstOf S x with
    | some xs => match sumI xs with | some s => .ok (.int s) S | none => .bad
    | none => .bad
  | .all => match lstOf S x with
    | some xs => match allB xs with | some s => .ok (.bl s) S | none => .bad
    | none => .bad
  | .any => match lstOf S x with
    | some xs => match anyB xs with | some s => .ok (.bl s) S | none => .bad
    | none => .bad
  | .max => match lstOf S x with
    | some xs => match intsOf xs with
      | some is => match maxI is with | some m => .ok (.int m) S | none => .bad
      | none => .bad
    | none => .bad
  | .min => match lstOf S x with
    | some xs => match intsOf xs with
      | some is => match minI is with | some m => .ok (.int m) S | none => .bad
      | none => .bad
    | none => .bad
  | .sorted => match lstOf S x with
    | some xs => match intsOf xs with
      | some is => alloc fz ((sortI is).map .int) S
      | none => .bad
    | none => .bad
  | .tuple => match seqOf S x with | some xs => .ok (.tup xs) S | none => .bad
  | .list => match seqOf S x with | some xs => alloc fz xs S | none => .bad
  | .dict => match lstOf S x with
    | some xs => match pairsOf xs with | some (ks, vs) => dicR fz ks vs S | none => .bad
    | none => .bad
  | .str => match x with | .int i => if i.natAbs.log2 < 1920 then .ok (.str (Str.ofString (toString i))) S else .bad | _ => .bad
  | _ => .bad
def int2 (f : Int → Int → Int) (x y : D) (S : Store) : R D :=
  match x, y with
  | .int i, .int j => .ok (.int (f i j)) S
  | _, _ => .bad
def blt2 (b : BI) (x y : D) (S : Store) : R D :=
  match b with
  | .isinst => match isinst S x y with | some r => .ok (.bl r) S | none => .bad
  | .max => int2 (fun i j => if j > i then j else i) x y S
  | .min => int2 (fun i j => if j < i then j else i) x y S
  | .gcd => int2 (fun i j => ((Nat.gcd i.natAbs j.natAbs : Nat) : Int)) x y S
  | _ => .bad
def blt (b : BI) (fz : Bool) (as : List D) (S : Store) : R D :=
  match as with
  | [x] => blt1 b fz x S
  | [x, y] => blt2 b x y S
  | _ => .bad
inductive MT where
  | append | pop | extend | insert | reverse | get
  deriving DecidableEq
def methL (m : MT) (n : Nat) (xs : List D) (as : List D) (S : Store) : R D :=
  match m with
  | .append => match as with | [x] => if xs.length < line then .ok .non (S.set n (.lst (xs ++ [x]))) else .bad | _ => .bad
  | .pop => match as with
    | [] => match xs[xs.length - 1]? with | some y => .ok y (S.set n (.lst xs.dropLast)) | none => .bad
    | [.int i] => if -(2 ^ 63) ≤ i ∧ i < 2 ^ 63 then (match seqIndex? i xs.length with
      | some k => match xs[k]? with | some y => .ok y (S.set n (.lst (xs.eraseIdx k))) | none => .bad
      | none => .bad) else .bad
    | _ => .bad
  | .reverse => match as with | [] => .ok .non (S.set n (.lst xs.reverse)) | _ => .bad
  | .extend => match as with
    | [d] => match lstOf S d with | some ys => if xs.length + ys.length ≤ line then .ok .non (S.set n (.lst (xs ++ ys))) else .bad | none => .bad
    | _ => .bad
  | _ => .bad
def meth (m : MT) (o : D) (as : List D) (S : Store) : R D :=
  match o with
  | .ref n => match S[n]? with
    | some (.lst xs) => methL m n xs as S
    | _ => .bad
  | _ => .bad
/-- a[i] -/
def ixStr (s : Str) : D → Option D
  | .int k => if s.length ≤ line then (match L2.atI s.cps.toList k with | some c => some (.str ⟨#[c]⟩) | none => none) else none
  | _ => none
def ixSeq (xs : List D) : D → Option D
  | .int k => L2.atI xs k
  | _ => none
def ixDic (ks : List Key) (vs : List D) (i : D) : Option D := match keyOf i with | some k => findK k ks vs | none => none
def ixAny (S : Store) (a i : D) : Option D :=
  match dicOf S a with
  | some (ks, vs) => ixDic ks vs i
  | none => match seqOf S a with
    | some xs => ixSeq xs i
    | none => none
def ixop (a i : D) (S : Store) : Option D :=
  match a with
  | .str s => ixStr s i
  | a => ixAny S a i
def putK (k : Key) (v : D) (ks : List Key) (vs : List D) : List Key × List D :=
  if (ks.any fun q => decide (q = k)) = true then (ks, List.zipWith (fun q w => if q = k then v else w) ks vs) else (ks ++ [k], vs ++ [v])
/-- o[i] = v -/
def setop (o i v : D) (S : Store) : Option Store :=
  match o with
  | .ref n => match S[n]? with
    | some (.lst xs) => match i with
      | .int k => match L2.ixN xs.length k with | some j => some (S.set n (.lst (xs.set j v))) | none => none
      | _ => none
    | some (.dic ks vs) => match keyOf i with
      | some k => if ks.length < line then (let r := putK k v ks vs; some (S.set n (.dic r.1 r.2))) else none
      | none => none
    | _ => none
  | _ => none
def cutD (xs : List D) (lo hi : Option Int) : List D := (xs.drop (HT.sIx xs.length 0 lo)).take (HT.sIx xs.length xs.length hi - HT.sIx xs.length 0 lo)
/-! ### the trees -/
mutual
inductive E where
  | v (i : Nat)
  | k (c : D)
  | kty (n : String)
  | tup (es : Es)
  | lst (fz : Bool) (es : Es)
  | bin (op : Operator) (fz : Bool) (a b : E)
  | neg (a : E)
  | bnot (a : E)
  | band (es : Es)
  | bor (es : Es)
  | cmp (op : CmpOp) (a b : E)
  | chain (op op' : CmpOp) (a b c : E)
  | ife (c a b : E)
  | call (f : Str) (es : Es) (ks : List Str) (kes : Es)
  | blt (b : BI) (fz : Bool) (es : Es)
  | meth (m : MT) (o : E) (es : Es)
  | ix (a i : E)
  | sl (fz : Bool) (a : E) (lo hi : Es)
  | rev (fz : Bool) (a : E)
  | fld (i : Nat) (f : Str) (cs : List Str)
  | dic (fz : Bool) (ks : List Key) (es : Es)
  | gk (x : Str) (c : D)
  | lrng (fz : Bool) (es : Es)
  | comp (fz : Bool) (vs : List Nat) (t : T) (it : I) (cond : Es) (rest : Cl)
  /-- e, while the dict in slot i is locked -/
  | lockd (i : Nat) (e : E)
inductive Es where
  | nil
  | cons (e : E) (es : Es)
inductive Cl where
  | elt (e : E)
  | each (vs : List Nat) (t : T) (it : I) (cond : Es)  (e : E)
inductive I where
  | e (e : E)
  | rng (es : Es)
  | enum (e : E)
  | zip (a b : E)
  | revd (e : E)
inductive T where
  | n (i : Nat)
  | t (ts : Ts)
  | s (o i : E)
inductive Ts where
  | nil
  | cons (t : T) (ts : Ts)
end
mutual
inductive S where
  | asg (t : T) (e : E)
  | aug (i : Nat) (op : Operator) (fz : Bool) (e : E)
  | augs (o i : E) (op : Operator) (e : E)
  | ex (e : E)
  | ret (e : E)
  | retN
  | ife (c : E) (a b : Ss)
  | each (t : T) (it : I) (b : Ss)
  | loop (c : E) (b : Ss)
  | brk | cnt | pass
  | raise (c : Str) (es : Es)
  | tri (b : Ss) (cs : List Str) (hs : Hs)
inductive Ss where
  | nil
  | cons (s : S) (ss : Ss)
inductive Hs where
  | nil
  | cons (c : Str) (i : Option Nat) (b : Ss) (hs : Hs)
end
/-- a def: how many parameters and names it has; whole: it runs on the caller's store; fz: a list that it makes and gives back is done with -/
structure Fn where
  np : Nat
  ns : Nat
  whole : Bool
  fz : Bool
  body : Ss
/-! ### what they mean -/
abbrev Env := List (Option D)
/-- arguments by place and by name, in the parameters' order -/
def lookS {α : Type} (p : Str) : List Str → List α → Option α
  | k :: ks, y :: ys => if k = p then some y else lookS p ks ys
  | _, _ => none
def pick {α : Type} (ks : List Str) (ys : List α) : List Str → Option (List α)
  | [] => some []
  | p :: ps => match lookS p ks ys with
    | some y => match pick ks ys ps with | some r => some (y :: r) | none => none
    | none => none
def arr {α : Type} (ps : List Str) (xs : List α) (ks : List Str) (ys : List α) : Option (List α) :=
  if xs.length + ks.length = ps.length ∧ ys.length = ks.length then (match pick ks ys (ps.drop xs.length) with | some r => some (xs ++ r) | none => none) else none
abbrev Phi := Str → List D → List Str → List D → Store → R D
def wipe (ρ : Env) : List Nat → Env
  | [] => ρ
  | v :: vs => (wipe ρ vs).set v none
/-- what a for walks: items that stand, or a list that may change -/
inductive Src where
  | items (xs : List D)
  | live (n : Nat)
def rngL (lo : Int) (n : Nat) : List D := (List.range n).map fun i => .int (lo + (i : Nat))
def rngC (lo c : Int) (n : Nat) : List D := (List.range n).map fun i => .int (lo + (i : Nat) * c)
def rng3 (i j c : Int) : Option (List D) :=
  if c ≠ 0 ∧ c.natAbs < 1073741824 ∧ Builtin.Range.small i j c = true ∧ 0 ≤ Builtin.Range.rangeSize i j c ∧ Builtin.Range.rangeSize i j c ≤ (line : Int) then some (rngC i c (Builtin.Range.rangeSize i j c).toNat) else none
def rngOf (as : List D) : Option (List D) :=
  match as with
  | [.int j] => if -(2 ^ 62) ≤ j ∧ j ≤ (line : Int) then some (rngL 0 j.toNat) else none
  | [.int i, .int j] => if -(2 ^ 62) ≤ i ∧ i < 2 ^ 62 ∧ -(2 ^ 62) ≤ j ∧ j < 2 ^ 62 ∧ j - i ≤ (line : Int) then some (rngL i (j - i).toNat) else none
  | [.int i, .int j, .int c] => rng3 i j c
  | _ => none
def enumL : Nat → List D → List D
  | _, [] => []
  | i, x :: xs => .tup [.int (i : Nat), x] :: enumL (i + 1) xs
def zipL : List D → List D → List D
  | x :: xs, y :: ys => .tup [x, y] :: zipL xs ys
  | _, _ => []
/-- the elements of a comprehension's clause -/
def eachR (f : D → Store → R (List D)) : List D → Store → R (List D)
  | [], S => .ok [] S
  | x :: xs, S => (f x S).bind fun ys S1 => (eachR f xs S1).bind fun zs S2 => .ok (ys ++ zs) S2
def noExc {α : Type} (r : R α) : R α := match r with | .ok a S => .ok a S | _ => .bad
/-- over a list that may change -/
def liveR (f : D → Store → R (List D)) (n : Nat) : Nat → Nat → Store → R (List D)
  | 0, i, S => match lstOf S (.ref n) with | some xs => if xs.length ≤ i then .ok [] S else .bad | none => .bad
  | m + 1, i, S => match lstOf S (.ref n) with
    | some xs => match xs[i]? with
      | some x => (f x S).bind fun ys S1 => (liveR f n m (i + 1) S1).bind fun zs S2 => .ok (ys ++ zs) S2
      | none => .ok [] S
    | none => .bad
def srcR (f : D → Store → R (List D)) (src : Src) (S : Store) : R (List D) :=
  match src with
  | .items xs => eachR f xs S
  | .live n => match lstOf S (.ref n) with | some xs => liveR f n xs.length 0 S | none => .bad
/-- a place's value -/
def part (as : List D) : Option (Option Int) :=
  match as with
  | [] => some none
  | [.int i] => some (some i)
  | _ => none
def slAny (fz : Bool) (a : D) (lo hi : Option Int) (S : Store) : R D := match lstOf S a with | some xs => alloc fz (cutD xs lo hi) S | none => .bad
def slop (fz : Bool) (a : D) (lo hi : Option Int) (S : Store) : R D :=
  match a with
  | .str s => if s.length ≤ line then .ok (.str (L2.cutS s lo hi)) S else .bad
  | .tup xs => .ok (.tup (cutD xs lo hi)) S
  | a => slAny fz a lo hi S
def revAny (fz : Bool) (a : D) (S : Store) : R D := match lstOf S a with | some xs => alloc fz xs.reverse S | none => .bad
def revop (fz : Bool) (a : D) (S : Store) : R D := match a with | .tup xs => .ok (.tup xs.reverse) S | a => revAny fz a S
/-- the field that an own class keeps its argument in -/
def fldN (c : Str) : Str := if c = Str.ofString "TooMany" then Str.ofString "number" else if c = Str.ofString "Taken" ∨ c = Str.ofString "NoName" then Str.ofString "name" else Str.ofString "given"
def fldop (d : D) (f : Str) (cs : List Str) : Option D :=
  match d with
  | .exc c [g] [v] => if cs.contains c = true ∧ g = f then some v else none
  | _ => none
def ofO (o : Option Bool) (S : Store) : R D := match o with | some b => .ok (.bl b) S | none => .bad
def ofD (o : Option D) (S : Store) : R D := match o with | some b => .ok b S | none => .bad
def ofB (o : Option Bool) (S : Store) : R Bool := match o with | some b => .ok b S | none => .bad
def testR (r : R D) : R Bool := r.bind fun d S => ofB (truth S d) S
def keysOf (ks : List Key) : Option Src := if ks.length ≤ line then some (.items (ks.map keyD)) else none
def srcOf (S : Store) (d : D) : Option Src :=
  match d with
  | .ref n => match S[n]? with | some (.lst _) => some (.live n) | some (.lok ks _) => keysOf ks | _ => none
  | .dic ks _ => keysOf ks
  | d => (seqOf S d).map .items
/-- f, while the dict of a slot is locked -/
def unlock (n : Nat) : R D → R D
  | .ok d S => match S[n]? with | some (.lok ks vs) => .ok d (S.set n (.dic ks vs)) | _ => .bad
  | _ => .bad
def lockR (o : Option (Option D)) (f : Store → R D) (S : Store) : R D :=
  match o with
  | some (some (.ref n)) => match S[n]? with | some (.dic ks vs) => unlock n (f (S.set n (.lok ks vs))) | _ => f S
  | _ => f S
/-- a slot's value; a caught exception is no value -/
def slotR (o : Option (Option D)) (S : Store) : R D :=
  match o with
  | some (some d) => match d with | .exc .. => .bad | d => .ok d S
  | _ => .bad
/-- a list or tuple that never changes -/
def stillOf : D → Option (List D)
  | .tup xs => some xs
  | .lst xs => some xs
  | _ => none
def still2 : D → D → Option (List D × List D)
  | .tup xs, .tup ys => some (xs, ys)
  | .lst xs, .lst ys => some (xs, ys)
  | _, _ => none
/-- stores to targets -/
def setN (ρ : Env) (i : Nat) (d : D) : Env := ρ.set i (some d)
inductive B where | ok (ρ : Env) (S : Store) | bad
variable (Φ : Phi)
mutual
def evE : E → Env → Store → R D
  | .v i, ρ, S => slotR ρ[i]? S
  | .k c, _, S => .ok c S
  | .kty n, _, S => .ok (.ty n) S
  | .tup es, ρ, S => (evEs es ρ S).bind fun xs S => if xs.length ≤ line then .ok (.tup xs) S else .bad
  | .lst fz es, ρ, S => (evEs es ρ S).bind fun xs S => if xs.length ≤ line then alloc fz xs S else .bad
  | .bin op fz a b, ρ, S => (evE a ρ S).bind fun x S => (evE b ρ S).bind fun y S => binop op fz x y S
  | .neg a, ρ, S => (evE a ρ S).bind fun x S => match x with | .int i => .ok (.int (-i)) S | _ => .bad
  | .bnot a, ρ, S => (evE a ρ S).bind fun x S => (ofB (truth S x) S).bind fun b S => .ok (.bl (!b)) S
  | .band es, ρ, S => evAnd es ρ S
  | .bor es, ρ, S => evOr es ρ S
  | .cmp op a b, ρ, S => (evE a ρ S).bind fun x S => (evE b ρ S).bind fun y S => ofO (cmpop op x y S) S
  | .chain op op' a b c, ρ, S => (evE a ρ S).bind fun x S => (evE b ρ S).bind fun y S => (ofB (cmpop op x y S) S).bind fun r S =>
      if r then (evE c ρ S).bind fun z S => ofO (cmpop op' y z S) S else .ok (.bl false) S
  | .ife c a b, ρ, S => (evE c ρ S).bind fun x S => (ofB (truth S x) S).bind fun r S => if r then evE a ρ S else evE b ρ S
  | .call f es ks kes, ρ, S => (evEs es ρ S).bind fun xs S => (evEs kes ρ S).bind fun ys S => Φ f xs ks ys S
  | .blt b fz es, ρ, S => (evEs es ρ S).bind fun xs S => blt b fz xs S
  | .meth m o es, ρ, S => (evE o ρ S).bind fun x S => if (lstOf S x).isSome then (evEs es ρ S).bind fun xs S => meth m x xs S else .bad
  | .ix a i, ρ, S => (evE a ρ S).bind fun x S => (evE i ρ S).bind fun y S => ofD (ixop x y S) S
  | .sl fz a lo hi, ρ, S => (evE a ρ S).bind fun x S => (evEs lo ρ S).bind fun l S => match part l with
      | some l => (evEs hi ρ S).bind fun h S => match part h with | some h => slop fz x l h S | none => .bad
      | none => .bad
  | .rev fz a, ρ, S => (evE a ρ S).bind fun x S => revop fz x S
  | .fld i f cs, ρ, S => match ρ[i]? with | some (some d) => ofD (fldop d f cs) S | _ => .bad
  | .dic fz ks es, ρ, S => (evEs es ρ S).bind fun xs S => if xs.length = ks.length ∧ xs.length ≤ 15 ∧ ks.Nodup then (if fz then .ok (.dic ks xs) S else .ok (.ref S.length) (S ++ [.dic ks xs])) else .bad
  | .gk _ c, _, S => .ok c S
  | .lrng fz es, ρ, S => (evEs es ρ S).bind fun xs S => match rngOf xs with | some l => alloc fz l S | none => .bad
  | .lockd i e, ρ, S => lockR ρ[i]? (evE e ρ) S
  | .comp fz vs t it cond rest, ρ, S => (evI it ρ S).bind fun src S => (noExc (srcR (fun x S => match evT t x (wipe ρ vs) S with
      | .ok ρ' S => (evConds cond ρ' S).bind fun b S => if b then evCl rest ρ' S else .ok [] S
      | .bad => .bad) src S)).bind fun xs S => if xs.length ≤ line then alloc fz xs S else .bad
def evEs : Es → Env → Store → R (List D)
  | .nil, _, S => .ok [] S
  | .cons e es, ρ, S => (evE e ρ S).bind fun x S => (evEs es ρ S).bind fun xs S => .ok (x :: xs) S
def evAnd : Es → Env → Store → R D
  | .nil, _, _ => .bad
  | .cons e .nil, ρ, S => evE e ρ S
  | .cons e (.cons e' es), ρ, S => (evE e ρ S).bind fun x S => (ofB (truth S x) S).bind fun r S => if r then evAnd (.cons e' es) ρ S else .ok x S
def evOr : Es → Env → Store → R D
  | .nil, _, _ => .bad
  | .cons e .nil, ρ, S => evE e ρ S
  | .cons e (.cons e' es), ρ, S => (evE e ρ S).bind fun x S => (ofB (truth S x) S).bind fun r S => if r then .ok x S else evOr (.cons e' es) ρ S
def evI : I → Env → Store → R Src
  | .e e, ρ, S => (evE e ρ S).bind fun d S => match srcOf S d with | some s => .ok s S | none => .bad
  | .rng es, ρ, S => (evEs es ρ S).bind fun xs S => match rngOf xs with | some s => .ok (.items s) S | none => .bad
  | .enum e, ρ, S => (evE e ρ S).bind fun d S => match stillOf d with | some xs => .ok (.items (enumL 0 xs)) S | none => .bad
  | .zip a b, ρ, S => (evE a ρ S).bind fun x S => (evE b ρ S).bind fun y S => match still2 x y with | some (xs, ys) => .ok (.items (zipL xs ys)) S | none => .bad
  | .revd e, ρ, S => (evE e ρ S).bind fun d S => match stillOf d with | some xs => .ok (.items xs.reverse) S | none => .bad
def evCl : Cl → Env → Store → R (List D)
  | .elt e, ρ, S => (evE e ρ S).bind fun x S => .ok [x] S
  | .each vs t it cond e, ρ, S => (evI it ρ S).bind fun src S => srcR (fun x S => match evT t x (wipe ρ vs) S with
      | .ok ρ' S => (evConds cond ρ' S).bind fun b S => if b then (evE e ρ' S).bind fun y S => .ok [y] S else .ok [] S
      | .bad => .bad) src S
def evConds : Es → Env → Store → R Bool
  | .nil, _, S => .ok true S
  | .cons e es, ρ, S => (testR (evE e ρ S)).bind fun b S => if b then evConds es ρ S else .ok false S
def evT : T → D → Env → Store → B
  | .n i, d, ρ, S => .ok (setN ρ i d) S
  | .t ts, d, ρ, S => match d with | .tup xs => evTs ts xs ρ S | _ => .bad
  | .s o i, d, ρ, S => match evE o ρ S with
      | .ok x S => match evE i ρ S with
        | .ok y S => match setop x y d S with | some S => .ok ρ S | none => .bad
        | _ => .bad
      | _ => .bad
def evTs : Ts → List D → Env → Store → B
  | .nil, xs, ρ, S => match xs with | [] => .ok ρ S | _ => .bad
  | .cons t ts, xs, ρ, S => match xs with
      | x :: xs => match evT t x ρ S with | .ok ρ S => evTs ts xs ρ S | .bad => .bad
      | [] => .bad
end
/-- where a statement ends -/
inductive F where
  | nx (ρ : Env) (S : Store) | rt (d : D) (S : Store) | bk (ρ : Env) (S : Store) | ct (ρ : Env) (S : Store)
  | exc (c : Str) (fs : List Str) (vs : List D) (ρ : Env) (S : Store) | bad
def R.stm {α : Type} (r : R α) (ρ : Env) (f : α → Store → F) : F :=
  match r with
  | .ok a S => f a S
  | .exc c fs vs S => .exc c fs vs ρ S
  | .bad => .bad
def F.next (r : F) (f : Env → Store → F) : F := match r with | .nx ρ S => f ρ S | r => r
def F.turn (r : F) (f : Env → Store → F) (out : Env → Store → F) : F :=
  match r with | .nx ρ S => f ρ S | .ct ρ S => f ρ S | .bk ρ S => out ρ S | r => r
def eachF (f : D → Env → Store → F) : List D → Env → Store → F
  | [], ρ, S => .nx ρ S
  | x :: xs, ρ, S => (f x ρ S).turn (eachF f xs) .nx
/-- over a list that may change: its items as they stand at each turn -/
def liveF (f : D → Env → Store → F) (n : Nat) : Nat → Nat → Env → Store → F
  | 0, i, ρ, S => match lstOf S (.ref n) with | some xs => if xs.length ≤ i then .nx ρ S else .bad | none => .bad
  | m + 1, i, ρ, S => match lstOf S (.ref n) with
    | some xs => match xs[i]? with | some x => (f x ρ S).turn (liveF f n m (i + 1)) .nx | none => .nx ρ S
    | none => .bad
def srcF (f : D → Env → Store → F) (src : Src) (ρ : Env) (S : Store) : F :=
  match src with
  | .items xs => eachF f xs ρ S
  | .live n => match lstOf S (.ref n) with | some xs => liveF f n xs.length 0 ρ S | none => .bad
def fuel : Nat := 2 ^ 64
def loopF (c : Env → Store → R Bool) (b : Env → Store → F) : Nat → Env → Store → F
  | 0, _, _ => .bad
  | n + 1, ρ, S => (c ρ S).stm ρ fun r S => if r then (b ρ S).turn (loopF c b n) .nx else .nx ρ S
/-- behind an except suite -/
def clr (ρ : Env) : Env := ρ.map fun o => match o with | some (.exc ..) => none | o => o
/-- does a clause that names c' take an exception of the class c -/
def takesC (c c' : Str) : Bool := c == c' || c' == Str.ofString "WalkError"
mutual
def evS : S → Env → Store → F
  | .asg t e, ρ, S => (evE Φ e ρ S).stm ρ fun d S => match evT Φ t d ρ S with | .ok ρ S => .nx ρ S | .bad => .bad
  | .aug i op fz e, ρ, S => match ρ[i]? with
      | some (some (.int x)) => (evE Φ e ρ S).stm ρ fun y S => match y with
        | .int y => match binI op x y S with | .ok z S => .nx (setN ρ i z) S | _ => .bad
        | _ => .bad
      | _ => .bad
  | .augs o i op e, ρ, S => (evE Φ o ρ S).stm ρ fun x S => (evE Φ i ρ S).stm ρ fun y S => match (match lstOf S x with | some _ => ixop x y S | none => none) with
      | some (.int n) => (evE Φ e ρ S).stm ρ fun z S => match z with
        | .int m => match binI op n m S with
          | .ok w S => match setop x y w S with | some S => .nx ρ S | none => .bad
          | _ => .bad
        | _ => .bad
      | _ => .bad
  | .ex e, ρ, S => (evE Φ e ρ S).stm ρ fun _ S => .nx ρ S
  | .ret e, ρ, S => (evE Φ e ρ S).stm ρ fun d S => .rt d S
  | .retN, _, S => .rt .non S
  | .ife c a b, ρ, S => (testR (evE Φ c ρ S)).stm ρ fun r S => if r then evSs a ρ S else evSs b ρ S
  | .each t it b, ρ, S => (evI Φ it ρ S).stm ρ fun src S => srcF (fun x ρ S => match evT Φ t x ρ S with | .ok ρ S => evSs b ρ S | .bad => .bad) src ρ S
  | .loop c b, ρ, S => loopF (fun ρ S => testR (evE Φ c ρ S)) (evSs b) fuel ρ S
  | .brk, ρ, S => .bk ρ S
  | .cnt, ρ, S => .ct ρ S
  | .pass, ρ, S => .nx ρ S
  | .raise c es, ρ, S => (evEs Φ es ρ S).stm ρ fun xs S => match xs with
      | [x] => .exc c [fldN c] [x] ρ S
      | _ => .bad
  | .tri b cs hs, ρ, S => match evSs b ρ S with
      | .exc c fs vs ρ S => if cs.contains c then evHs hs c fs vs ρ S else .bad
      | r => r
def evSs : Ss → Env → Store → F
  | .nil, ρ, S => .nx ρ S
  | .cons s ss, ρ, S => (evS s ρ S).next (evSs ss)
def evHs : Hs → Str → List Str → List D → Env → Store → F
  | .nil, c, fs, vs, ρ, S => .exc c fs vs ρ S
  | .cons c' i b hs, c, fs, vs, ρ, S =>
      if takesC c c' then
        match i with
        | none => match evSs b ρ S with
          | .exc .. => .bad
          | .nx ρ S => .nx (clr ρ) S
          | .bk ρ S => .bk (clr ρ) S
          | .ct ρ S => .ct (clr ρ) S
          | r => r
        | some i => match evSs b (setN ρ i (.exc c fs vs)) S with
          | .exc .. => .bad
          | .nx ρ S => .nx (clr (ρ.set i none)) S
          | .bk ρ S => .bk (clr (ρ.set i none)) S
          | .ct ρ S => .ct (clr (ρ.set i none)) S
          | r => r
      else evHs hs c fs vs ρ S
end
/-! ### calls -/
def mapO (f : D → Option D) : List D → Option (List D)
  | [] => some []
  | x :: xs => match f x with
    | some y => match mapO f xs with | some ys => some (y :: ys) | none => none
    | none => none
/-- data behind a def's end: its own lists are done with; r: as many objects as were handed in -/
def frz (S : Store) (r : Nat) : Nat → D → Option D
  | 0, d => if d.pure then some d else none
  | n + 1, d => if d.pure then some d else match d with
    | .tup xs => (mapO (frz S r n) xs).map .tup
    | .lst xs => (mapO (frz S r n) xs).map .lst
    | .ref k => if r ≤ k then (match S[k]? with
      | some (.lst xs) => (mapO (frz S r n) xs).map .lst
      | _ => none) else none
    | _ => none
def deep : Nat := 9
/-- the value that is given back -/
def back (fz : Bool) (S' : Store) (r : Nat) (d : D) (S : Store) : R D :=
  if fz then (match frz S' r deep d with | some d => .ok d S | none => .bad)
  else if d.pure then .ok d S
  else match d with
    | .ref k => if r ≤ k then (match S'[k]? with
      | some o => if o.pure then .ok (.ref S.length) (S ++ [o]) else .bad
      | none => .bad) else .bad
    | _ => .bad
/-- the end of a def that ran on its own store -/
def backR (fz : Bool) (r : Nat) (put : Store → Option Store) : R D → R D
  | .ok d S' => match put S' with | some S => back fz S' r d S | none => .bad
  | .exc c fs vs S' => match put S' with | some S => (match mapO (frz S' r deep) vs with | some vs => .exc c fs vs S | none => .bad) | none => .bad
  | .bad => .bad
def fret : F → R D
  | .rt d S => .ok d S
  | .nx _ S => .ok .non S
  | .exc c fs vs _ S => .exc c fs vs S
  | _ => .bad
def refsOf : List D → List Nat
  | [] => []
  | .ref n :: r => n :: refsOf r
  | _ :: r => refsOf r
def okArg : D → Bool
  | .ref _ => true
  | d => d.pure
def sub0 : D → D
  | .ref _ => .ref 0
  | d => d
def put1 (S : Store) (n : Nat) (S' : Store) : Option Store := match S'[0]? with
  | some o => if o.pure then some (S.set n o) else none
  | none => none
def startE (ns : Nat) (ds : List D) : Env := ds.map some ++ List.replicate (ns - ds.length) none
def runB (Φ : Phi) (fn : Fn) (ds : List D) (S : Store) : R D := fret (evSs Φ fn.body (startE fn.ns ds) S)
def callF (Φ : Phi) (fn : Fn) (ds : List D) (S : Store) : R D :=
  if fn.whole then runB Φ fn ds S else
  if ds.all okArg then
    match refsOf ds with
    | [] => backR fn.fz 0 (fun _ => some S) (runB Φ fn ds [])
    | [n] => match S[n]? with
      | some o => if o.pure then backR fn.fz 1 (put1 S n) (runB Φ fn (ds.map sub0) [o]) else .bad
      | none => .bad
    | _ => .bad
  else .bad
abbrev Tab := Str → Option (List Str × Fn)
def phi (T : Tab) : Nat → Phi
  | 0 => fun _ _ _ _ _ => .bad
  | k + 1 => fun f xs ks ys S => match T f with
    | some (ps, fn) => match arr ps xs ks ys with
      | some as => callF (phi T k) fn as S
      | none => .bad
    | none => .bad
end Mp
/-! Mp, part B: what the store and the data stand for in the hand layer's heap. -/
namespace Mp
open PySem PySem.Spec PyProof.Rows L2
abbrev Fg := PySem.W.Frag
theorem line_eq : line = sizeLine := by decide
/-! ### how data stand in the heap -/
/-- a tuple that is there for good -/
def StT (K : Fg) (H : Hp) (M : Addr → Prop) (a : Addr) (vs : List V) : Prop :=
  (Rd H a (.tup vs) ∧ ¬ M a) ∨ ∃ (o : Obj) (its : Array Value) (n : Nat), K.lookup a = some o ∧ o.cls = .type "tuple" ∧ o.data = .seq its n ∧ its.size ≤ sizeLine ∧ Vals vs its.toList
/-- a list of the written part -/
def KL (K : Fg) (a : Addr) (vs : List V) : Prop := ∃ (its : Array Value) (n : Nat), K.lookup a = some { cls := .type "list", data := .seq its n } ∧ its.size ≤ sizeLine ∧ Vals vs its.toList
/-- a list, as it is now -/
def LsAt (K : Fg) (H : Hp) (a : Addr) (vs : List V) : Prop := Rd H a (.lst vs) ∨ KL K a vs
theorem LsAt.sq {K : Fg} {H : Hp} {a : Addr} {vs : List V} (h : LsAt K H a vs) : SqL K H a vs := by
  rcases h with h | ⟨its, n, h1, h2, h3⟩
  · exact .inl h
  · exact .inr ⟨_, its, n, h1, rfl, rfl, rfl, h2, h3⟩
def StL (K : Fg) (H : Hp) (M : Addr → Prop) (a : Addr) (vs : List V) : Prop := (Rd H a (.lst vs) ∧ ¬ M a) ∨ KL K a vs
theorem StL.ls {K : Fg} {H : Hp} {M : Addr → Prop} {a : Addr} {vs : List V} (h : StL K H M a vs) : LsAt K H a vs := h.elim (fun z => .inl z.1) .inr
theorem StL.mono {K : Fg} {H H' : Hp} {M M' : Addr → Prop} {a : Addr} {vs : List V} (h : StL K H M a vs) (f : Rd H a (.lst vs) → ¬ M a → Rd H' a (.lst vs) ∧ ¬ M' a) : StL K H' M' a vs := h.elim (fun z => .inl (f z.1 z.2)) .inr
theorem StT.sq {K : Fg} {H : Hp} {M : Addr → Prop} {a : Addr} {vs : List V} (h : StT K H M a vs) : SqT K H a vs := h.elim (fun z => .inl z.1) .inr
theorem StL.sq {K : Fg} {H : Hp} {M : Addr → Prop} {a : Addr} {vs : List V} (h : StL K H M a vs) : SqL K H a vs := h.ls.sq
section
variable (K : Fg) (ι : List Addr) (M : Addr → Prop) (H : Hp)
mutual
def Rep : D → V → Prop
  | .non, v => v = .non
  | .bl b, v => v = .bl b
  | .int i, v => v = .int i
  | .str s, v => v = .str s
  | .ty n, v => v = .ty n
  | .tup xs, v => ∃ a vs, v = .ref a ∧ StT K H M a vs ∧ xs.length ≤ line ∧ RepL xs vs
  | .lst xs, v => ∃ a vs, v = .ref a ∧ StL K H M a vs ∧ xs.length ≤ line ∧ RepL xs vs
  | .dic ks ds, v => ∃ a o kvs, v = .ref a ∧ (H a = some (.frz o (.dK kvs)) ∧ ¬ M a) ∧ kvs.map (·.1) = ks ∧ RepL ds (kvs.map (·.2))
  | .ref n, v => ∃ a, v = .ref a ∧ ι[n]? = some a
  | .exc .., _ => False
def RepL : List D → List V → Prop
  | [], vs => vs = []
  | d :: ds, vs => ∃ v r, vs = v :: r ∧ Rep d v ∧ RepL ds r
end
def ORep : O → Addr → Prop
  | .lst xs, a => ∃ vs, H a = some (.lst vs) ∧ xs.length ≤ line ∧ RepL K ι M H xs vs
  | .dic ks ds, a => ∃ kvs, H a = some (.dK kvs) ∧ kvs.map (·.1) = ks ∧ RepL K ι M H ds (kvs.map (·.2))
  | .lok ks ds, a => ∃ o kvs, H a = some (.frz o (.dK kvs)) ∧ kvs.map (·.1) = ks ∧ RepL K ι M H ds (kvs.map (·.2))
/-- the store -/
structure SR (S : Store) : Prop where
  len : ι.length = S.length
  nd : ι.Nodup
  im : ∀ a ∈ ι, M a
  mt : ∀ a, M a → H a ≠ none
  obj : ∀ (n : Nat) o a, S[n]? = some o → ι[n]? = some a → ORep K ι M H o a
end
/-- from one state to a later one -/
structure Adv (ι : List Addr) (M : Addr → Prop) (H : Hp) (ι' : List Addr) (M' : Addr → Prop) (H' : Hp) : Prop where
  pre : ∃ r, ι' = ι ++ r
  mm : ∀ a, M a → M' a
  keep : ∀ a o, H a = some o → a ∉ ι → H' a = some o
  fresh : ∀ a, M' a → M a ∨ H a = none
  dom : ∀ a, H a ≠ none → H' a ≠ none
  newi : ∀ a ∈ ι', a ∈ ι ∨ H a = none
  frzk : ∀ a o u, H a = some (.frz o u) → H' a = some (.frz o u)
section
variable {K : Fg} {ι ι' ι2 : List Addr} {M M' M2 : Addr → Prop} {H H' H2 : Hp}
theorem Adv.refl : Adv ι M H ι M H := ⟨⟨[], by simp⟩, fun _ h => h, fun _ _ h _ => h, fun _ h => .inl h, fun _ h => h, fun _ h => .inl h, fun _ _ _ h => h⟩
theorem Adv.none_of (x : Adv ι M H ι' M' H') {a : Addr} (h : H' a = none) : H a = none := by
  cases q : H a with
  | none => rfl
  | some o => exact absurd h (x.dom a (by rw [q]; simp))
theorem Adv.trans (x : Adv ι M H ι' M' H') (y : Adv ι' M' H' ι2 M2 H2) : Adv ι M H ι2 M2 H2 where
  pre := by
    obtain ⟨r, e⟩ := x.pre
    obtain ⟨r', e'⟩ := y.pre
    exact ⟨r ++ r', by rw [e', e, List.append_assoc]⟩
  mm := fun a h => y.mm a (x.mm a h)
  keep := fun a o h hn => y.keep a o (x.keep a o h hn) fun hm => (x.newi a hm).elim hn fun z => by rw [z] at h; cases h
  fresh := fun a h => (y.fresh a h).elim (fun z => x.fresh a z) fun z => .inr (x.none_of z)
  dom := fun a h => y.dom a (x.dom a h)
  newi := fun a h => (y.newi a h).elim (fun z => x.newi a z) fun z => .inr (x.none_of z)
  frzk := fun a o u h => y.frzk a o u (x.frzk a o u h)
theorem Adv.get (x : Adv ι M H ι' M' H') {n : Nat} {a : Addr} (h : ι[n]? = some a) : ι'[n]? = some a := by
  obtain ⟨r, e⟩ := x.pre
  rw [e, List.getElem?_append_left (List.getElem?_eq_some_iff.mp h).1]
  exact h
theorem Adv.nm (x : Adv ι M H ι' M' H') {a : Addr} {o : HO} (h : H a = some o) (hn : ¬ M a) : ¬ M' a := fun z => (x.fresh a z).elim hn fun q => by rw [q] at h; cases h
theorem Adv.rd (x : Adv ι M H ι' M' H') (im : ∀ a ∈ ι, M a) {a : Addr} {w : HO} (h : Rd H a w) (hn : ¬ M a) : Rd H' a w ∧ ¬ M' a := by
  rcases h with h | ⟨o, h⟩
  · exact ⟨.inl (x.keep _ _ h fun z => hn (im _ z)), x.nm h hn⟩
  · exact ⟨.inr ⟨o, x.keep _ _ h fun z => hn (im _ z)⟩, x.nm h hn⟩
theorem Adv.stT (x : Adv ι M H ι' M' H') (im : ∀ a ∈ ι, M a) {a : Addr} {vs : List V} (h : StT K H M a vs) : StT K H' M' a vs := by
  rcases h with ⟨h | ⟨o, h⟩, hn⟩ | h
  · exact .inl ⟨.inl (x.keep _ _ h fun z => hn (im _ z)), x.nm h hn⟩
  · exact .inl ⟨.inr ⟨o, x.keep _ _ h fun z => hn (im _ z)⟩, x.nm h hn⟩
  · exact .inr h
theorem Adv.stL (x : Adv ι M H ι' M' H') (im : ∀ a ∈ ι, M a) {a : Addr} {vs : List V} (h : StL K H M a vs) : StL K H' M' a vs := by
  refine h.mono fun h hn => ?_
  rcases h with h | ⟨o, h⟩
  · exact ⟨.inl (x.keep _ _ h fun z => hn (im _ z)), x.nm h hn⟩
  · exact ⟨.inr ⟨o, x.keep _ _ h fun z => hn (im _ z)⟩, x.nm h hn⟩
mutual
theorem Rep.adv (x : Adv ι M H ι' M' H') (im : ∀ a ∈ ι, M a) : ∀ (d : D) (v : V), Rep K ι M H d v → Rep K ι' M' H' d v
  | .non, v, h => h
  | .bl _, v, h => h
  | .int _, v, h => h
  | .str _, v, h => h
  | .ty _, v, h => h
  | .tup xs, v, h => by
    obtain ⟨a, vs, e, h1, h2, h3⟩ := h
    exact ⟨a, vs, e, x.stT im h1, h2, RepL.adv x im xs vs h3⟩
  | .lst xs, v, h => by
    obtain ⟨a, vs, e, h1, h2, h3⟩ := h
    exact ⟨a, vs, e, x.stL im h1, h2, RepL.adv x im xs vs h3⟩
  | .dic ks ds, v, h => by
    obtain ⟨a, o, kvs, e, h1, h3, h4⟩ := h
    exact ⟨a, o, kvs, e, ⟨x.frzk _ _ _ h1.1, x.nm h1.1 h1.2⟩, h3, RepL.adv x im ds _ h4⟩
  | .ref n, v, h => by
    obtain ⟨a, e, h1⟩ := h
    exact ⟨a, e, x.get h1⟩
  | .exc .., v, h => h.elim
theorem RepL.adv (x : Adv ι M H ι' M' H') (im : ∀ a ∈ ι, M a) : ∀ (ds : List D) (vs : List V), RepL K ι M H ds vs → RepL K ι' M' H' ds vs
  | [], vs, h => h
  | d :: ds, vs, h => by
    obtain ⟨v, r, e, h1, h2⟩ := h
    exact ⟨v, r, e, Rep.adv x im d v h1, RepL.adv x im ds r h2⟩
end
mutual
/-- pure data ask nothing of the store; fewer addresses that may change -/
theorem Rep.ofPure (mm : ∀ a, M' a → M a) : ∀ (d : D) (v : V), d.pure = true → Rep K ι M H d v → Rep K ι' M' H d v
  | .non, v, _, h => h
  | .bl _, v, _, h => h
  | .int _, v, _, h => h
  | .str _, v, _, h => h
  | .ty _, v, _, h => h
  | .tup xs, v, p, h => by
    obtain ⟨a, vs, e, h1, h2, h3⟩ := h
    refine ⟨a, vs, e, ?_, h2, RepL.ofPure mm xs vs p h3⟩
    rcases h1 with ⟨h1, hn⟩ | h1
    · exact .inl ⟨h1, fun z => hn (mm _ z)⟩
    · exact .inr h1
  | .lst xs, v, p, h => by
    obtain ⟨a, vs, e, h1, h2, h3⟩ := h
    exact ⟨a, vs, e, h1.mono fun q hn => ⟨q, fun z => hn (mm _ z)⟩, h2, RepL.ofPure mm xs vs p h3⟩
  | .dic ks ds, v, p, h => by
    obtain ⟨a, o, kvs, e, h1, h3, h4⟩ := h
    exact ⟨a, o, kvs, e, ⟨h1.1, fun z => h1.2 (mm _ z)⟩, h3, RepL.ofPure mm ds _ p h4⟩
  | .ref n, v, p, h => by cases p
  | .exc .., v, _, h => h.elim
theorem RepL.ofPure (mm : ∀ a, M' a → M a) : ∀ (ds : List D) (vs : List V), pureL ds = true → RepL K ι M H ds vs → RepL K ι' M' H ds vs
  | [], vs, _, h => h
  | d :: ds, vs, p, h => by
    obtain ⟨v, r, e, h1, h2⟩ := h
    have p' : (d.pure && pureL ds) = true := p
    rw [Bool.and_eq_true] at p'
    exact ⟨v, r, e, Rep.ofPure mm d v p'.1 h1, RepL.ofPure mm ds r p'.2 h2⟩
end
theorem RepL.length : ∀ {ds : List D} {vs : List V}, RepL K ι M H ds vs → ds.length = vs.length
  | [], vs, h => by
    rw [show vs = [] from h]
    rfl
  | d :: ds, vs, h => by
    obtain ⟨v, r, e, h1, h2⟩ := h
    rw [e, List.length_cons, List.length_cons, RepL.length h2]
theorem RepL.get : ∀ {ds : List D} {vs : List V} {i : Nat} {d : D}, RepL K ι M H ds vs → ds[i]? = some d → ∃ v, vs[i]? = some v ∧ Rep K ι M H d v
  | [], vs, i, d, h, e => by simp at e
  | d :: ds, vs, 0, d', h, e => by
    obtain ⟨v, r, rfl, h1, h2⟩ := h
    simp at e
    subst e
    exact ⟨v, rfl, h1⟩
  | d :: ds, vs, i + 1, d', h, e => by
    obtain ⟨v, r, rfl, h1, h2⟩ := h
    obtain ⟨w, e1, e2⟩ := RepL.get (i := i) (d := d') h2 (by simpa using e)
    exact ⟨w, by simpa using e1, e2⟩
theorem RepL.back : ∀ {ds : List D} {vs : List V} {i : Nat} {v : V}, RepL K ι M H ds vs → vs[i]? = some v → ∃ d, ds[i]? = some d ∧ Rep K ι M H d v
  | [], vs, i, d, h, e => by
    rw [show vs = [] from h] at e
    simp at e
  | d :: ds, vs, 0, d', h, e => by
    obtain ⟨v, r, rfl, h1, h2⟩ := h
    simp at e
    subst e
    exact ⟨d, rfl, h1⟩
  | d :: ds, vs, i + 1, d', h, e => by
    obtain ⟨v, r, rfl, h1, h2⟩ := h
    obtain ⟨w, e1, e2⟩ := RepL.back (i := i) (v := d') h2 (by simpa using e)
    exact ⟨w, by simpa using e1, e2⟩
theorem RepL.append : ∀ {ds ds' : List D} {vs vs' : List V}, RepL K ι M H ds vs → RepL K ι M H ds' vs' → RepL K ι M H (ds ++ ds') (vs ++ vs')
  | [], ds', vs, vs', h, h' => by
    rw [show vs = [] from h]
    exact h'
  | d :: ds, ds', vs, vs', h, h' => by
    obtain ⟨v, r, rfl, h1, h2⟩ := h
    exact ⟨v, r ++ vs', rfl, h1, RepL.append h2 h'⟩
theorem RepL.cons {d : D} {ds : List D} {v : V} {vs : List V} (h : Rep K ι M H d v) (h' : RepL K ι M H ds vs) : RepL K ι M H (d :: ds) (v :: vs) := ⟨v, vs, rfl, h, h'⟩
theorem RepL.nil : RepL K ι M H [] [] := rfl
theorem RepL.one {d : D} {v : V} (h : Rep K ι M H d v) : RepL K ι M H [d] [v] := .cons h .nil
theorem RepL.take : ∀ {ds : List D} {vs : List V} (n : Nat), RepL K ι M H ds vs → RepL K ι M H (ds.take n) (vs.take n)
  | _, _, 0, _ => by rw [List.take_zero, List.take_zero]; exact .nil
  | [], vs, n + 1, h => by
    rw [show vs = [] from h]
    exact .nil
  | d :: ds, vs, n + 1, h => by
    obtain ⟨v, r, rfl, h1, h2⟩ := h
    exact .cons h1 (RepL.take n h2)
theorem RepL.drop : ∀ {ds : List D} {vs : List V} (n : Nat), RepL K ι M H ds vs → RepL K ι M H (ds.drop n) (vs.drop n)
  | _, _, 0, h => by rw [List.drop_zero, List.drop_zero]; exact h
  | [], vs, n + 1, h => by
    rw [show vs = [] from h]
    exact .nil
  | d :: ds, vs, n + 1, h => by
    obtain ⟨v, r, rfl, h1, h2⟩ := h
    exact RepL.drop n h2
theorem RepL.set : ∀ {ds : List D} {vs : List V} {d : D} {v : V} (i : Nat), RepL K ι M H ds vs → Rep K ι M H d v → RepL K ι M H (ds.set i d) (vs.set i v)
  | [], vs, d, v, i, h, _ => by
    rw [show vs = [] from h]
    exact .nil
  | d :: ds, vs, d', v', 0, h, h' => by
    obtain ⟨v, r, rfl, h1, h2⟩ := h
    exact .cons h' h2
  | d :: ds, vs, d', v', i + 1, h, h' => by
    obtain ⟨v, r, rfl, h1, h2⟩ := h
    exact .cons h1 (RepL.set i h2 h')
theorem RepL.reverse : ∀ {ds : List D} {vs : List V}, RepL K ι M H ds vs → RepL K ι M H ds.reverse vs.reverse
  | [], vs, h => by
    rw [show vs = [] from h]
    exact .nil
  | d :: ds, vs, h => by
    obtain ⟨v, r, rfl, h1, h2⟩ := h
    rw [List.reverse_cons, List.reverse_cons]
    exact (RepL.reverse h2).append (.one h1)
theorem RepL.rep {ds : List D} {vs : List V} (h : RepL K ι M H ds vs) : ∀ k : Nat, RepL K ι M H (repL ds k) (List.replicate k vs).flatten
  | 0 => .nil
  | k + 1 => by
    unfold repL
    rw [List.replicate_succ, List.replicate_succ, List.flatten_cons, List.flatten_cons]
    exact h.append (RepL.rep h k)
theorem SR.get {S : Store} (s : SR K ι M H S) {n : Nat} {a : Addr} (h : ι[n]? = some a) : ∃ o, S[n]? = some o ∧ ORep K ι M H o a := by
  have hl := (List.getElem?_eq_some_iff.mp h).1
  rw [s.len] at hl
  exact ⟨S[n], List.getElem?_eq_getElem hl, s.obj n _ a (List.getElem?_eq_getElem hl) h⟩
theorem ORep.adv (x : Adv ι M H ι' M' H') (im : ∀ a ∈ ι, M a) {o : O} {a : Addr} (he : H' a = H a) (h : ORep K ι M H o a) : ORep K ι' M' H' o a := by
  cases o with
  | lst xs =>
    obtain ⟨vs, h1, h2, h3⟩ := h
    exact ⟨vs, he.trans h1, h2, RepL.adv x im _ _ h3⟩
  | dic ks ds =>
    obtain ⟨kvs, h1, h2, h3⟩ := h
    exact ⟨kvs, he.trans h1, h2, RepL.adv x im _ _ h3⟩
  | lok ks ds =>
    obtain ⟨o, kvs, h1, h2, h3⟩ := h
    exact ⟨o, kvs, he.trans h1, h2, RepL.adv x im _ _ h3⟩
/-- a new object that never changes -/
theorem Adv.new (p : Addr) (o : HO) (hp : H p = none) (mt : ∀ a, M a → H a ≠ none) : Adv ι M H ι M (upd H p o) where
  pre := ⟨[], by simp⟩
  mm := fun _ h => h
  keep := fun a u h _ => by rw [upd_ne (ne_of_none h hp)]; exact h
  fresh := fun _ h => .inl h
  dom := fun a h => by
    by_cases e : a = p
    · rw [e, upd_same]; simp
    · rw [upd_ne e]; exact h
  newi := fun _ h => .inl h
  frzk := fun a o u h => by rw [upd_ne (ne_of_none h hp)]; exact h
theorem SR.new {S : Store} (s : SR K ι M H S) {p : Addr} {o : HO} (hp : H p = none) : SR K ι M (upd H p o) S where
  len := s.len
  nd := s.nd
  im := s.im
  mt := fun a h => (Adv.new (ι := ι) p o hp s.mt).dom a (s.mt a h)
  obj := fun n u a h1 h2 => by
    have hm := s.mt a (s.im a (List.mem_of_getElem? h2))
    refine (s.obj n u a h1 h2).adv (Adv.new p o hp s.mt) s.im (upd_ne fun e => hm (by rw [e]; exact hp))
/-- a new list of the store -/
theorem Adv.grow (p : Addr) (o : HO) (hp : H p = none) : Adv ι M H (ι ++ [p]) (fun a => M a ∨ a = p) (upd H p o) where
  pre := ⟨[p], rfl⟩
  mm := fun _ h => .inl h
  keep := fun a u h _ => by rw [upd_ne (ne_of_none h hp)]; exact h
  fresh := fun a h => h.elim .inl fun e => .inr (by rw [e]; exact hp)
  dom := fun a h => by
    by_cases e : a = p
    · rw [e, upd_same]; simp
    · rw [upd_ne e]; exact h
  newi := fun a h => (List.mem_append.mp h).elim .inl fun z => .inr (by rw [List.mem_singleton.mp z]; exact hp)
  frzk := fun a o u h => by rw [upd_ne (ne_of_none h hp)]; exact h
theorem SR.grow {S : Store} (s : SR K ι M H S) {p : Addr} {ho : HO} {o : O} (hp : H p = none) (new : ORep K (ι ++ [p]) (fun a => M a ∨ a = p) (upd H p ho) o p) :
    SR K (ι ++ [p]) (fun a => M a ∨ a = p) (upd H p ho) (S ++ [o]) where
  len := by rw [List.length_append, List.length_append, s.len]; rfl
  nd := by
    rw [List.nodup_append]
    refine ⟨s.nd, by simp, fun a ha b hb e => ?_⟩
    have hm := s.mt a (s.im a ha)
    rw [e, List.mem_singleton.mp hb] at hm
    exact hm hp
  im := fun a h => (List.mem_append.mp h).elim (fun z => .inl (s.im a z)) fun z => .inr (List.mem_singleton.mp z)
  mt := fun a h => by
    rcases h with h | h
    · exact (Adv.grow (ι := ι) (M := M) p ho hp).dom a (s.mt a h)
    · rw [h, upd_same]; simp
  obj := fun n u a h1 h2 => by
    by_cases hn : n < S.length
    · rw [List.getElem?_append_left hn] at h1
      rw [List.getElem?_append_left (by rw [s.len]; exact hn)] at h2
      have hm := s.mt a (s.im a (List.mem_of_getElem? h2))
      exact (s.obj n u a h1 h2).adv (Adv.grow p ho hp) s.im (upd_ne fun e => hm (by rw [e]; exact hp))
    · have hl : n < (S ++ [o]).length := (List.getElem?_eq_some_iff.mp h1).1
      rw [List.length_append, List.length_singleton] at hl
      have en : n = S.length := by omega
      subst en
      rw [List.getElem?_append_right (Nat.le_refl _), Nat.sub_self] at h1
      rw [List.getElem?_append_right (by rw [s.len]; exact Nat.le_refl _), s.len, Nat.sub_self] at h2
      cases h1
      cases h2
      exact new
/-- an object of the store is written -/
theorem Adv.write {p : Addr} {o : HO} (hm : p ∈ ι) (hf : ∀ o' u', H p ≠ some (.frz o' u')) : Adv ι M H ι M (upd H p o) where
  pre := ⟨[], by simp⟩
  mm := fun _ h => h
  keep := fun a u h hn => by rw [upd_ne fun e => hn (by rw [e]; exact hm)]; exact h
  fresh := fun _ h => .inl h
  dom := fun a h => by
    by_cases e : a = p
    · rw [e, upd_same]; simp
    · rw [upd_ne e]; exact h
  newi := fun _ h => .inl h
  frzk := fun a o' u' h => by rw [upd_ne fun e => hf o' u' (by rw [← e]; exact h)]; exact h
theorem SR.write {S : Store} (s : SR K ι M H S) {n : Nat} {p : Addr} {ho : HO} {o : O} (hn : ι[n]? = some p) (hf : ∀ o' u', H p ≠ some (.frz o' u')) (new : ORep K ι M (upd H p ho) o p) : SR K ι M (upd H p ho) (S.set n o) where
  len := by rw [List.length_set]; exact s.len
  nd := s.nd
  im := s.im
  mt := fun a h => (Adv.write (M := M) (List.mem_of_getElem? hn) hf).dom a (s.mt a h)
  obj := fun m u a h1 h2 => by
    by_cases e : m = n
    · subst e
      rw [hn] at h2
      cases h2
      rw [List.getElem?_set_self (by rw [← s.len]; exact (List.getElem?_eq_some_iff.mp hn).1)] at h1
      cases h1
      exact new
    · rw [List.getElem?_set_ne (Ne.symm e)] at h1
      refine (s.obj m u a h1 h2).adv (Adv.write (List.mem_of_getElem? hn) hf) s.im (upd_ne fun z => ?_)
      subst z
      exact e (nodup_ixA s.nd h2 hn)
where
  nodup_ixA {l : List Addr} {i j : Nat} {a : Addr} (hN : l.Nodup) (h1 : l[i]? = some a) (h2 : l[j]? = some a) : i = j := by
    obtain ⟨k1, e1⟩ := List.getElem?_eq_some_iff.mp h1
    obtain ⟨k2, e2⟩ := List.getElem?_eq_some_iff.mp h2
    exact (List.getElem_inj hN).mp (e1.trans e2.symm)
end
end Mp
/-! Mp, part C: the readings that an evaluation gives; what one evaluation behind another asks. -/
namespace Mp
open PySem PySem.Spec PyProof.Rows L2
abbrev MG := Str → Option Value
abbrev Pn := List (Addr × Obj)
/-- the exceptions that are being handled: address, class, dict -/
abbrev Pz := List (Addr × Value × Option Addr)
/-- an exception behind its raising: its class, its own dict's address -/
def XR (K : Fg) (mg : MG) (ι : List Addr) (M : Addr → Prop) (H : Hp) (c : Str) (fs : List Str) (vs : List D) (cls : Value) (dd : Option Addr) : Prop :=
  ∃ Ca : Addr, cls = .ref Ca ∧ mg c = some (.ref Ca) ∧
    ((fs = [] ∧ vs = []) ∨ ∃ f x d v, fs = [f] ∧ vs = [x] ∧ dd = some d ∧ H d = some (.xd [(f, v)]) ∧ ¬ M d ∧ Rep K ι M H x v)
/-- what a slot holds -/
def SlotR (K : Fg) (mg : MG) (pn : Pz) (ι : List Addr) (M : Addr → Prop) (H : Hp) (d : D) (o : Option (Option V)) : Prop :=
  match d with
  | .exc c fs vs => ∃ a cls dd, o = some (some (.ref a)) ∧ (a, cls, dd) ∈ pn ∧ XR K mg ι M H c fs vs cls dd
  | d => ∃ v, o = some (some v) ∧ Rep K ι M H d v
structure SLt (K : Fg) (mg : MG) (pn : Pz) (ι : List Addr) (M : Addr → Prop) (H : Hp) (ρ : Env) (σ : L2.St) : Prop where
  len : ρ.length = σ.length
  at_ : ∀ (i : Nat) (d : D), ρ[i]? = some (some d) → SlotR K mg pn ι M H d σ[i]?
section
variable {K : Fg} {mg : MG} {pn : Pz} {ι ι' : List Addr} {M M' : Addr → Prop} {H H' : Hp}
theorem XR.adv (x : Adv ι M H ι' M' H') (im : ∀ a ∈ ι, M a) {c : Str} {fs : List Str} {vs : List D} {cls : Value} {dd : Option Addr} (h : XR K mg ι M H c fs vs cls dd) : XR K mg ι' M' H' c fs vs cls dd := by
  obtain ⟨Ca, e1, e2, h | ⟨f, y, d, v, e3, e4, e5, e6, e7, e8⟩⟩ := h
  · exact ⟨Ca, e1, e2, .inl h⟩
  · exact ⟨Ca, e1, e2, .inr ⟨f, y, d, v, e3, e4, e5, x.keep _ _ e6 fun z => e7 (im _ z), x.nm e6 e7, Rep.adv x im _ _ e8⟩⟩
theorem SlotR.adv (x : Adv ι M H ι' M' H') (im : ∀ a ∈ ι, M a) {d : D} {o : Option (Option V)} (h : SlotR K mg pn ι M H d o) : SlotR K mg pn ι' M' H' d o := by
  cases d with
  | exc c fs vs =>
    obtain ⟨a, cls, dd, e1, e2, e5⟩ := h
    exact ⟨a, cls, dd, e1, e2, e5.adv x im⟩
  | _ =>
    obtain ⟨v, e1, e2⟩ := h
    exact ⟨v, e1, Rep.adv x im _ _ e2⟩
theorem SLt.adv (x : Adv ι M H ι' M' H') (im : ∀ a ∈ ι, M a) {ρ : Env} {σ : L2.St} (h : SLt K mg pn ι M H ρ σ) : SLt K mg pn ι' M' H' ρ σ :=
  ⟨h.len, fun i d e => (h.at_ i d e).adv x im⟩
theorem SlotR.of {d : D} {v : V} (h : Rep K ι M H d v) : SlotR K mg pn ι M H d (some (some v)) := by
  cases d with
  | exc c fs vs => exact (show False from h).elim
  | _ => exact ⟨v, rfl, h⟩
theorem SLt.setN {ρ : Env} {σ : L2.St} (h : SLt K mg pn ι M H ρ σ) (i : Nat) {d : D} {v : V} (hd : Rep K ι M H d v) : SLt K mg pn ι M H (setN ρ i d) (σ.set i (some v)) := by
  refine ⟨by unfold Mp.setN; rw [List.length_set, List.length_set]; exact h.len, fun j d' e => ?_⟩
  unfold Mp.setN at e
  by_cases hj : i = j
  · subst hj
    by_cases hi : i < ρ.length
    · rw [List.getElem?_set_self hi] at e
      cases e
      rw [List.getElem?_set_self (by rw [← h.len]; exact hi)]
      exact .of hd
    · rw [List.getElem?_eq_none (by rw [List.length_set]; omega)] at e
      cases e
  · rw [List.getElem?_set_ne hj] at e
    rw [List.getElem?_set_ne hj]
    exact h.at_ j d' e
theorem SLt.wipe {ρ : Env} {σ : L2.St} (h : SLt K mg pn ι M H ρ σ) : ∀ vs : List Nat, SLt K mg pn ι M H (Mp.wipe ρ vs) (L2.wipe σ vs)
  | [] => h
  | v :: vs => by
    have ih := SLt.wipe h vs
    refine ⟨?_, fun j d e => ?_⟩
    · show ((Mp.wipe ρ vs).set v none).length = ((L2.wipe σ vs).set v none).length
      rw [List.length_set, List.length_set]
      exact ih.len
    · have e' : ((Mp.wipe ρ vs).set v none)[j]? = some (some d) := e
      show SlotR K mg pn ι M H d ((L2.wipe σ vs).set v none)[j]?
      by_cases hj : v = j
      · subst hj
        by_cases hi : v < (Mp.wipe ρ vs).length
        · rw [List.getElem?_set_self hi] at e'
          cases e'
        · rw [List.getElem?_eq_none (by rw [List.length_set]; omega)] at e'
          cases e'
      · rw [List.getElem?_set_ne hj] at e'
        rw [List.getElem?_set_ne hj]
        exact ih.at_ j d e'
end
/-! ### what is asked behind an evaluation -/
section
variable (K : Fg) (mg : MG) (W : WX) (σ : L2.St)
def PostG {α β : Type} (rel : List Addr → (Addr → Prop) → Hp → α → β → Prop) (ι : List Addr) (M : Addr → Prop) (H : Hp) (r : R α) (Q : β → Hp → Prop) : Prop :=
  match r with
  | .ok d S' => ∀ v ι' M' H', Adv ι M H ι' M' H' → SR K ι' M' H' S' → rel ι' M' H' d v → Q v H'
  | .exc c fs vs S' => ∀ cls dd ι' M' H', Adv ι M H ι' M' H' → SR K ι' M' H' S' → XR K mg ι' M' H' c fs vs cls dd → W cls dd σ H'
  | .bad => False
abbrev PostE := @PostG K mg W σ D V (Rep K)
abbrev PostL := @PostG K mg W σ (List D) (List V) (RepL K)
abbrev PostB := @PostG K mg W σ Bool Bool (fun _ _ _ a b => a = b)
end
section
variable {K : Fg} {mg : MG} {W : WX} {σ : L2.St} {ι ι' : List Addr} {M M' : Addr → Prop} {H H' : Hp} {α β γ δ : Type} {rel : List Addr → (Addr → Prop) → Hp → α → β → Prop} {rel2 : List Addr → (Addr → Prop) → Hp → γ → δ → Prop}
theorem PostG.adv (x : Adv ι M H ι' M' H') {r : R α} {Q : β → Hp → Prop} (h : PostG K mg W σ rel ι M H r Q) : PostG K mg W σ rel ι' M' H' r Q := by
  cases r with
  | ok d S => exact fun v ι2 M2 H2 y => h v ι2 M2 H2 (x.trans y)
  | exc c fs vs S => exact fun cls dd ι2 M2 H2 y => h cls dd ι2 M2 H2 (x.trans y)
  | bad => exact h
/-- one evaluation, then what hangs on it -/
theorem PostG.bind {r : R α} {f : α → Store → R γ} {Q : δ → Hp → Prop} {Q' : β → Hp → Prop} (h : PostG K mg W σ rel2 ι M H (r.bind f) Q)
    (k : ∀ d S' v ι' M' H', r = .ok d S' → Adv ι M H ι' M' H' → SR K ι' M' H' S' → rel ι' M' H' d v → PostG K mg W σ rel2 ι' M' H' (f d S') Q → Q' v H') : PostG K mg W σ rel ι M H r Q' := by
  cases r with
  | ok d S => exact fun v ι2 M2 H2 x s2 hv => k d S v ι2 M2 H2 rfl x s2 hv (PostG.adv x h)
  | exc c fs vs S => exact h
  | bad => exact h
theorem PostG.mono {r : R α} {Q Q' : β → Hp → Prop} (h : PostG K mg W σ rel ι M H r Q) (k : ∀ v H', Q v H' → Q' v H') : PostG K mg W σ rel ι M H r Q' := by
  cases r with
  | ok d S => exact fun v ι2 M2 H2 x s2 hv => k _ _ (h v ι2 M2 H2 x s2 hv)
  | exc c fs vs S => exact h
  | bad => exact h
end
section
variable (K : Fg) (mg : MG) (pn : Pz) (W : WX)
/-- the reading of an expression that evaluates by f -/
def tG {α β : Type} (rel : List Addr → (Addr → Prop) → Hp → α → β → Prop) (f : Env → Store → R α) : L2.St → Hp → (β → Hp → Prop) → Prop :=
  fun σ H Q => ∃ ι M ρ S, SR K ι M H S ∧ SLt K mg pn ι M H ρ σ ∧ PostG K mg W σ rel ι M H (f ρ S) Q
abbrev tE (f : Env → Store → R D) : TE := @tG K mg pn W D V (Rep K) f
abbrev tL (f : Env → Store → R (List D)) : TA := @tG K mg pn W (List D) (List V) (RepL K) f
abbrev tB (f : Env → Store → R Bool) : TT := @tG K mg pn W Bool Bool (fun _ _ _ a b => a = b) f
end
section
variable {K : Fg} {mg : MG} {pn : Pz} {W : WX} {σ : L2.St} {ι : List Addr} {M : Addr → Prop} {H : Hp} {α β γ δ : Type} {rel : List Addr → (Addr → Prop) → Hp → α → β → Prop} {rel2 : List Addr → (Addr → Prop) → Hp → γ → δ → Prop}
/-- the reading of the first part of an evaluation, from what is asked behind the whole -/
theorem tG.of {f : Env → Store → R α} {g : α → Store → R γ} {ρ : Env} {S : Store} {Q : δ → Hp → Prop} {Q' : β → Hp → Prop} (s : SR K ι M H S) (l : SLt K mg pn ι M H ρ σ)
    (h : PostG K mg W σ rel2 ι M H ((f ρ S).bind g) Q)
    (k : ∀ d S' v ι' M' H', Adv ι M H ι' M' H' → SR K ι' M' H' S' → SLt K mg pn ι' M' H' ρ σ → rel ι' M' H' d v → PostG K mg W σ rel2 ι' M' H' (g d S') Q → Q' v H') : tG K mg pn W rel f σ H Q' :=
  ⟨ι, M, ρ, S, s, l, h.bind fun d S' v ι' M' H' e x s2 hv p => k d S' v ι' M' H' x s2 (l.adv x s.im) hv p⟩
end
theorem tG.ofE {K : Fg} {mg : MG} {pn : Pz} {W : WX} {σ : L2.St} {ι : List Addr} {M : Addr → Prop} {H : Hp} {α β γ δ : Type} {rel : List Addr → (Addr → Prop) → Hp → α → β → Prop} {rel2 : List Addr → (Addr → Prop) → Hp → γ → δ → Prop}
    {f : Env → Store → R α} {g : α → Store → R γ} {ρ : Env} {S : Store} {Q : δ → Hp → Prop} {Q' : β → Hp → Prop} (s : SR K ι M H S) (l : SLt K mg pn ι M H ρ σ)
    (h : PostG K mg W σ rel2 ι M H ((f ρ S).bind g) Q)
    (k : ∀ d S' v ι' M' H', f ρ S = .ok d S' → Adv ι M H ι' M' H' → SR K ι' M' H' S' → SLt K mg pn ι' M' H' ρ σ → rel ι' M' H' d v → PostG K mg W σ rel2 ι' M' H' (g d S') Q → Q' v H') : tG K mg pn W rel f σ H Q' :=
  ⟨ι, M, ρ, S, s, l, h.bind fun d S' v ι' M' H' e x s2 hv p => k d S' v ι' M' H' e x s2 (l.adv x s.im) hv p⟩
/-- what an operation of values and store gives, by the machine: f is an operation, h its meaning -/
def OpS (X : Cx) (f : Value → Value → Sem Value) (h : D → D → Store → R D) : Prop :=
  ∀ (W : WX) (pins : Pn) (s : Shared) (σ : L2.St) (H : Hp) (ι : List Addr) (M : Addr → Prop) (S : Store) (x y : V) (v u : Value) (dx dy : D) (Q : VK), Inv X pins σ H s → RelV x v → RelV y u →
    SR X.K ι M H S → Rep X.K ι M H dx x → Rep X.K ι M H dy y → PostE X.K X.mg W σ ι M H (h dx dy S) Q → wpAny (model X.prog X.w) X.A (f v u) (EP X pins σ Q) X.xe s
section
variable {K : Fg} {mg : MG} {W : WX} {σ : L2.St} {ι : List Addr} {M : Addr → Prop} {H : Hp} {S : Store}
theorem PostG.done {α β : Type} {rel : List Addr → (Addr → Prop) → Hp → α → β → Prop} {d : α} {v : β} {Q : β → Hp → Prop} (h : PostG K mg W σ rel ι M H (.ok d S) Q) (s : SR K ι M H S) (r : rel ι M H d v) : Q v H := h v ι M H .refl s r
theorem PostG.tup {xs : List D} {vs : List V} {Q : VK} (h : PostE K mg W σ ι M H (.ok (.tup xs) S) Q) (s : SR K ι M H S) (r : RepL K ι M H xs vs) (hl : xs.length ≤ line) {p : Addr} (hp : H p = none) : Q (.ref p) (upd H p (.tup vs)) := by
  have nm : ¬ M p := fun z => s.mt p z hp
  exact h _ ι M _ (Adv.new p _ hp s.mt) (s.new hp) ⟨p, vs, rfl, .inl ⟨.inl upd_same, nm⟩, hl, RepL.adv (Adv.new p _ hp s.mt) s.im _ _ r⟩
theorem PostG.alloc {fz : Bool} {xs : List D} {vs : List V} {Q : VK} (h : PostE K mg W σ ι M H (Mp.alloc fz xs S) Q) (s : SR K ι M H S) (r : RepL K ι M H xs vs) (hl : xs.length ≤ line) {p : Addr} (hp : H p = none) : Q (.ref p) (upd H p (.lst vs)) := by
  have nm : ¬ M p := fun z => s.mt p z hp
  cases fz with
  | true => exact h _ ι M _ (Adv.new p _ hp s.mt) (s.new hp) ⟨p, vs, rfl, .inl ⟨.inl upd_same, nm⟩, hl, RepL.adv (Adv.new p _ hp s.mt) s.im _ _ r⟩
  | false =>
    have x : Adv ι M H (ι ++ [p]) (fun a => M a ∨ a = p) (upd H p (.lst vs)) := Adv.grow p _ hp
    refine h _ _ _ _ x (s.grow hp ⟨vs, upd_same, hl, RepL.adv x s.im _ _ r⟩) ⟨p, rfl, ?_⟩
    rw [List.getElem?_append_right (by rw [s.len]; exact Nat.le_refl _), s.len, Nat.sub_self]
    rfl
theorem PostG.dicF {ks : List Key} {xs : List D} {kvs : List (Key × V)} {Q : VK} (h : PostE K mg W σ ι M H (.ok (.dic ks xs) S) Q) (s : SR K ι M H S) (hk : kvs.map (·.1) = ks) (r : RepL K ι M H xs (kvs.map (·.2))) {p : Addr} (hp : H p = none) (o : Obj) : Q (.ref p) (upd H p (.frz o (.dK kvs))) :=
  h _ ι M _ (Adv.new p _ hp s.mt) (s.new hp) ⟨p, o, kvs, rfl, ⟨upd_same, fun z => s.mt p z hp⟩, hk, RepL.adv (Adv.new p _ hp s.mt) s.im _ _ r⟩
theorem PostG.dicR {ks : List Key} {xs : List D} {kvs : List (Key × V)} {Q : VK} (h : PostE K mg W σ ι M H (.ok (.ref S.length) (S ++ [.dic ks xs])) Q) (s : SR K ι M H S) (hk : kvs.map (·.1) = ks) (r : RepL K ι M H xs (kvs.map (·.2))) {p : Addr} (hp : H p = none) : Q (.ref p) (upd H p (.dK kvs)) := by
  have x : Adv ι M H (ι ++ [p]) (fun a => M a ∨ a = p) (upd H p (.dK kvs)) := Adv.grow p _ hp
  refine h _ _ _ _ x (s.grow hp ⟨kvs, upd_same, hk, RepL.adv x s.im _ _ r⟩) ⟨p, rfl, ?_⟩
  rw [List.getElem?_append_right (by rw [s.len]; exact Nat.le_refl _), s.len, Nat.sub_self]
  rfl
theorem PostG.bad {α β : Type} {rel : List Addr → (Addr → Prop) → Hp → α → β → Prop} {Q : β → Hp → Prop} {P : Prop} (h : PostG K mg W σ rel ι M H .bad Q) : P := False.elim h
/-- a list's items, wherever it stands -/
theorem lst_of {d : D} {x : V} {xs : List D} (s : SR K ι M H S) (r : Rep K ι M H d x) (e : lstOf S d = some xs) : ∃ a vs, x = .ref a ∧ LsAt K H a vs ∧ RepL K ι M H xs vs ∧ xs.length ≤ line := by
  cases d with
  | lst ys =>
    cases e
    obtain ⟨a, vs, h1, h2, h3, h4⟩ := r
    exact ⟨a, vs, h1, h2.ls, h4, h3⟩
  | ref n =>
    obtain ⟨a, h1, h2⟩ := r
    obtain ⟨o, h3, h4⟩ := s.get h2
    simp only [lstOf, h3] at e
    cases o with
    | lst ys =>
      cases e
      obtain ⟨vs, h5, h6, h7⟩ := h4
      exact ⟨a, vs, h1, .inl (.of h5), h7, h6⟩
    | dic _ _ => cases e
    | lok _ _ => cases e
  | _ => cases e
theorem seq_of {d : D} {x : V} {xs : List D} (s : SR K ι M H S) (r : Rep K ι M H d x) (e : seqOf S d = some xs) : ∃ a vs, x = .ref a ∧ (LsAt K H a vs ∨ SqT K H a vs) ∧ RepL K ι M H xs vs ∧ xs.length ≤ line := by
  cases d with
  | tup ys =>
    cases e
    obtain ⟨a, vs, h1, h2, h3, h4⟩ := r
    exact ⟨a, vs, h1, .inr h2.sq, h4, h3⟩
  | lst ys =>
    obtain ⟨a, vs, h1, h2, h3⟩ := lst_of (xs := xs) s r e
    exact ⟨a, vs, h1, .inl h2, h3⟩
  | ref n =>
    obtain ⟨a, vs, h1, h2, h3⟩ := lst_of (xs := xs) s r e
    exact ⟨a, vs, h1, .inl h2, h3⟩
  | _ => cases e
end
end Mp
/-! Mp, part D: the operators. -/
namespace Mp
open PySem PySem.Spec PyProof.Rows L2
section
variable {X : Cx} {pins : Pn} {σ : L2.St} {H : Hp} {s : Shared}
theorem LsAt.lstM (I : Inv X pins σ H s) {l : Addr} {xs : List V} (h : LsAt X.K H l xs) : ∃ (its : List Value) (n : Nat), Vals xs its ∧ xs.length ≤ sizeLine ∧ s.heap.get? l = some { cls := .type "list", data := .seq its.toArray n } := by
  rcases h with h | ⟨its, n, h1, h2, h3⟩
  · obtain ⟨z, its, n, r, e⟩ := h.ok I.hok
    exact ⟨its, n, r, z, e⟩
  · refine ⟨its.toList, n, h3, by have e := h3.length; simp only [Array.length_toList] at e; omega, ?_⟩
    have e := I.kIn _ _ h1
    simpa using e
theorem add_lists (I : Inv X pins σ H s) {l b : Addr} {xs zs : List V} {Q : VK} (h1 : LsAt X.K H l xs) (h2 : LsAt X.K H b zs) (hz : xs.length + zs.length ≤ sizeLine)
    (q : ∀ p, H p = none → Q (.ref p) (upd H p (.lst (xs ++ zs)))) : wpAny (model X.prog X.w) X.A (binaryOp .Add (.ref l) (.ref b)) (EP X pins σ Q) X.xe s := by
  obtain ⟨its, n, r, z, e⟩ := LsAt.lstM I h1
  obtain ⟨its2, n2, r2, z2, e2⟩ := LsAt.lstM I h2
  have hl := r.length
  have hl2 := r2.length
  refine PySem.P.add_list e e2 ?_ (by simp only [List.size_toArray]; omega)
  rw [show its.toArray ++ its2.toArray = (its ++ its2).toArray by simp]
  exact ⟨.ref _, _, I.lnew (t' := s.toks) (r.append r2) (by rw [List.length_append]; exact hz), rfl, q _ I.fresh⟩
theorem rep_lists (I : Inv X pins σ H s) {l : Addr} {k : Int} {t : Tok} {xs : List V} {Q : VK} (h : LsAt X.K H l xs) (h1 : -(2 ^ 63) ≤ k) (h2 : k < 2 ^ 63) (hz : xs.length * k.toNat ≤ sizeLine)
    (q : ∀ p, H p = none → Q (.ref p) (upd H p (.lst (List.replicate k.toNat xs).flatten))) : wpAny (model X.prog X.w) X.A (binaryOp .Mult (.ref l) (.int k t)) (EP X pins σ Q) X.xe s := by
  obtain ⟨its, n, r, z, e⟩ := LsAt.lstM I h
  have hl := r.length
  have hn : (sizeLine : Nat) ≤ (2 ^ 63 - 1) / 8 := by decide
  have hm : its.toArray.size * k.toNat ≤ sizeLine := by rw [List.size_toArray, ← hl]; exact hz
  have f0 : ∀ m : Nat, List.foldl (fun x1 x2 => x1 ++ x2) #[] (List.replicate m its.toArray) = (List.replicate m its).flatten.toArray := fun m => by
    have z := foldl_rep its m []
    rw [List.nil_append] at z
    exact z
  have new : List.foldl (fun x1 x2 => x1 ++ x2) #[] (List.replicate (if its.toArray.isEmpty = true then 0 else k.toNat) its.toArray) = (List.replicate k.toNat its).flatten.toArray := by
    rw [f0]
    cases its with
    | nil => simp
    | cons a r' => rw [if_neg (by simp)]
  refine wpAny_binaryOp_repeat_ref (T := "list") (U := "int") (by decide) ⟨_, e, rfl⟩ (fun s' => typeIs_int s' k t) noFill_list_mul F.fills_int_mul F.slot_int_rmul repeat_list F.slot_int_index.lookup ?_
  refine call_meets F.slot_int_rmul (typeIs_int s k t) F.entry_int_rmul (F.args_int_rmul_2 _ _) (int___rmul___int_list k t l its.toArray n) ⟨e, rfl, ⟨_, e, rfl⟩, ?_⟩
  refine call_meets F.slot_list_mul ⟨_, e, rfl⟩ F.entry_list_mul (F.args_list_mul_2 _ _) (AutoListH.list___mul___list_int_3 l its.toArray n k t ?_ ?_ ?_) ⟨e, ?_⟩
  · rw [fitsIndex_both h1 h2]
    exact Bool.false_ne_true
  · omega
  · rw [notLongL hm]
    exact Bool.false_ne_true
  · rw [new]
    exact ⟨.ref _, _, I.lnew (t' := s.toks) (r.rep k.toNat) (by rw [PyProof.Rows.lm_len_rep_flat, Nat.mul_comm]; exact hz), rfl, q _ I.fresh⟩
end
theorem tup_mul_same (l : Addr) (items : Array Value) (n : Nat) (dd : Option Addr) (sl : Array (Option Value)) (x : Int) (u : Tok) (c0 : (decide (x < -(2 ^ 63)) || decide (x ≥ 2 ^ 63)) = false) (c1 : (items.isEmpty || x == 1) = true) :
    Meets (Builtin.«tuple.__mul__» ⟨[.ref l, .int x u], []⟩) (fun _ R s => s.heap.get? l = some { cls := .type "tuple", dict := dd, data := .seq items n, slots := sl } ∧ R (.ok (.ret (Value.ref l))) s) :=
  .of_wp fun prog w A R s h => by
    obtain ⟨hp, g, d, tk, os⟩ := s
    obtain ⟨hl, h⟩ := h
    have f1 := AutoSeq1.idx_int
    wp_walk using wpAny_loadPart' hl
    repeat (first
      | (refine wpAny_ite_false (decide_eq_false (by rw [c0]; exact Bool.false_ne_true)) ?_; wp_walk using wpAny_loadPart' hl)
      | (refine wpAny_ite_true (decide_eq_true c1) ?_; wp_walk using wpAny_loadPart' hl))
    exact ⟨_, rfl, h⟩
theorem tup_mul_none (l : Addr) (items : Array Value) (n : Nat) (dd : Option Addr) (sl : Array (Option Value)) (x : Int) (u : Tok) (c0 : (decide (x < -(2 ^ 63)) || decide (x ≥ 2 ^ 63)) = false) (c1 : (items.isEmpty || x == 1) = false) (c2 : (decide (x ≤ 0) || items.isEmpty) = true) :
    Meets (Builtin.«tuple.__mul__» ⟨[.ref l, .int x u], []⟩) (fun _ R s => s.heap.get? l = some { cls := .type "tuple", dict := dd, data := .seq items n, slots := sl } ∧
      R (.ok (.ret (Value.ref s.heap.objs.size))) { s with heap := s.heap.push { cls := Value.type "tuple", data := Data.seq #[] }, toks := s.toks }) :=
  .of_wp fun prog w A R s h => by
    obtain ⟨hp, g, d, tk, os⟩ := s
    obtain ⟨hl, h⟩ := h
    have f1 := AutoSeq1.idx_int
    wp_walk using wpAny_loadPart' hl
    repeat (first
      | (refine wpAny_ite_false (decide_eq_false (by rw [c0]; exact Bool.false_ne_true)) ?_; wp_walk using wpAny_loadPart' hl)
      | (refine wpAny_ite_false (decide_eq_false (by rw [c1]; exact Bool.false_ne_true)) ?_; wp_walk using wpAny_loadPart' hl)
      | (refine wpAny_ite_true (decide_eq_true c2) ?_; wp_walk using wpAny_loadPart' hl))
    exact ⟨_, rfl, h⟩
section
variable {X : Cx}
theorem op_rep1 {pins : Pn} {s : Shared} {σ : L2.St} {H : Hp} {l : Addr} {k : Int} {xs : List V} {u : Value} {Q : VK} (I : Inv X pins σ H s) (ry : RelV (.int k) u) (hT : SqT X.K H l xs) (h0 : -(2 ^ 63) ≤ k) (h1 : k < 2 ^ 63) (hs : xs = [] ∨ k = 1) (q : Q (.ref l) H) :
    wpAny (model X.prog X.w) X.A (binaryOp .Mult (.ref l) u) (EP X pins σ Q) X.xe s := by
  obtain ⟨t, rfl⟩ := ry
  obtain ⟨its, r, ⟨⟨cls, dd, data, sl⟩, ho, hc, n, hd⟩, hz⟩ := I.tuple hT
  simp only at hc hd
  subst hc hd
  have c0 : (decide (k < -(2 ^ 63)) || decide (k ≥ 2 ^ 63)) = false := by rw [decide_eq_false (by omega), decide_eq_false (by omega)]; rfl
  have c1 : (its.toArray.isEmpty || k == 1) = true := by
    rcases hs with rfl | rfl
    · cases r; rfl
    · simp
  refine wpAny_binaryOp_repeat_ref (T := "tuple") (U := "int") (by decide) ⟨_, ho, rfl⟩ (fun s' => typeIs_int s' k t) noFill_tuple_mul F.fills_int_mul F.slot_int_rmul repeat_tuple F.slot_int_index.lookup
    (call_meets F.slot_int_rmul (typeIs_int s k t) F.entry_int_rmul (F.args_int_rmul_2 _ _) (int_rmul_tuple k t l its.toArray n dd sl)
      ⟨ho, rfl, ⟨_, ho, rfl⟩, call_meets F.slot_tuple_mul ⟨_, ho, rfl⟩ F.entry_tuple_mul (F.args_tuple_mul_2 _ _) (tup_mul_same l its.toArray n dd sl k t c0 c1) ⟨ho, ?_⟩⟩)
  exact ⟨.ref l, H, I, rfl, q⟩
theorem op_rep0 {pins : Pn} {s : Shared} {σ : L2.St} {H : Hp} {l : Addr} {k : Int} {xs : List V} {u : Value} {Q : VK} (I : Inv X pins σ H s) (ry : RelV (.int k) u) (hT : SqT X.K H l xs) (h0 : -(2 ^ 63) ≤ k) (h1 : k ≤ 0) (hne : xs ≠ []) (q : ∀ p, H p = none → Q (.ref p) (upd H p (.tup []))) :
    wpAny (model X.prog X.w) X.A (binaryOp .Mult (.ref l) u) (EP X pins σ Q) X.xe s := by
  obtain ⟨t, rfl⟩ := ry
  obtain ⟨its, r, ⟨⟨cls, dd, data, sl⟩, ho, hc, n, hd⟩, hz⟩ := I.tuple hT
  simp only at hc hd
  subst hc hd
  have hi : its.toArray.isEmpty = false := by
    cases its with
    | nil => cases r; exact absurd rfl hne
    | cons a b => rfl
  have c0 : (decide (k < -(2 ^ 63)) || decide (k ≥ 2 ^ 63)) = false := by rw [decide_eq_false (by omega), decide_eq_false (by omega)]; rfl
  have c1 : (its.toArray.isEmpty || k == 1) = false := by rw [hi, Bool.false_or]; exact beq_eq_false_iff_ne.mpr (by omega)
  have c2 : (decide (k ≤ 0) || its.toArray.isEmpty) = true := by rw [decide_eq_true h1]; rfl
  refine wpAny_binaryOp_repeat_ref (T := "tuple") (U := "int") (by decide) ⟨_, ho, rfl⟩ (fun s' => typeIs_int s' k t) noFill_tuple_mul F.fills_int_mul F.slot_int_rmul repeat_tuple F.slot_int_index.lookup
    (call_meets F.slot_int_rmul (typeIs_int s k t) F.entry_int_rmul (F.args_int_rmul_2 _ _) (int_rmul_tuple k t l its.toArray n dd sl)
      ⟨ho, rfl, ⟨_, ho, rfl⟩, call_meets F.slot_tuple_mul ⟨_, ho, rfl⟩ F.entry_tuple_mul (F.args_tuple_mul_2 _ _) (tup_mul_none l its.toArray n dd sl k t c0 c1 c2) ⟨ho, ?_⟩⟩)
  exact ⟨.ref s.heap.objs.size, _, I.laid (t' := s.toks) (o := .tup []) (fun b ob q => Heap.get?_push_of_some _ q) (Nat.le_refl _) ⟨Nat.zero_le _, [], .nil, IsTup.new _ _⟩, rfl, q _ (I.hok.fresh (Nat.le_refl _))⟩
end
section
variable {X : Cx}
theorem op_fdivX {i j : Int} {pins : Pn} {σ : L2.St} {H : Hp} {s : Shared} {t u : Tok} {Q : VK} (I : Inv X pins σ H s) (h : divOk i j = true) (q : Q (.int (i.fdiv j)) H) :
    wpAny (model X.prog X.w) X.A (binaryOp .FloorDiv (.int i t) (.int j u)) (EP X pins σ Q) X.xe s := by
  unfold divOk at h
  rw [Bool.and_eq_true] at h
  obtain ⟨h1, h2⟩ := h
  exact floordiv_int (of_decide_eq_true h1) ⟨.int (i.fdiv j), H, I.tok _, ⟨_, rfl⟩, q⟩ (.inl (by simpa using h2))
theorem bin_ints {op : Operator} {i j : Int} {pins : Pn} {σ : L2.St} {H : Hp} {s : Shared} {v u : Value} {Q : VK} {W : WX} {ι : List Addr} {M : Addr → Prop} {S : Store} (I : Inv X pins σ H s) (rv : RelV (.int i) v) (ru : RelV (.int j) u)
    (sr : SR X.K ι M H S) (h : PostE X.K X.mg W σ ι M H (binI op i j S) Q) : wpAny (model X.prog X.w) X.A (binaryOp op v u) (EP X pins σ Q) X.xe s := by
  have fin : ∀ {k : Int}, PostE X.K X.mg W σ ι M H (.ok (.int k) S) Q → Q (.int k) H := fun h => h.done sr rfl
  cases op with
  | Add => exact op_add pins s σ H _ _ v u Q I rv ru ⟨i, j, rfl, rfl, fin h⟩
  | Sub => exact op_sub pins s σ H _ _ v u Q I rv ru ⟨i, j, rfl, rfl, fin h⟩
  | Mult =>
    by_cases c : mulOk i j = true
    · simp only [binI, if_pos c] at h
      unfold mulOk at c
      have c' := of_decide_eq_true c
      exact op_mulX pins s σ H _ _ v u Q I rv ru ⟨i, j, rfl, rfl, by unfold CMulX; omega, fin h⟩
    · simp only [binI, if_neg c] at h
      exact h.bad
  | FloorDiv =>
    by_cases c : divOk i j = true
    · simp only [binI, if_pos c] at h
      obtain ⟨t, rfl⟩ := rv
      obtain ⟨t', rfl⟩ := ru
      exact op_fdivX I c (fin h)
    · simp only [binI, if_neg c] at h
      exact h.bad
  | Mod =>
    by_cases c : j = 0
    · simp only [binI, if_pos c] at h
      exact h.bad
    · simp only [binI, if_neg c] at h
      exact op_modN pins s σ H _ _ v u Q I rv ru ⟨i, j, rfl, rfl, c, fin h⟩
  | Pow =>
    by_cases c : powOk i j = true
    · simp only [binI, if_pos c] at h
      unfold powOk at c
      simp only [Bool.and_eq_true, decide_eq_true_eq] at c
      exact op_pow pins s σ H _ _ v u Q I rv ru ⟨i, j, rfl, rfl, ⟨c.1.1, c.1.2, c.2⟩, fin h⟩
    · simp only [binI, if_neg c] at h
      exact h.bad
  | LShift =>
    by_cases c : powOk i j = true
    · simp only [binI, if_pos c] at h
      unfold powOk at c
      simp only [Bool.and_eq_true, decide_eq_true_eq] at c
      exact op_shl pins s σ H _ _ v u Q I rv ru ⟨i, j, rfl, rfl, ⟨c.1.1, c.1.2, c.2⟩, fin h⟩
    · simp only [binI, if_neg c] at h
      exact h.bad
  | RShift =>
    by_cases c : 0 ≤ j
    · simp only [binI, if_pos c] at h
      exact op_shr pins s σ H _ _ v u Q I rv ru ⟨i, j, rfl, rfl, c, fin h⟩
    · simp only [binI, if_neg c] at h
      exact h.bad
  | BitAnd => exact op_and pins s σ H _ _ v u Q I rv ru ⟨i, j, rfl, rfl, fin h⟩
  | BitOr => exact op_or pins s σ H _ _ v u Q I rv ru ⟨i, j, rfl, rfl, fin h⟩
  | BitXor => exact op_xor pins s σ H _ _ v u Q I rv ru ⟨i, j, rfl, rfl, fin h⟩
  | MatMult => exact h.bad
  | Div => exact h.bad
theorem bin_add {fz : Bool} {pins : Pn} {σ : L2.St} {H : Hp} {s : Shared} {x y : V} {v u : Value} {dx dy : D} {Q : VK} {W : WX} {ι : List Addr} {M : Addr → Prop} {S : Store} (I : Inv X pins σ H s) (rv : RelV x v) (ru : RelV y u)
    (sr : SR X.K ι M H S) (rx : Rep X.K ι M H dx x) (ry : Rep X.K ι M H dy y) (h : PostE X.K X.mg W σ ι M H (binO .Add fz dx dy S) Q) : wpAny (model X.prog X.w) X.A (binaryOp .Add v u) (EP X pins σ Q) X.xe s := by
  have lists : ∀ {xs ys : List D}, lstOf S dx = some xs → lstOf S dy = some ys → PostE X.K X.mg W σ ι M H (if xs.length + ys.length ≤ line then Mp.alloc fz (xs ++ ys) S else .bad) Q → wpAny (model X.prog X.w) X.A (binaryOp .Add v u) (EP X pins σ Q) X.xe s := by
    intro xs ys ex ey h
    obtain ⟨a, vs, rfl, h1, h2, h3⟩ := lst_of sr rx ex
    obtain ⟨b, ws, rfl, k1, k2, k3⟩ := lst_of sr ry ey
    cases rv
    cases ru
    by_cases c : xs.length + ys.length ≤ line
    · simp only [if_pos c] at h
      have l1 := h2.length
      have l2 := k2.length
      rw [line_eq] at c
      exact add_lists I h1 k1 (by omega) fun p hp => h.alloc sr (h2.append k2) (by rw [List.length_append, line_eq]; exact c) hp
    · simp only [binI, if_neg c] at h
      exact h.bad
  have viaL : ∀ {r : R D}, r = (match lstOf S dx with
      | some x => match lstOf S dy with | some y => if x.length + y.length ≤ line then Mp.alloc fz (x ++ y) S else .bad | none => .bad
      | none => .bad) → PostE X.K X.mg W σ ι M H r Q → wpAny (model X.prog X.w) X.A (binaryOp .Add v u) (EP X pins σ Q) X.xe s := by
    intro r er h
    subst er
    cases ex : lstOf S dx with
    | none => rw [ex] at h; exact h.bad
    | some xs =>
      rw [ex] at h
      cases ey : lstOf S dy with
      | none => rw [ey] at h; exact h.bad
      | some ys =>
        rw [ey] at h
        exact lists ex ey h
  cases dx with
  | str z =>
    cases dy with
    | str z' =>
      obtain rfl : x = .str z := rx
      obtain rfl : y = .str z' := ry
      unfold binO at h
      by_cases c : z.length + z'.length ≤ line
      · simp only [if_pos c] at h
        exact op_add_str pins s σ H _ _ v u Q I rv ru ⟨z, z', rfl, rfl, by rw [← line_eq]; exact c, h.done sr rfl⟩
      · simp only [if_neg c] at h
        exact h.bad
    | _ => exact h.bad
  | tup z =>
    cases dy with
    | tup z' =>
      obtain ⟨a, vs, rfl, h1, h2, h3⟩ := id rx
      obtain ⟨b, ws, rfl, k1, k2, k3⟩ := id ry
      unfold binO at h
      by_cases c : z.length + z'.length ≤ line
      · simp only [if_pos c] at h
        have l1 := h3.length
        have l2 := k3.length
        refine op_catA pins s σ H _ _ v u Q I rv ru ⟨a, b, vs, ws, rfl, rfl, h1.sq, k1.sq, by rw [← line_eq]; omega, fun e => ?_, fun _ e => ?_, fun _ _ p hp => ?_⟩
        · subst e
          have e0 : z = [] := List.eq_nil_of_length_eq_zero (by simpa using l1)
          subst e0
          exact h.done sr ry
        · subst e
          have e0 : z' = [] := List.eq_nil_of_length_eq_zero (by simpa using l2)
          subst e0
          rw [List.append_nil] at h
          exact h.done sr rx
        · exact h.tup sr (h3.append k3) (by rw [List.length_append]; exact c) hp
      · simp only [if_neg c] at h
        exact h.bad
    | _ => exact h.bad
  | _ => exact viaL rfl h
theorem bin_mul {fz : Bool} {pins : Pn} {σ : L2.St} {H : Hp} {s : Shared} {x y : V} {v u : Value} {dx dy : D} {Q : VK} {W : WX} {ι : List Addr} {M : Addr → Prop} {S : Store} (I : Inv X pins σ H s) (rv : RelV x v) (ru : RelV y u)
    (sr : SR X.K ι M H S) (rx : Rep X.K ι M H dx x) (ry : Rep X.K ι M H dy y) (h : PostE X.K X.mg W σ ι M H (binO .Mult fz dx dy S) Q) : wpAny (model X.prog X.w) X.A (binaryOp .Mult v u) (EP X pins σ Q) X.xe s := by
  cases dy with
  | int k =>
    obtain rfl : y = .int k := ry
    have viaL : ∀ {r : R D}, r = (match lstOf S dx with
        | some x => if -(2 ^ 63) ≤ k ∧ k < 2 ^ 63 ∧ x.length * k.toNat ≤ line then Mp.alloc fz (repL x k.toNat) S else .bad
        | none => .bad) → PostE X.K X.mg W σ ι M H r Q → wpAny (model X.prog X.w) X.A (binaryOp .Mult v u) (EP X pins σ Q) X.xe s := by
      intro r er h
      subst er
      cases ex : lstOf S dx with
      | none => rw [ex] at h; exact h.bad
      | some xs =>
        rw [ex] at h
        obtain ⟨a, vs, rfl, h1, h2, h3⟩ := lst_of sr rx ex
        cases rv
        obtain ⟨t, rfl⟩ := ru
        by_cases c : -(2 ^ 63) ≤ k ∧ k < 2 ^ 63 ∧ xs.length * k.toNat ≤ line
        · simp only [if_pos c] at h
          have l1 := h2.length
          refine rep_lists I h1 c.1 c.2.1 (by rw [← l1, ← line_eq]; exact c.2.2) fun p hp => h.alloc sr (h2.rep k.toNat) ?_ hp
          unfold repL
          rw [PyProof.Rows.lm_len_rep_flat, Nat.mul_comm]
          exact c.2.2
        · simp only [if_neg c] at h
          exact h.bad
    cases dx with
    | tup z =>
      obtain ⟨a, vs, rfl, h1, h2, h3⟩ := id rx
      unfold binO at h
      by_cases c : -(2 ^ 63) ≤ k ∧ k ≤ 1000 ∧ z.length ≤ 1000
      · simp only [if_pos c] at h
        have l1 := h3.length
        cases rv
        by_cases c1 : z = [] ∨ k = 1
        · have e : repL z k.toNat = z := by
            rcases c1 with rfl | rfl
            · unfold repL
              induction k.toNat with
              | zero => rfl
              | succ n ih => rw [List.replicate_succ, List.flatten_cons, ih]; rfl
            · show (List.replicate 1 z).flatten = z
              simp
          rw [e] at h
          refine op_rep1 I ru h1.sq c.1 (by omega) (c1.imp (fun e => ?_) id) (h.done sr rx)
          rw [e] at l1
          exact List.eq_nil_of_length_eq_zero l1.symm
        · rw [not_or] at c1
          have ne : vs ≠ [] := fun e => c1.1 (by rw [e] at l1; exact List.eq_nil_of_length_eq_zero l1)
          by_cases c2 : k ≤ 0
          · have e : repL z k.toNat = [] := by
              rw [show k.toNat = 0 by omega]
              rfl
            rw [e] at h
            exact op_rep0 I ru h1.sq c.1 c2 ne fun p hp => h.tup sr .nil (Nat.zero_le _) hp
          · refine op_repT pins s σ H (.ref a) (.int k) (.ref a) u Q I rfl ru ⟨a, k, vs, rfl, rfl, h1.sq, ne, by omega, c.2.1, by omega, fun p hp => h.tup sr (h3.rep k.toNat) ?_ hp⟩
            unfold repL
            rw [PyProof.Rows.lm_len_rep_flat]
            have : k.toNat * z.length ≤ 1000 * 1000 := Nat.mul_le_mul (by omega) c.2.2
            show _ ≤ 16777216
            omega
      · simp only [if_neg c] at h
        exact h.bad
    | _ => exact viaL rfl h
  | _ => exact h.bad
theorem bin_sound (op : Operator) (fz : Bool) : OpS X (binaryOp op) (binop op fz) := by
  intro W pins s σ H ι M S x y v u dx dy Q I rv ru sr rx ry h
  have other : PostE X.K X.mg W σ ι M H (binO op fz dx dy S) Q → wpAny (model X.prog X.w) X.A (binaryOp op v u) (EP X pins σ Q) X.xe s := by
    intro h
    cases op with
    | Add => exact bin_add I rv ru sr rx ry h
    | Mult => exact bin_mul I rv ru sr rx ry h
    | _ => exact h.bad
  cases dx with
  | int i =>
    cases dy with
    | int j =>
      obtain rfl : x = .int i := rx
      obtain rfl : y = .int j := ry
      exact bin_ints I rv ru sr h
    | _ => exact other h
  | _ => exact other h
end
end Mp
/-! Mp, part E: comparisons, truth, items, stores. -/
namespace Mp
open PySem PySem.Spec PyProof.Rows L2
section
variable {K : Fg} {ι : List Addr} {M : Addr → Prop} {H : Hp} {S : Store}
mutual
theorem dp_of : ∀ (d : D) (x : V) (p : PyData), Rep K ι M H d x → toPy d = some p → Dp K H x p
  | .non, x, p, r, e => by
    obtain rfl : x = .non := r
    cases e
    exact .non
  | .bl b, x, p, r, e => by
    obtain rfl : x = .bl b := r
    cases e
    exact .bl b
  | .int i, x, p, r, e => by
    obtain rfl : x = .int i := r
    cases e
    exact .int i
  | .str s, x, p, r, e => by
    obtain rfl : x = .str s := r
    cases e
    exact .str s
  | .tup xs, x, p, r, e => by
    obtain ⟨a, vs, rfl, h1, h2, h3⟩ := r
    simp only [toPy] at e
    cases q : toPyL xs with
    | none => rw [q] at e; cases e
    | some ps =>
      rw [q] at e
      cases e
      exact .tup h1.sq (dpL_of xs vs ps h3 q)
  | .lst xs, x, p, r, e => by
    obtain ⟨a, vs, rfl, h1, h2, h3⟩ := r
    simp only [toPy] at e
    cases q : toPyL xs with
    | none => rw [q] at e; cases e
    | some ps =>
      rw [q] at e
      cases e
      exact .lst h1.sq (dpL_of xs vs ps h3 q)
  | .dic .., x, p, r, e => by cases e
  | .ref .., x, p, r, e => by cases e
  | .ty .., x, p, r, e => by cases e
  | .exc .., x, p, r, e => by cases e
theorem dpL_of : ∀ (ds : List D) (vs : List V) (ps : List PyData), RepL K ι M H ds vs → toPyL ds = some ps → DpAll K H vs ps
  | [], vs, ps, r, e => by
    rw [show vs = [] from r]
    cases e
    exact .nil
  | d :: ds, vs, ps, r, e => by
    obtain ⟨v, r', rfl, h1, h2⟩ := r
    simp only [toPyL] at e
    cases q : toPy d with
    | none => rw [q] at e; cases e
    | some p =>
      rw [q] at e
      cases q2 : toPyL ds with
      | none => rw [q2] at e; cases e
      | some ps' =>
        rw [q2] at e
        cases e
        exact .cons (dp_of d v p h1 q) (dpL_of ds r' ps' h2 q2)
end
theorem dpS_of {d : D} {x : V} {p : PyData} (s : SR K ι M H S) (r : Rep K ι M H d x) (e : toPyS S d = some p) : Dp K H x p := by
  cases d with
  | ref n =>
    obtain ⟨a, rfl, h2⟩ := r
    obtain ⟨o, h3, h4⟩ := s.get h2
    simp only [toPyS, h3] at e
    cases o with
    | dic _ _ => cases e
    | lok _ _ => cases e
    | lst xs =>
      obtain ⟨vs, h5, h6, h7⟩ := h4
      simp only at e
      cases q : toPyL xs with
      | none => rw [q] at e; cases e
      | some ps =>
        rw [q] at e
        cases e
        exact .lst (.of h5) (dpL_of xs vs ps h7 q)
  | _ => exact dp_of _ x p r e
theorem flat_of {d : D} {x : V} (r : Rep K ι M H d x) (f : flat d = true) : flatV x = true := by
  cases d with
  | non => rw [show x = _ from r]; rfl
  | bl b => rw [show x = _ from r]; rfl
  | int i => rw [show x = _ from r]; rfl
  | str z => rw [show x = _ from r]; rfl
  | _ => cases f
theorem flatL_of : ∀ {ds : List D} {vs : List V}, RepL K ι M H ds vs → ds.all flat = true → vs.all flatV = true
  | [], vs, r, _ => by
    rw [show vs = [] from r]
    rfl
  | d :: ds, vs, r, f => by
    obtain ⟨v, r', rfl, h1, h2⟩ := r
    rw [List.all_cons, Bool.and_eq_true] at f
    rw [List.all_cons, flat_of h1 f.1, flatL_of h2 f.2]
    rfl
theorem eqF_of {d e : D} {x y : V} (rx : Rep K ι M H d x) (ry : Rep K ι M H e y) (fx : flat d = true) (fy : flat e = true) : eqV x y = eqF d e := by
  cases d with
  | non => rw [show x = _ from rx]; cases e with
    | non => rw [show y = _ from ry]; rfl
    | bl b => rw [show y = _ from ry]; rfl
    | int i => rw [show y = _ from ry]; rfl
    | str z => rw [show y = _ from ry]; rfl
    | _ => cases fy
  | bl b => rw [show x = _ from rx]; cases e with
    | non => rw [show y = _ from ry]; rfl
    | bl b => rw [show y = _ from ry]; rfl
    | int i => rw [show y = _ from ry]; rfl
    | str z => rw [show y = _ from ry]; rfl
    | _ => cases fy
  | int i => rw [show x = _ from rx]; cases e with
    | non => rw [show y = _ from ry]; rfl
    | bl b => rw [show y = _ from ry]; rfl
    | int i => rw [show y = _ from ry]; rfl
    | str z => rw [show y = _ from ry]; rfl
    | _ => cases fy
  | str z => rw [show x = _ from rx]; cases e with
    | non => rw [show y = _ from ry]; rfl
    | bl b => rw [show y = _ from ry]; rfl
    | int i => rw [show y = _ from ry]; rfl
    | str z => rw [show y = _ from ry]; rfl
    | _ => cases fy
  | _ => cases fx
theorem any_of {d : D} {x : V} (rx : Rep K ι M H d x) (fx : flat d = true) : ∀ {ds : List D} {vs : List V}, RepL K ι M H ds vs → ds.all flat = true → inV x vs = ds.any fun z => eqF z d
  | [], vs, r, _ => by
    rw [show vs = [] from r]
    rfl
  | e :: ds, vs, r, f => by
    obtain ⟨v, r', rfl, h1, h2⟩ := r
    rw [List.all_cons, Bool.and_eq_true] at f
    have ih := any_of rx fx h2 f.2
    unfold inV at ih ⊢
    rw [List.any_cons, List.any_cons, ih, eqF_of h1 rx f.1 fx]
theorem key_of {d : D} {x : V} {k : Key} (r : Rep K ι M H d x) (e : keyOf d = some k) : x = kV k := by
  cases d with
  | int i => cases e; exact r
  | str z => cases e; exact r
  | _ => cases e
theorem find_of {k : Key} : ∀ {ks : List Key} {ds : List D} {kvs : List (Key × V)}, kvs.map (·.1) = ks → RepL K ι M H ds (kvs.map (·.2)) →
    (∀ d, findK k ks ds = some d → ∃ v, valV kvs k = some v ∧ Rep K ι M H d v) ∧ (findK k ks ds = none → valV kvs k = none)
  | _, ds, [], e, r => by
    cases e
    exact ⟨fun d h => (by cases (show (none : Option D) = some d from h)), fun _ => rfl⟩
  | _, ds, (q, v) :: kvs, e, r => by
    cases e
    cases ds with
    | nil => cases (show v :: kvs.map (·.2) = [] from r)
    | cons d ds =>
      obtain ⟨v', r', e', h1, h2⟩ := r
      rw [List.map_cons] at e'
      obtain ⟨e1, e2⟩ := List.cons.inj e'
      subst e1
      subst e2
      have ih := find_of (k := k) (kvs := kvs) rfl h2
      simp only [findK, List.map_cons]
      by_cases c : q = k
      · simp only [if_pos c]
        refine ⟨fun d' h => ?_, fun h => by cases h⟩
        cases h
        exact ⟨v, valV_pos c, h1⟩
      · simp only [if_neg c]
        rw [valV_neg c]
        exact ih
theorem dic_of {d : D} {x : V} {ks : List Key} {ds : List D} (s : SR K ι M H S) (r : Rep K ι M H d x) (e : dicOf S d = some (ks, ds)) : ∃ a kvs, x = .ref a ∧ Rd H a (.dK kvs) ∧ kvs.map (·.1) = ks ∧ RepL K ι M H ds (kvs.map (·.2)) := by
  cases d with
  | dic k' d' =>
    cases e
    obtain ⟨a, o, kvs, h1, h2, h4, h5⟩ := r
    exact ⟨a, kvs, h1, .inr ⟨o, h2.1⟩, h4, h5⟩
  | ref n =>
    obtain ⟨a, h1, h2⟩ := r
    obtain ⟨o, h3, h4⟩ := s.get h2
    simp only [dicOf, h3] at e
    cases o with
    | lst _ => cases e
    | dic k' d' =>
      cases e
      obtain ⟨kvs, h5, h6, h7⟩ := h4
      exact ⟨a, kvs, h1, .inl h5, h6, h7⟩
    | lok k' d' =>
      cases e
      obtain ⟨o', kvs, h5, h6, h7⟩ := h4
      exact ⟨a, kvs, h1, .inr ⟨o', h5⟩, h6, h7⟩
  | _ => cases e
end
section
variable {X : Cx}
/-- one bool out of two values -/
theorem PostG.bl {K : Fg} {mg : MG} {W : WX} {σ : L2.St} {ι : List Addr} {M : Addr → Prop} {H : Hp} {S : Store} {o : Option Bool} {Q : VK} (h : PostE K mg W σ ι M H (ofO o S) Q) (s : SR K ι M H S) : ∃ b, o = some b ∧ Q (.bl b) H := by
  cases o with
  | none => exact h.bad
  | some b => exact ⟨b, rfl, h.done s rfl⟩
theorem in_sound {W : WX} {pins : Pn} {s : Shared} {σ : L2.St} {H : Hp} {ι : List Addr} {M : Addr → Prop} {S : Store} {x y : V} {v u : Value} {dx dy : D} {Q : VK} (neg : Bool) (hu : X.A.units + 64 < cLine) (I : Inv X pins σ H s) (rv : RelV x v) (ru : RelV y u)
    (sr : SR X.K ι M H S) (rx : Rep X.K ι M H dx x) (ry : Rep X.K ι M H dy y) (h : PostE X.K X.mg W σ ι M H (ofO ((inop S dx dy).map fun b => if neg then !b else b) S) Q) :
    wpAny (model X.prog X.w) X.A (compareOp (if neg then .NotIn else .In) v u) (EP X pins σ Q) X.xe s := by
  have viaS : ∀ {o : Option Bool}, o = (match seqOf S dy with
      | some ys => if flat dx && ys.all flat then some (ys.any fun z => eqF z dx) else none
      | none => match dicOf S dy with
        | some (ks, vs) => match keyOf dx with | some k => some (findK k ks vs).isSome | none => none
        | none => none) → PostE X.K X.mg W σ ι M H (ofO (o.map fun b => if neg then !b else b) S) Q → wpAny (model X.prog X.w) X.A (compareOp (if neg then .NotIn else .In) v u) (EP X pins σ Q) X.xe s := by
    intro o eo h
    subst eo
    cases es : seqOf S dy with
    | some ys =>
      rw [es] at h
      obtain ⟨a, vs, rfl, h1, h2, h3⟩ := seq_of sr ry es
      by_cases c : (flat dx && ys.all flat) = true
      · simp only [if_pos c] at h
        rw [Bool.and_eq_true] at c
        have q := h.done sr rfl
        have e := any_of rx c.1 h2 c.2
        have h1' : SqL X.K H a vs ∨ SqT X.K H a vs := h1.elim (fun z => .inl z.sq) .inr
        cases neg with
        | true => exact op_notIn_seq pins s σ H _ _ v u Q I rv ru ⟨a, vs, rfl, h1', flat_of rx c.1, flatL_of h2 c.2, by rw [e]; exact q⟩
        | false => exact op_in_seq pins s σ H _ _ v u Q I rv ru ⟨a, vs, rfl, h1', flat_of rx c.1, flatL_of h2 c.2, by rw [e]; exact q⟩
      · simp only [if_neg c] at h
        exact h.bad
    | none =>
      rw [es] at h
      cases ed : dicOf S dy with
      | none => rw [ed] at h; exact h.bad
      | some kd =>
        obtain ⟨ks, ds⟩ := kd
        rw [ed] at h
        simp only at h
        obtain ⟨a, kvs, rfl, h1, h2, h3⟩ := dic_of sr ry ed
        cases ek : keyOf dx with
        | none => rw [ek] at h; exact h.bad
        | some k =>
          rw [ek] at h
          have q := h.done sr rfl
          have ex := key_of rx ek
          subst ex
          have f := find_of (k := k) h2 h3
          have e : (valV kvs k).isSome = (findK k ks ds).isSome := by
            cases ef : findK k ks ds with
            | none =>
              rw [f.2 ef]
              rfl
            | some d =>
              obtain ⟨w, e1, _⟩ := f.1 d ef
              rw [e1]
              rfl
          cases ru
          have hu1 : X.A.units + 1 < cLine := by omega
          cases neg with
          | true => exact d_notIn hu1 I ((.inl ⟨kvs, k, h1, rfl, rfl⟩ : DGet H a (kV k) (valV kvs k))) rv fun s' J => by rw [e]; exact ⟨.bl _, H, J, rfl, q⟩
          | false => exact d_in hu1 I ((.inl ⟨kvs, k, h1, rfl, rfl⟩ : DGet H a (kV k) (valV kvs k))) rv fun s' J => by rw [e]; exact ⟨.bl _, H, J, rfl, q⟩
  cases dy with
  | str z =>
    cases dx with
    | str z' =>
      obtain rfl : x = .str z' := rx
      obtain rfl : y = .str z := ry
      have q := h.done sr rfl
      cases neg with
      | true => exact op_notin_str pins s σ H _ _ v u Q I rv ru ⟨z', z, rfl, rfl, q⟩
      | false => exact op_in_str pins s σ H _ _ v u Q I rv ru ⟨z', z, rfl, rfl, q⟩
    | _ => exact h.bad
  | _ => exact viaS rfl h
theorem isNon_of {K : Fg} {ι : List Addr} {M : Addr → Prop} {H : Hp} {dx : D} {x : V} (rx : Rep K ι M H dx x) : decide (x = .non) = isNon dx := by
  cases dx with
  | non => rw [show x = _ from rx]; rfl
  | bl b => rw [show x = _ from rx]; rfl
  | int b => rw [show x = _ from rx]; rfl
  | str b => rw [show x = _ from rx]; rfl
  | ty b => rw [show x = _ from rx]; rfl
  | tup b => obtain ⟨a, vs, e, _⟩ := rx; rw [e]; rfl
  | lst b => obtain ⟨a, vs, e, _⟩ := rx; rw [e]; rfl
  | dic b => obtain ⟨a, o, vs, e, _⟩ := rx; rw [e]; rfl
  | ref b => obtain ⟨a, e, _⟩ := rx; rw [e]; rfl
  | exc => exact (show False from rx).elim
theorem cmp_sound (op : CmpOp) (hu : X.A.units + 64 < cLine) : OpS X (compareOp op) (fun a b S => ofO (cmpop op a b S) S) := by
  intro W pins s σ H ι M S x y v u dx dy Q I rv ru sr rx ry h
  have eqs : ∀ {neg : Bool}, PostE X.K X.mg W σ ι M H (ofO ((eqD S dx dy).map fun b => if neg then !b else b) S) Q → wpAny (model X.prog X.w) X.A (compareOp (if neg then .NotEq else .Eq) v u) (EP X pins σ Q) X.xe s := by
    intro neg h
    unfold eqD at h
    cases ex : toPyS S dx with
    | none => simp only [ex] at h; exact h.bad
    | some p =>
      simp only [ex] at h
      cases ey : toPyS S dy with
      | none => simp only [ey] at h; exact h.bad
      | some q =>
        simp only [ey] at h
        by_cases c : (shp p && shp q) = true
        · simp only [if_pos c] at h
          rw [Bool.and_eq_true] at c
          have qq := h.done sr rfl
          cases neg with
          | true => exact op_neD hu pins s σ H _ _ v u Q I rv ru ⟨p, q, dpS_of sr rx ex, dpS_of sr ry ey, c.1, c.2, qq⟩
          | false => exact op_eqD hu pins s σ H _ _ v u Q I rv ru ⟨p, q, dpS_of sr rx ex, dpS_of sr ry ey, c.1, c.2, qq⟩
        · simp only [if_neg c] at h
          exact h.bad
  have other : PostE X.K X.mg W σ ι M H (ofO (cmpO op dx dy S) S) Q → wpAny (model X.prog X.w) X.A (compareOp op v u) (EP X pins σ Q) X.xe s := by
    intro h
    cases op with
    | Eq => exact eqs (neg := false) (by cases q : eqD S dx dy with | none => simp only [cmpO, q] at h; exact h.bad | some b => simp only [cmpO, q] at h; exact h)
    | NotEq => exact eqs (neg := true) (by cases q : eqD S dx dy with | none => simp only [cmpO, q] at h; exact h.bad | some b => simp only [cmpO, q] at h; exact h)
    | In => exact in_sound false hu I rv ru sr rx ry (by cases q : inop S dx dy with | none => simp only [cmpO, q] at h; exact h.bad | some b => simp only [cmpO, q] at h; exact h)
    | NotIn => exact in_sound true hu I rv ru sr rx ry (by cases q : inop S dx dy with | none => simp only [cmpO, q] at h; exact h.bad | some b => simp only [cmpO, q] at h; exact h)
    | Is =>
      cases dy with
      | non =>
        obtain rfl : y = .non := ry
        have q := h.done sr rfl
        refine op_isN pins s σ H _ _ v u Q I rv ru ⟨rfl, ?_⟩
        have e := isNon_of rx
        rw [e]
        exact q
      | bl b =>
        cases dx with
        | bl a =>
          obtain rfl : x = .bl a := rx
          obtain rfl : y = .bl b := ry
          have q := h.done sr rfl
          exact op_isBl pins s σ H _ _ v u Q I rv ru ⟨a, b, rfl, rfl, q⟩
        | _ => exact h.bad
      | _ => exact h.bad
    | IsNot =>
      cases dy with
      | non =>
        obtain rfl : y = .non := ry
        have q := h.done sr rfl
        refine op_notN pins s σ H _ _ v u Q I rv ru ⟨rfl, ?_⟩
        have e := isNon_of rx
        rw [e]
        exact q
      | _ => exact h.bad
    | Lt =>
      cases dx with
      | str z =>
        cases dy with
        | str z' =>
          obtain rfl : x = .str z := rx
          obtain rfl : y = .str z' := ry
          have q := h.done sr rfl
          exact op_lt_str pins s σ H _ _ v u Q I rv ru ⟨z, z', rfl, rfl, q⟩
        | _ => exact h.bad
      | _ => exact h.bad
    | _ => exact h.bad
  cases dx with
  | int i =>
    cases dy with
    | int j =>
      obtain rfl : x = .int i := rx
      obtain rfl : y = .int j := ry
      have fin : ∀ {b : Bool}, PostE X.K X.mg W σ ι M H (ofO (some b) S) Q → Q (.bl b) H := fun h => h.done sr rfl
      cases op with
      | Eq => exact op_eq pins s σ H _ _ v u Q I rv ru ⟨rfl, by have q := fin h; rw [show decide (V.int i = V.int j) = decide (i = j) by simp]; exact q⟩
      | NotEq => exact op_ne pins s σ H _ _ v u Q I rv ru ⟨rfl, by have q := fin h; rw [show decide (V.int i = V.int j) = decide (i = j) by simp]; exact q⟩
      | Lt => exact op_lt pins s σ H _ _ v u Q I rv ru ⟨i, j, rfl, rfl, fin h⟩
      | LtE => exact op_le pins s σ H _ _ v u Q I rv ru ⟨i, j, rfl, rfl, fin h⟩
      | Gt => exact op_gt pins s σ H _ _ v u Q I rv ru ⟨i, j, rfl, rfl, fin h⟩
      | GtE => exact op_ge pins s σ H _ _ v u Q I rv ru ⟨i, j, rfl, rfl, fin h⟩
      | _ => exact h.bad
    | _ => exact other h
  | _ => exact other h
/-- a value's truth -/
theorem truth_sound {W : WX} {pins : Pn} {s : Shared} {σ : L2.St} {H : Hp} {ι : List Addr} {M : Addr → Prop} {S : Store} {x : V} {v : Value} {dx : D} {b : Bool} (sr : SR X.K ι M H S) (rx : Rep X.K ι M H dx x) (e : truth S dx = some b) : TruV X.K x H b := by
  cases dx with
  | non => cases e; rw [show x = _ from rx]; rfl
  | bl c => cases e; rw [show x = _ from rx]; rfl
  | int i => cases e; rw [show x = _ from rx]; rfl
  | str z =>
    simp only [truth] at e
    by_cases c : z.length ≤ line
    · rw [if_pos c] at e
      cases e
      rw [show x = _ from rx]
      exact ⟨by rw [← line_eq]; exact c, rfl⟩
    · rw [if_neg c] at e
      cases e
  | tup xs =>
    obtain ⟨a, vs, rfl, h1, h2, h3⟩ := rx
    cases e
    have l := h3.length
    refine .inr (.inl ⟨vs, h1.sq, ?_⟩)
    cases xs <;> cases vs <;> first | rfl | simp at l
  | lst xs =>
    obtain ⟨a, vs, rfl, h1, h2, h3⟩ := rx
    cases e
    have l := h3.length
    refine .inl ⟨vs, h1.sq, ?_⟩
    cases xs <;> cases vs <;> first | rfl | simp at l
  | ref n =>
    obtain ⟨a, rfl, h2⟩ := rx
    obtain ⟨o, h3, h4⟩ := sr.get h2
    simp only [truth, h3] at e
    cases o with
    | dic _ _ => cases e
    | lok _ _ => cases e
    | lst xs =>
      cases e
      obtain ⟨vs, h5, h6, h7⟩ := h4
      have l := h7.length
      refine .inl ⟨vs, .of h5, ?_⟩
      cases xs <;> cases vs <;> first | rfl | simp at l
  | dic _ _ => cases e
  | ty _ => cases e
  | exc _ _ _ => cases e
/-- a[i] -/
theorem atI_of {K : Fg} {ι : List Addr} {M : Addr → Prop} {H : Hp} {xs : List D} {vs : List V} {k : Int} {d : D} (r : RepL K ι M H xs vs) (e : atI xs k = some d) : ∃ v, atI vs k = some v ∧ Rep K ι M H d v := by
  unfold atI at e ⊢
  rw [← r.length]
  cases q : ixN xs.length k with
  | none => rw [q] at e; cases e
  | some j =>
    rw [q] at e
    exact RepL.get r e
theorem zip_of {K : Fg} {ι : List Addr} {M : Addr → Prop} {H : Hp} (k : Key) {d : D} {w : V} (rw' : Rep K ι M H d w) : ∀ {ds : List D} {kvs : List (Key × V)}, RepL K ι M H ds (kvs.map (·.2)) →
    RepL K ι M H (List.zipWith (fun q z => if q = k then d else z) (kvs.map (·.1)) ds) ((kvs.map fun kv => if kv.1 = k then (kv.1, w) else kv).map (·.2))
  | ds, [], r => by
    rw [show (List.zipWith (fun q z => if q = k then d else z) (([] : List (Key × V)).map (·.1)) ds) = [] by simp]
    exact .nil
  | [], p :: kvs, r => by cases (show p.2 :: kvs.map (·.2) = [] from r)
  | e :: ds, p :: kvs, r => by
    obtain ⟨v', r', e', h1, h2⟩ := r
    rw [List.map_cons] at e'
    obtain ⟨e1, e2⟩ := List.cons.inj e'
    subst e1
    subst e2
    have ih := zip_of k rw' h2
    simp only [List.map_cons, List.zipWith_cons_cons]
    by_cases c : p.1 = k
    · simp only [if_pos c]
      exact .cons rw' ih
    · simp only [if_neg c]
      exact .cons h1 ih
theorem setK_of {K : Fg} {ι : List Addr} {M : Addr → Prop} {H : Hp} (k : Key) {d : D} {w : V} (rw' : Rep K ι M H d w) {ds : List D} {kvs : List (Key × V)} (r : RepL K ι M H ds (kvs.map (·.2))) :
    (L2.putK kvs k w).map (·.1) = (Mp.putK k d (kvs.map (·.1)) ds).1 ∧ RepL K ι M H (Mp.putK k d (kvs.map (·.1)) ds).2 ((L2.putK kvs k w).map (·.2)) := by
  unfold L2.putK Mp.putK
  rw [List.any_map]
  by_cases c : (kvs.any fun kv => decide (kv.1 = k)) = true
  · have c' : (kvs.any ((fun q => decide (q = k)) ∘ fun x => x.1)) = true := c
    rw [if_pos c, if_pos c']
    refine ⟨?_, zip_of k rw' r⟩
    rw [List.map_map]
    refine List.map_congr_left fun p _ => ?_
    show (if p.1 = k then (p.1, w) else p).1 = p.1
    by_cases e : p.1 = k
    · rw [if_pos e]
    · rw [if_neg e]
  · have c' : ¬ (kvs.any ((fun q => decide (q = k)) ∘ fun x => x.1)) = true := c
    rw [if_neg c, if_neg c']
    refine ⟨by simp, ?_⟩
    rw [List.map_append]
    exact r.append (.one rw')
theorem ix_sound {W : WX} {pins : Pn} {s : Shared} {σ : L2.St} {H : Hp} {ι : List Addr} {M : Addr → Prop} {S : Store} {x y : V} {v u : Value} {dx dy : D} {Q : VK} {value slice : Expr} (hu : X.A.units + 64 < cLine) (I : Inv X pins σ H s) (rv : RelV x v) (ru : RelV y u)
    (sr : SR X.K ι M H S) (rx : Rep X.K ι M H dx x) (ry : Rep X.K ι M H dy y) (h : PostE X.K X.mg W σ ι M H (ofD (ixop dx dy S) S) Q) (hs : subscripted slice false v u = operate [v, u] (getItem v u)) :
    wpAny (model X.prog X.w) X.A (subscriptTail value slice v u) (EP X pins σ Q) X.xe s := by
  have via : PostE X.K X.mg W σ ι M H (ofD (ixAny S dx dy) S) Q → wpAny (model X.prog X.w) X.A (subscriptTail value slice v u) (EP X pins σ Q) X.xe s := by
    intro h
    unfold ixAny at h
    cases ed : dicOf S dx with
    | some kd =>
      obtain ⟨ks, ds⟩ := kd
      rw [ed] at h
      simp only at h
      obtain ⟨a, kvs, rfl, h1, h2, h3⟩ := dic_of sr rx ed
      cases ek : keyOf dy with
      | none => simp only [ixDic, ek] at h; exact h.bad
      | some k =>
        simp only [ixDic, ek] at h
        have ex := key_of ry ek
        subst ex
        have f := find_of (k := k) h2 h3
        cases ef : findK k ks ds with
        | none => rw [ef] at h; exact h.bad
        | some d =>
          rw [ef] at h
          obtain ⟨w', e1, e2⟩ := f.1 d ef
          have q := h.done sr e2
          cases rv
          have g : DGet H a (kV k) (some w') := by
            rw [← e1]
            exact (.inl ⟨kvs, k, h1, rfl, rfl⟩ : DGet H a (kV k) (valV kvs k))
          exact tail_any (dict_typeIs I g) PySem.F.slot_dict_getitem.lookup (d_getItem (by omega) I g ru fun w2 s2 J2 r2 => ⟨w', H, J2, r2, q⟩) hs
    | none =>
      rw [ed] at h
      simp only at h
      cases es : seqOf S dx with
      | none => rw [es] at h; exact h.bad
      | some xs =>
        rw [es] at h
        obtain ⟨a, vs, rfl, h1, h2, h3⟩ := seq_of sr rx es
        cases dy with
        | int k =>
          obtain rfl : y = .int k := ry
          simp only [ixSeq] at h
          cases ea : atI xs k with
          | none => rw [ea] at h; exact h.bad
          | some d =>
            rw [ea] at h
            obtain ⟨w', e1, e2⟩ := atI_of h2 ea
            have q := h.done sr e2
            rcases h1 with h1 | h1
            · exact ix_list value slice pins s σ H _ _ v u Q I rv ru ⟨a, vs, k, w', rfl, rfl, h1.sq, e1, q⟩ hs
            · exact ix_tup value slice pins s σ H _ _ v u Q I rv ru ⟨a, vs, k, w', rfl, rfl, h1, e1, q⟩ hs
        | _ => exact h.bad
  cases dx with
  | str z =>
    obtain rfl : x = .str z := rx
    cases dy with
    | int k =>
      obtain rfl : y = .int k := ry
      simp only [ixop, ixStr] at h
      by_cases c : z.length ≤ line
      · simp only [if_pos c] at h
        cases ea : atI z.cps.toList k with
        | none => simp only [ea] at h; exact h.bad
        | some d =>
          simp only [ea] at h
          have q := h.done sr rfl
          exact ix_str value slice pins s σ H _ _ v u Q I rv ru ⟨z, k, d, rfl, rfl, by rw [← line_eq]; exact c, ea, q⟩ hs
      · simp only [if_neg c] at h
        exact h.bad
    | _ => exact h.bad
  | _ => exact via h
/-- o[i] = v -/
theorem set_sound {pins : Pn} {s : Shared} {σ : L2.St} {H : Hp} {ι : List Addr} {M : Addr → Prop} {S S' : Store} {o i x : V} {ov iv u : Value} {do' di dx : D} {Q : Hp → Prop} (hu : X.A.units + 64 < cLine) (I : Inv X pins σ H s) (ro : RelV o ov) (ri : RelV i iv) (ru : RelV x u)
    (sr : SR X.K ι M H S) (rdo : Rep X.K ι M H do' o) (rdi : Rep X.K ι M H di i) (rdx : Rep X.K ι M H dx x) (e : setop do' di dx S = some S') (q : ∀ H', Adv ι M H ι M H' → SR X.K ι M H' S' → Q H') :
    wpAny (model X.prog X.w) X.A (setItem ov iv u) (fun _ s' => ∃ H', Inv X pins σ H' s' ∧ Q H') X.xe s := by
  cases do' with
  | ref n =>
    obtain ⟨a, rfl, h2⟩ := rdo
    obtain ⟨ob, h3, h4⟩ := sr.get h2
    simp only [setop, h3] at e
    have ha : a ∈ ι := List.mem_of_getElem? h2
    cases ob with
    | lst xs =>
      obtain ⟨vs, h5, h6, h7⟩ := h4
      simp only at e
      cases di with
      | int k =>
        obtain rfl : i = .int k := rdi
        simp only at e
        cases ej : ixN xs.length k with
        | none => rw [ej] at e; cases e
        | some j =>
          rw [ej] at e
          cases e
          have x : Adv ι M H ι M (upd H a (.lst (vs.set j x))) := Adv.write ha (fun _ _ z => by rw [h5] at z; cases z)
          refine set_list pins s σ H _ _ _ ov iv u Q I ro ri ru ⟨a, vs, k, j, rfl, rfl, h5, by rw [← h7.length]; exact ej, q _ x (sr.write h2 (fun _ _ z => by rw [h5] at z; cases z) ⟨_, upd_same, by rw [List.length_set]; exact h6, ?_⟩)⟩
          exact RepL.adv x sr.im _ _ (h7.set j rdx)
      | _ => cases e
    | dic ks ds =>
      obtain ⟨kvs, h5, h6, h7⟩ := h4
      simp only at e
      cases ek : keyOf di with
      | none => rw [ek] at e; cases e
      | some k =>
        rw [ek] at e
        simp only at e
        by_cases c : ks.length < line
        · rw [if_pos c] at e
          cases e
          have ei := key_of rdi ek
          subst ei
          subst h6
          cases ro
          rw [List.length_map, line_eq] at c
          obtain ⟨m1, m2⟩ := setK_of k rdx h7
          have x' : Adv ι M H ι M (upd H a (.dK (L2.putK kvs k x))) := Adv.write ha (fun _ _ z => by rw [h5] at z; cases z)
          exact d_setItem (by omega) I (DPut.k h5 c) ri ru fun s' J => ⟨_, J, q _ x' (sr.write h2 (fun _ _ z => by rw [h5] at z; cases z) ⟨_, upd_same, m1, RepL.adv x' sr.im _ _ m2⟩)⟩
        · rw [if_neg c] at e
          cases e
    | lok _ _ => cases e
  | _ => cases e
end
end Mp
/-! Mp, part F: built-in functions, methods, slices. -/
namespace Mp
open PySem PySem.Spec PyProof.Rows L2
/-- a call of a built-in with values -/
def CallS (X : Cx) (f : Value) (h : List D → Store → R D) : Prop :=
  ∀ (W : WX) (pins : Pn) (s : Shared) (σ : L2.St) (H : Hp) (ι : List Addr) (M : Addr → Prop) (S : Store) (vs : List V) (us : List Value) (ds : List D) (Q : VK), Inv X pins σ H s → Vals vs us → SR X.K ι M H S → RepL X.K ι M H ds vs →
    PostE X.K X.mg W σ ι M H (h ds S) Q → wpAny (model X.prog X.w) X.A (call f us) (EP X pins σ Q) X.xe s
section
variable {prog : Program} {w : World} {A : Around} {E : Value → Shared → Prop} {s : Shared} {l : Addr} {its : List Value} {ns : List Int} {Q : Value → Shared → Prop}
theorem sum_rawB (hh : A.handled = none) (hl : s.heap.IsList l its.toArray) (hn : its.length = ns.length) (hi : ∀ (i : Nat) v, its[i]? = some v → NumOf (ns.getD i 0) v)
    (h : ∀ h' tk t', (∀ b o, s.heap.get? b = some o → h'.get? b = some o) → Q (.int ns.sum t') { s with heap := h', toks := tk }) : wpAny (model prog w) A (call (.builtin "sum") [.ref l]) Q E s := by
  have hlt : l < s.heap.objs.size := by obtain ⟨_, e, _⟩ := hl; exact Heap.lt_size e
  refine PySem.call_sum_walkAnyB (wpAny_pyIter_list hl ?_)
  refine ⟨_, _, _, _, _, _, _, fun i => ns.getD i 0, rfl, (Walks.list (A := A.in1) hh _ l (Nat.ne_of_lt hlt) its.toArray).toS, ⟨⟨_, Heap.get?_push_size _ rfl, rfl, rfl⟩, hl.push _⟩, fun b hb => ?_, fun i v hv => hi i v (by simpa using hv), fun s' t' hm => ?_⟩
  · show b < (s.heap.push _).objs.size
    rw [Heap.size_push]
    rcases List.mem_cons.mp hb with rfl | hb
    · exact Nat.lt_succ_self _
    · rcases List.mem_cons.mp hb with rfl | hb
      · exact Nat.lt_succ_of_lt hlt
      · cases hb
  · have e := PyProof.Rows.preSum_getD ns its.length
    rw [List.take_of_length_le (by omega)] at e
    have e2 : preSum (fun i => ns.getD i 0) its.toArray.size = ns.sum := by rw [List.size_toArray]; exact e
    rw [e2]
    obtain ⟨m1, m2, m3, m4, m5⟩ := hm
    cases s' with
    | mk hp gs dr tk os =>
      obtain rfl : gs = s.gens := m2
      obtain rfl : dr = s.drawn := m3
      obtain rfl : os = s.os := m4
      exact h hp tk t' (PySem.old_kept m1)
end
/-- a number or a truth, for sum -/
def VNum (i : Int) (v : V) : Prop := v = .int i ∨ ∃ b : Bool, v = .bl b ∧ i = if b = true then 1 else 0
theorem numOf_of {vs : List V} {us : List Value} {ns : List Int} (r : Vals vs us) (e : ∀ i v, vs[i]? = some v → VNum (ns.getD i 0) v) {i : Nat} {u : Value} (h : us[i]? = some u) : NumOf (ns.getD i 0) u := by
  have hlt : i < vs.length := by
    rw [r.length]
    exact (List.getElem?_eq_some_iff.mp h).1
  obtain ⟨u', e1, e2⟩ := r.get (List.getElem?_eq_getElem hlt)
  rw [h] at e1
  cases e1
  rcases e i _ (List.getElem?_eq_getElem hlt) with z | ⟨b, z1, z2⟩
  · rw [z] at e2
    obtain ⟨t, rfl⟩ := e2
    exact .inl ⟨t, rfl⟩
  · rw [z1] at e2
    obtain rfl : u = .bool b := e2
    exact .inr ⟨b, rfl, z2⟩
section
variable {K : Fg} {ι : List Addr} {M : Addr → Prop} {H : Hp}
theorem ints_of : ∀ {ds : List D} {vs : List V} {is : List Int}, RepL K ι M H ds vs → intsOf ds = some is → vs = is.map V.int
  | [], vs, is, r, e => by
    cases e
    exact r
  | d :: ds, vs, is, r, e => by
    obtain ⟨v, r', rfl, h1, h2⟩ := r
    cases d with
    | int i =>
      simp only [intsOf] at e
      cases q : intsOf ds with
      | none => rw [q] at e; cases e
      | some js =>
        rw [q] at e
        cases e
        rw [show v = .int i from h1, ints_of h2 q]
        rfl
    | _ => cases e
theorem ints_map (is : List Int) : intsOf (is.map .int) = some is := by
  induction is with
  | nil => rfl
  | cons i r ih => simp only [List.map_cons, intsOf, ih]
theorem rep_ints (is : List Int) : RepL K ι M H (is.map .int) (is.map V.int) := by
  induction is with
  | nil => exact .nil
  | cons i r ih => exact .cons rfl ih
theorem sum_of : ∀ {ds : List D} {vs : List V} {n : Int}, RepL K ι M H ds vs → sumI ds = some n → ∃ is : List Int, vs.length = is.length ∧ (∀ i v, vs[i]? = some v → VNum (is.getD i 0) v) ∧ is.sum = n
  | [], vs, n, r, e => by
    cases e
    obtain rfl : vs = [] := r
    exact ⟨[], rfl, fun i v h => by simp at h, rfl⟩
  | d :: ds, vs, n, r, e => by
    obtain ⟨v, r', rfl, h1, h2⟩ := r
    have key : ∀ (i : Int), VNum i v → (match sumI ds with | some s => some (i + s) | none => none) = some n → ∃ is : List Int, (v :: r').length = is.length ∧ (∀ j w, (v :: r')[j]? = some w → VNum (is.getD j 0) w) ∧ is.sum = n := by
      intro i hv e
      cases q : sumI ds with
      | none => rw [q] at e; cases e
      | some js =>
        rw [q] at e
        cases e
        obtain ⟨is, e1, e2, e3⟩ := sum_of h2 q
        refine ⟨i :: is, by simp [e1], fun j w hw => ?_, by rw [List.sum_cons, e3]⟩
        cases j with
        | zero => simp at hw; subst hw; simpa using hv
        | succ j => simpa using e2 j w (by simpa using hw)
    cases d with
    | int i => exact key i (.inl h1) e
    | bl b => exact key _ (.inr ⟨b, h1, rfl⟩) e
    | _ => cases e
theorem all_of' : ∀ {ds : List D} {vs : List V} {b : Bool}, RepL K ι M H ds vs → allB ds = some b → ∃ bs : List Bool, vs = bs.map V.bl ∧ bs.all id = b
  | [], vs, n, r, e => by
    cases e
    exact ⟨[], r, rfl⟩
  | d :: ds, vs, n, r, e => by
    obtain ⟨v, r', rfl, h1, h2⟩ := r
    cases d with
    | bl i =>
      simp only [allB] at e
      cases q : allB ds with
      | none => rw [q] at e; cases e
      | some js =>
        rw [q] at e
        cases e
        obtain ⟨is, e1, e2⟩ := all_of' h2 q
        exact ⟨i :: is, by rw [show v = .bl i from h1, e1]; rfl, by rw [List.all_cons, e2]; rfl⟩
    | _ => cases e
theorem any_of' : ∀ {ds : List D} {vs : List V} {b : Bool}, RepL K ι M H ds vs → anyB ds = some b → ∃ bs : List Bool, vs = bs.map V.bl ∧ bs.any id = b
  | [], vs, n, r, e => by
    cases e
    exact ⟨[], r, rfl⟩
  | d :: ds, vs, n, r, e => by
    obtain ⟨v, r', rfl, h1, h2⟩ := r
    cases d with
    | bl i =>
      simp only [anyB] at e
      cases q : anyB ds with
      | none => rw [q] at e; cases e
      | some js =>
        rw [q] at e
        cases e
        obtain ⟨is, e1, e2⟩ := any_of' h2 q
        exact ⟨i :: is, by rw [show v = .bl i from h1, e1]; rfl, by rw [List.any_cons, e2]; rfl⟩
    | _ => cases e
theorem fold_max : ∀ (l : List Int) (a : Int), (l.foldl (fun m x => if x > m then x else m) a = a ∨ l.foldl (fun m x => if x > m then x else m) a ∈ l) ∧ a ≤ l.foldl (fun m x => if x > m then x else m) a ∧ ∀ y ∈ l, y ≤ l.foldl (fun m x => if x > m then x else m) a
  | [], a => ⟨.inl rfl, Int.le_refl _, fun y h => by simp at h⟩
  | x :: l, a => by
    simp only [List.foldl_cons]
    obtain ⟨h1, h2, h3⟩ := fold_max l (if x > a then x else a)
    have ha : a ≤ (if x > a then x else a) ∧ x ≤ (if x > a then x else a) := by split <;> omega
    refine ⟨?_, by omega, fun y hy => ?_⟩
    · rcases h1 with h1 | h1
      · rw [h1]
        split
        · exact .inr (List.mem_cons_self ..)
        · exact .inl rfl
      · exact .inr (List.mem_cons_of_mem _ h1)
    · rcases List.mem_cons.mp hy with rfl | hy
      · omega
      · exact h3 y hy
theorem fold_min : ∀ (l : List Int) (a : Int), (l.foldl (fun m x => if x < m then x else m) a = a ∨ l.foldl (fun m x => if x < m then x else m) a ∈ l) ∧ l.foldl (fun m x => if x < m then x else m) a ≤ a ∧ ∀ y ∈ l, l.foldl (fun m x => if x < m then x else m) a ≤ y
  | [], a => ⟨.inl rfl, Int.le_refl _, fun y h => by simp at h⟩
  | x :: l, a => by
    simp only [List.foldl_cons]
    obtain ⟨h1, h2, h3⟩ := fold_min l (if x < a then x else a)
    have ha : (if x < a then x else a) ≤ a ∧ (if x < a then x else a) ≤ x := by split <;> omega
    refine ⟨?_, by omega, fun y hy => ?_⟩
    · rcases h1 with h1 | h1
      · rw [h1]
        split
        · exact .inr (List.mem_cons_self ..)
        · exact .inl rfl
      · exact .inr (List.mem_cons_of_mem _ h1)
    · rcases List.mem_cons.mp hy with rfl | hy
      · omega
      · exact h3 y hy
theorem insI_perm (x : Int) : ∀ l : List Int, (insI x l).Perm (x :: l)
  | [] => .refl _
  | y :: l => by
    unfold insI
    split
    · exact .refl _
    · exact ((insI_perm x l).cons y).trans (.swap x y l)
theorem insI_sorted (x : Int) : ∀ l : List Int, l.Pairwise (· ≤ ·) → (insI x l).Pairwise (· ≤ ·)
  | [], _ => by simp [insI]
  | y :: l, h => by
    unfold insI
    rw [List.pairwise_cons] at h
    split
    · rename_i hxy
      refine List.pairwise_cons.mpr ⟨fun z hz => ?_, List.pairwise_cons.mpr h⟩
      rcases List.mem_cons.mp hz with rfl | hz
      · exact hxy
      · exact Int.le_trans hxy (h.1 z hz)
    · rename_i hxy
      refine List.pairwise_cons.mpr ⟨fun z hz => ?_, insI_sorted x l h.2⟩
      rcases List.mem_cons.mp ((insI_perm x l).mem_iff.mp hz) with rfl | hz
      · omega
      · exact h.1 z hz
theorem sortI_perm : ∀ l : List Int, (sortI l).Perm l
  | [] => .refl _
  | x :: l => (insI_perm x (sortI l)).trans ((sortI_perm l).cons x)
theorem sortI_sorted : ∀ l : List Int, (sortI l).Pairwise (· ≤ ·)
  | [] => .nil
  | x :: l => insI_sorted x _ (sortI_sorted l)
theorem sorted_one {l l' : List Int} (p : l.Perm l') (h : l.Pairwise (· ≤ ·)) (h' : l'.Pairwise (· ≤ ·)) : l = l' :=
  List.Perm.eq_of_pairwise (le := (· ≤ ·)) (fun a b _ _ h1 h2 => Int.le_antisymm h1 h2) h h' p
/-- the type of a value, for isinstance -/
theorem tyx_of {S : Store} {d : D} {x : V} (s : SR K ι M H S) (r : Rep K ι M H d x) (h : (tyName d S == "?") = false) : TyX K H x (.type (tyName d S)) := by
  cases d with
  | non => rw [show x = _ from r]; exact .base .non
  | bl b => rw [show x = _ from r]; exact .base (.bl b)
  | int b => rw [show x = _ from r]; exact .base (.int b)
  | str b => rw [show x = _ from r]; exact .base (.str b)
  | ty b => cases (show true = false from h)
  | tup b =>
    obtain ⟨a, vs, rfl, h1, _⟩ := r
    rcases h1 with ⟨h1 | ⟨o, h1⟩, _⟩ | ⟨o, its, n, h1, h2, _⟩
    · exact .base (.tup h1)
    · exact .fTuple h1
    · exact .kTuple h1 h2
  | lst b =>
    obtain ⟨a, vs, rfl, h1, _⟩ := r
    rcases h1 with ⟨h1 | ⟨o, h1⟩, _⟩ | ⟨its, n, h1, h2, _⟩
    · exact .base (.lst h1)
    · exact .base (.frz h1)
    · exact .kList h1 rfl
  | dic b =>
    obtain ⟨a, o, kvs, rfl, h1, _⟩ := r
    exact .fDict h1.1
  | ref n =>
    obtain ⟨a, rfl, h2⟩ := r
    obtain ⟨o, h3, h4⟩ := s.get h2
    simp only [tyName, h3]
    cases o with
    | lst xs =>
      obtain ⟨vs, h5, _⟩ := h4
      exact .base (.lst h5)
    | dic ks ds =>
      obtain ⟨kvs, h5, _⟩ := h4
      exact .base (.dK h5)
    | lok ks ds =>
      obtain ⟨o', kvs, h5, _⟩ := h4
      exact .fDict h5
  | exc => exact (show False from r).elim
theorem tyName_in {S : Store} {d : D} (h : (tyName d S == "?") = false) : tyName d S ∈ ["NoneType", "bool", "int", "str", "tuple", "list", "dict"] := by
  cases d with
  | ref n =>
    simp only [tyName] at h ⊢
    cases q : S[n]? with
    | none => rw [q] at h; cases (show true = false from h)
    | some o => cases o <;> simp
  | ty _ => cases (show true = false from h)
  | exc _ _ _ => cases (show true = false from h)
  | _ => simp [tyName]
theorem kit_one {t n : String} (ht : t ∈ ["NoneType", "bool", "int", "str", "tuple", "list", "dict"]) (hn : knownTy n = true) : PySem.W.kitOne K (.type t) (.type n) = some (isOne t n) := by
  refine kit_ty ?_
  have hn' : n ∈ ["int", "bool", "str", "tuple", "list", "dict"] := by
    simp only [knownTy, Bool.or_eq_true, beq_iff_eq] at hn
    rcases hn with ((((h | h) | h) | h) | h) | h <;> simp [h]
  have all : (["NoneType", "bool", "int", "str", "tuple", "list", "dict"].all fun t => ["int", "bool", "str", "tuple", "list", "dict"].all fun n => decide (kitB t n = some (isOne t n))) = true := by decide +kernel
  rw [List.all_eq_true] at all
  have a2 := all t ht
  rw [List.all_eq_true] at a2
  exact of_decide_eq_true (a2 n hn')
end
section
variable {X : Cx}
theorem len_of {K : Fg} {ι : List Addr} {M : Addr → Prop} {H : Hp} {S : Store} {d : D} {x : V} {n : Nat} (s : SR K ι M H S) (r : Rep K ι M H d x) (e : lenOf S d = some n) : LenV K x H n ∨ ∃ a kvs, x = .ref a ∧ Rd H a (.dK kvs) ∧ n = kvs.length := by
  cases d with
  | str z =>
    simp only [lenOf] at e
    by_cases c : z.length ≤ line
    · rw [if_pos c] at e
      cases e
      rw [show x = _ from r]
      exact .inl ⟨by rw [← line_eq]; exact c, rfl⟩
    · rw [if_neg c] at e
      cases e
  | dic ks vs =>
    cases e
    obtain ⟨a, o, kvs, rfl, h1, h3, h4⟩ := r
    exact .inr ⟨a, kvs, rfl, .inr ⟨o, h1.1⟩, by rw [← h3, List.length_map]⟩
  | tup xs =>
    cases e
    obtain ⟨a, vs, rfl, h1, h2, h3⟩ := r
    exact .inl (.inr ⟨vs, h1.sq, h3.length⟩)
  | lst xs =>
    cases e
    obtain ⟨a, vs, rfl, h1, h2, h3⟩ := r
    exact .inl (.inl ⟨vs, h1.sq, h3.length⟩)
  | ref m =>
    obtain ⟨a, rfl, h2⟩ := r
    obtain ⟨o, h3, h4⟩ := s.get h2
    simp only [lenOf, h3] at e
    cases o with
    | lst xs =>
      cases e
      obtain ⟨vs, h5, h6, h7⟩ := h4
      exact .inl (.inl ⟨vs, .of h5, h7.length⟩)
    | dic ks ds =>
      cases e
      obtain ⟨kvs, h5, h6, h7⟩ := h4
      exact .inr ⟨a, kvs, rfl, .inl h5, by rw [← h6, List.length_map]⟩
    | lok ks ds =>
      cases e
      obtain ⟨o', kvs, h5, h6, h7⟩ := h4
      exact .inr ⟨a, kvs, rfl, .inr ⟨o', h5⟩, by rw [← h6, List.length_map]⟩
  | _ => cases e
def bltV : BI → Value
  | .len => .builtin "len" | .abs => .builtin "abs" | .sum => .builtin "sum" | .all => .builtin "all" | .any => .builtin "any" | .max => .builtin "max" | .min => .builtin "min"
  | .sorted => .builtin "sorted" | .isinst => .builtin "isinstance" | .gcd => .builtin "math.gcd"
  | .int => .type "int" | .tuple => .type "tuple" | .list => .type "list" | .str => .type "str" | .dict => .type "dict"
theorem merge_nodup : ∀ (kvs acc : List (Key × V)), (kvs.map (·.1)).Nodup → (∀ p ∈ kvs, ∀ q ∈ acc, q.1 ≠ p.1) → mergeK acc kvs = acc ++ kvs
  | [], acc, _, _ => by simp [mergeK]
  | p :: kvs, acc, hn, hd => by
    have hp : L2.putK acc p.1 p.2 = acc ++ [p] := by
      unfold L2.putK
      rw [if_neg]
      intro z
      obtain ⟨q, hq, e⟩ := List.any_eq_true.mp z
      exact hd p List.mem_cons_self q hq (of_decide_eq_true e)
    have hn' := List.nodup_cons.mp (by simpa only [List.map_cons] using hn)
    have ih := merge_nodup kvs (acc ++ [p]) hn'.2 (fun r hr q hq => by
      rcases List.mem_append.mp hq with hq | hq
      · exact hd r (List.mem_cons_of_mem _ hr) q hq
      · have : q = p := by simpa using hq
        rw [this]
        intro e
        exact hn'.1 (List.mem_map.mpr ⟨r, hr, e.symm⟩))
    show mergeK (L2.putK acc p.1 p.2) kvs = _
    rw [hp, ih, List.append_assoc]
    rfl
theorem pairs_of' {K : Fg} {ι : List Addr} {M : Addr → Prop} {H : Hp} : ∀ {xs : List D} {vs : List V} {ks : List Key} {ds : List D}, RepL K ι M H xs vs → pairsOf xs = some (ks, ds) →
    ∃ (ps : List Addr) (kvs : List (Key × V)), vs = ps.map V.ref ∧ Paired (fun p kv => SqT K H p [kV kv.1, kv.2]) ps kvs ∧ kvs.map (·.1) = ks ∧ RepL K ι M H ds (kvs.map (·.2))
  | [], vs, ks, ds, r, e => by
    cases e
    obtain rfl : vs = [] := r
    exact ⟨[], [], rfl, .nil, rfl, .nil⟩
  | x :: xs, vs, ks, ds, r, e => by
    obtain ⟨v, r', rfl, h1, h2⟩ := r
    unfold pairsOf at e
    split at e
    · cases ‹x :: xs = []›
    · rename_i k d rr heq
      cases heq
      split at e
      · rename_i q hq
        split at e
        · rename_i ks' ds' hp
          cases e
          obtain ⟨ps, kvs, e1, e2, e3, e4⟩ := pairs_of' h2 hp
          obtain ⟨a, us, e5, e6, e7, e8⟩ := h1
          obtain ⟨ku, r1, rfl, g1, g2⟩ := e8
          obtain ⟨vu, r2, rfl, g3, g4⟩ := g2
          obtain rfl : r2 = [] := g4
          have hk : ku = kV q := by
            cases k <;> first | (cases hq; exact g1) | cases hq
          subst hk
          exact ⟨a :: ps, (q, vu) :: kvs, by rw [e5, e1]; rfl, .cons e6.sq e2, by rw [List.map_cons, e3], ⟨vu, _, rfl, g3, e4⟩⟩
        · cases e
      · cases e
    · cases e
theorem blt1_sound (b : BI) (fz : Bool) (hc : X.calm = true) {W : WX} {pins : Pn} {s : Shared} {σ : L2.St} {H : Hp} {ι : List Addr} {M : Addr → Prop} {S : Store} {x : V} {us : List Value} {d : D} {Q : VK} (I : Inv X pins σ H s) (rv : Vals [x] us)
    (sr : SR X.K ι M H S) (r : Rep X.K ι M H d x) (h : PostE X.K X.mg W σ ι M H (blt1 b fz d S) Q) : wpAny (model X.prog X.w) X.A (call (bltV b) us) (EP X pins σ Q) X.xe s := by
  have viaI : ∀ {f : List Int → R D}, PostE X.K X.mg W σ ι M H (match lstOf S d with
      | some xs => match intsOf xs with | some is => f is | none => .bad
      | none => .bad) Q → ∃ a is, x = .ref a ∧ SqL X.K H a (is.map V.int) ∧ PostE X.K X.mg W σ ι M H (f is) Q ∧ is.length ≤ line := by
    intro f h
    cases ex : lstOf S d with
    | none => rw [ex] at h; exact h.bad
    | some xs =>
      rw [ex] at h
      simp only at h
      obtain ⟨a, vs, rfl, h1, h2, h3⟩ := lst_of sr r ex
      cases ei : intsOf xs with
      | none => rw [ei] at h; exact h.bad
      | some is =>
        rw [ei] at h
        have ev := ints_of h2 ei
        subst ev
        exact ⟨a, is, rfl, h1.sq, h, by have l := h2.length; rw [List.length_map] at l; omega⟩
  cases b with
  | len =>
    simp only [blt1] at h
    cases e : lenOf S d with
    | none => rw [e] at h; exact h.bad
    | some n =>
      rw [e] at h
      have q := h.done sr rfl
      rcases len_of sr r e with l | ⟨a, kvs, rfl, h1, rfl⟩
      · exact call_len pins s σ H _ us Q I rv ⟨x, n, rfl, l, q⟩
      · obtain ⟨u, rfl, ru⟩ := vals1 rv
        cases ru
        exact d_len I h1 fun t s' I' => ⟨.int kvs.length, H, I', ⟨t, rfl⟩, q⟩
  | abs =>
    cases d with
    | int i =>
      obtain rfl : x = .int i := r
      exact call_abs pins s σ H _ us Q I rv ⟨i, rfl, h.done sr rfl⟩
    | _ => exact h.bad
  | int =>
    cases d with
    | int i =>
      obtain rfl : x = .int i := r
      exact call_int1 pins s σ H _ us Q I rv (.inl ⟨i, rfl, h.done sr rfl⟩)
    | bl i =>
      obtain rfl : x = .bl i := r
      exact call_int1 pins s σ H _ us Q I rv (.inr ⟨i, rfl, h.done sr rfl⟩)
    | _ => exact h.bad
  | sum =>
    simp only [blt1] at h
    cases ex : lstOf S d with
    | none => rw [ex] at h; exact h.bad
    | some xs =>
      rw [ex] at h
      simp only at h
      obtain ⟨a, vs, rfl, h1, h2, h3⟩ := lst_of sr r ex
      cases ei : sumI xs with
      | none => rw [ei] at h; exact h.bad
      | some n =>
        rw [ei] at h
        obtain ⟨is, e0, e1, e2⟩ := sum_of h2 ei
        subst e2
        obtain ⟨its, rw', hl, _⟩ := I.list h1.sq
        rw [Vals.ref1 rv]
        exact sum_rawB (I.ok.hd hc) hl.isList (rw'.length.symm.trans e0) (fun i v hv => numOf_of rw' e1 hv) fun h' tk t' hk => ⟨.int _, H, I.kept hk, ⟨_, rfl⟩, h.done sr rfl⟩
  | all =>
    simp only [blt1] at h
    cases ex : lstOf S d with
    | none => rw [ex] at h; exact h.bad
    | some xs =>
      rw [ex] at h
      simp only at h
      obtain ⟨a, vs, rfl, h1, h2, h3⟩ := lst_of sr r ex
      cases ei : allB xs with
      | none => rw [ei] at h; exact h.bad
      | some n =>
        rw [ei] at h
        obtain ⟨is, e1, e2⟩ := all_of' h2 ei
        subst e1
        subst e2
        exact cr_all hc pins s σ H _ us Q I rv ⟨a, is, rfl, h1.sq, h.done sr rfl⟩
  | any =>
    simp only [blt1] at h
    cases ex : lstOf S d with
    | none => rw [ex] at h; exact h.bad
    | some xs =>
      rw [ex] at h
      simp only at h
      obtain ⟨a, vs, rfl, h1, h2, h3⟩ := lst_of sr r ex
      cases ei : anyB xs with
      | none => rw [ei] at h; exact h.bad
      | some n =>
        rw [ei] at h
        obtain ⟨is, e1, e2⟩ := any_of' h2 ei
        subst e1
        subst e2
        exact cr_any hc pins s σ H _ us Q I rv ⟨a, is, rfl, h1.sq, h.done sr rfl⟩
  | max =>
    obtain ⟨a, is, rfl, h1, h, _⟩ := viaI (f := fun is => match maxI is with | some m => .ok (.int m) S | none => .bad) h
    cases is with
    | nil => exact h.bad
    | cons i is =>
      have q := h.done sr rfl
      obtain ⟨f1, f2, f3⟩ := fold_max is i
      refine cr_max hc pins s σ H _ us Q I rv ⟨a, i :: is, rfl, h1, by simp, fun m hm hle => ?_⟩
      have e : m = is.foldl (fun m x => if x > m then x else m) i := by
        refine Int.le_antisymm ?_ (hle _ ?_)
        · rcases List.mem_cons.mp hm with rfl | hm
          · exact f2
          · exact f3 m hm
        · rcases f1 with f1 | f1
          · rw [f1]; exact List.mem_cons_self ..
          · exact List.mem_cons_of_mem _ f1
      rw [e]
      exact q
  | min =>
    obtain ⟨a, is, rfl, h1, h, _⟩ := viaI (f := fun is => match minI is with | some m => .ok (.int m) S | none => .bad) h
    cases is with
    | nil => exact h.bad
    | cons i is =>
      have q := h.done sr rfl
      obtain ⟨f1, f2, f3⟩ := fold_min is i
      refine cr_min hc pins s σ H _ us Q I rv ⟨a, i :: is, rfl, h1, by simp, fun m hm hle => ?_⟩
      have e : m = is.foldl (fun m x => if x < m then x else m) i := by
        refine Int.le_antisymm (hle _ ?_) ?_
        · rcases f1 with f1 | f1
          · rw [f1]; exact List.mem_cons_self ..
          · exact List.mem_cons_of_mem _ f1
        · rcases List.mem_cons.mp hm with rfl | hm
          · exact f2
          · exact f3 m hm
      rw [e]
      exact q
  | sorted =>
    obtain ⟨a, is, rfl, h1, h, hl⟩ := viaI (f := fun is => Mp.alloc fz ((sortI is).map .int) S) h
    refine cr_sortedI pins s σ H _ us Q I rv ⟨a, is, rfl, h1, fun ns' p hp hs new => ?_⟩
    have e : ns' = sortI is := sorted_one (hp.trans (sortI_perm is).symm) hs (sortI_sorted is)
    subst e
    exact h.alloc sr (rep_ints _) (by rw [List.length_map, (sortI_perm is).length_eq]; exact hl) new
  | tuple =>
    simp only [blt1] at h
    cases es : seqOf S d with
    | none => rw [es] at h; exact h.bad
    | some xs =>
      rw [es] at h
      cases d with
      | tup ys =>
        cases es
        obtain ⟨a, vs, rfl, h1, h2, h3⟩ := id r
        exact call_tuple_of pins s σ H _ us Q I rv ⟨a, vs, rfl, .inr ⟨h1.sq, h.done sr r⟩⟩
      | lst ys =>
        obtain ⟨a, vs, rfl, h1, h2, h3⟩ := lst_of (xs := xs) sr r es
        exact call_tuple_of pins s σ H _ us Q I rv ⟨a, vs, rfl, .inl ⟨h1.sq, fun p hp => h.tup sr h2 h3 hp⟩⟩
      | ref n =>
        obtain ⟨a, vs, rfl, h1, h2, h3⟩ := lst_of (xs := xs) sr r es
        exact call_tuple_of pins s σ H _ us Q I rv ⟨a, vs, rfl, .inl ⟨h1.sq, fun p hp => h.tup sr h2 h3 hp⟩⟩
      | _ => cases es
  | list =>
    simp only [blt1] at h
    cases es : seqOf S d with
    | none => rw [es] at h; exact h.bad
    | some xs =>
      rw [es] at h
      obtain ⟨a, vs, rfl, h1, h2, h3⟩ := seq_of sr r es
      exact call_list_of pins s σ H _ us Q I rv ⟨a, vs, rfl, h1.elim (fun z => .inl z.sq) .inr, fun p hp => h.alloc sr h2 h3 hp⟩
  | str =>
    cases d with
    | int i =>
      obtain rfl : x = .int i := r
      simp only [blt1] at h
      by_cases c : i.natAbs.log2 < 1920
      · simp only [if_pos c] at h
        exact call_str_int pins s σ H _ us Q I rv ⟨i, rfl, c, h.done sr rfl⟩
      · simp only [if_neg c] at h
        exact h.bad
    | _ => exact h.bad
  | dict =>
    simp only [blt1] at h
    cases ex : lstOf S d with
    | none => rw [ex] at h; exact h.bad
    | some xs =>
      rw [ex] at h
      simp only at h
      obtain ⟨a, vs, rfl, h1, h2, h3⟩ := lst_of sr r ex
      cases ep : pairsOf xs with
      | none => rw [ep] at h; exact h.bad
      | some kd =>
        obtain ⟨ks, ds⟩ := kd
        rw [ep] at h
        simp only at h
        obtain ⟨ps, kvs, e1, e2, e3, e4⟩ := pairs_of' h2 ep
        subst e1
        unfold dicR at h
        by_cases hn : ks.Nodup
        · rw [if_pos hn] at h
          have hm : mergeK [] kvs = kvs := by
            have := merge_nodup kvs [] (by rw [e3]; exact hn) (fun _ _ _ hq => by cases hq)
            simpa using this
          cases fz with
          | false =>
            refine call_dictP hc pins s σ H _ us Q I rv ⟨a, ps, kvs, rfl, h1.sq, e2, fun p hp => ?_⟩
            rw [hm]
            exact PostG.dicR h sr e3 e4 hp
          | true =>
            refine thn (call_dictP hc pins s σ H _ us (fun v H' => ∃ p, H p = none ∧ v = .ref p ∧ H' = upd H p (.dK kvs)) I rv ⟨a, ps, kvs, rfl, h1.sq, e2, fun p hp => ⟨p, hp, rfl, by rw [hm]⟩⟩) fun v s1 ⟨x, H1, I1, r, p, hp, ex, eH⟩ => ?_
            subst ex
            subst eH
            obtain ⟨od, I2⟩ := I1.lock (u := .dK kvs) upd_same True.intro
            have eu : upd (upd H p (.dK kvs)) p (.frz od (.dK kvs)) = upd H p (.frz od (.dK kvs)) := by
              funext b
              by_cases e : b = p
              · rw [e, upd_same, upd_same]
              · rw [upd_ne e, upd_ne e, upd_ne e]
            rw [eu] at I2
            exact ⟨.ref p, _, I2, r, PostG.dicF h sr e3 e4 hp od⟩
        · rw [if_neg hn] at h
          exact h.bad
  | isinst => exact h.bad
  | gcd => exact h.bad
theorem int2_of {W : WX} {σ : L2.St} {H : Hp} {ι : List Addr} {M : Addr → Prop} {S : Store} {f : Int → Int → Int} {x y : V} {dx dy : D} {Q : VK} {K : Fg} {mg : MG} (sr : SR K ι M H S) (rx : Rep K ι M H dx x) (ry : Rep K ι M H dy y) (h : PostE K mg W σ ι M H (int2 f dx dy S) Q) :
    ∃ i j, x = .int i ∧ y = .int j ∧ Q (.int (f i j)) H := by
  cases dx with
  | int i =>
    cases dy with
    | int j => exact ⟨i, j, rx, ry, h.done sr rfl⟩
    | _ => exact h.bad
  | _ => exact h.bad
/-- isinstance(x, (c, ..)), the tuple standing anywhere -/
theorem isi_tup {pins : Pn} {s : Shared} {σ : L2.St} {H : Hp} {x : V} {tp : Addr} {cs : List V} {t : Value} {ws : List Value} {b : Bool} {us : List Value} {Q : VK} (I : Inv X pins σ H s) (rv : Vals [x, .ref tp] us) (hT : SqT X.K H tp cs) (k : Paired ClsV cs ws)
    (ty : TyX X.K H x t) (e : PySem.W.kitAny X.K t ws = some b) (q : Q (.bl b) H) : wpAny (model X.prog X.w) X.A (call (.builtin "isinstance") us) (EP X pins σ Q) X.xe s := by
  obtain ⟨u1, u2, rfl, r1, r2⟩ := vals2 rv
  cases (show u2 = Value.ref tp from r2)
  obtain ⟨P, Z, p, hx⟩ := kit_of I r1 ty
  obtain ⟨its, r, ⟨o, h1, h2, n, h3⟩, _⟩ := I.tuple hT
  have e3 := ClsV.all k r
  subst e3
  obtain ⟨oc, od, dt, sl⟩ := o
  simp only at h2 h3
  subst h2
  subst h3
  exact PySem.W.kia_tup Z I.kIn p h1 e hx fun tk => ⟨.bl b, H, I.tok tk, rfl, q⟩
theorem blt2_sound (b : BI) (hc : X.calm = true) {W : WX} {pins : Pn} {s : Shared} {σ : L2.St} {H : Hp} {ι : List Addr} {M : Addr → Prop} {S : Store} {x y : V} {us : List Value} {dx dy : D} {Q : VK} (I : Inv X pins σ H s) (rv : Vals [x, y] us)
    (sr : SR X.K ι M H S) (rx : Rep X.K ι M H dx x) (ry : Rep X.K ι M H dy y) (h : PostE X.K X.mg W σ ι M H (blt2 b dx dy S) Q) : wpAny (model X.prog X.w) X.A (call (bltV b) us) (EP X pins σ Q) X.xe s := by
  cases b with
  | max =>
    obtain ⟨i, j, rfl, rfl, q⟩ := int2_of sr rx ry h
    exact call_max2 hc pins s σ H _ us Q I rv ⟨i, j, rfl, q⟩
  | min =>
    obtain ⟨i, j, rfl, rfl, q⟩ := int2_of sr rx ry h
    exact call_min2 hc pins s σ H _ us Q I rv ⟨i, j, rfl, q⟩
  | gcd =>
    obtain ⟨i, j, rfl, rfl, q⟩ := int2_of sr rx ry h
    exact cr_gcd pins s σ H _ us Q I rv ⟨i, j, rfl, q⟩
  | isinst =>
    simp only [blt2] at h
    cases e : isinst S dx dy with
    | none => rw [e] at h; exact h.bad
    | some r =>
      rw [e] at h
      have q := h.done sr rfl
      unfold isinst at e
      simp only at e
      by_cases c : (tyName dx S == "?") = true
      · rw [if_pos c] at e
        cases e
      · rw [if_neg c] at e
        have c' : (tyName dx S == "?") = false := by simpa using c
        have ty := tyx_of sr rx c'
        have ti := tyName_in c'
        split at e
        · rename_i n
          obtain rfl : y = .ty n := ry
          by_cases k : knownTy n = true
          · rw [if_pos k] at e
            cases e
            exact call_isi pins s σ H _ us Q I rv ⟨x, .ty n, _, _, _, rfl, .ty n, ty, kit_one ti k, q⟩
          · rw [if_neg k] at e
            cases e
        · rename_i n m
          by_cases k : (knownTy n && knownTy m) = true
          · rw [if_pos k] at e
            cases e
            rw [Bool.and_eq_true] at k
            obtain ⟨a, vs, rfl, h1, h2, h3⟩ := ry
            obtain ⟨v1, r1, rfl, g1, v2, r2, rfl, g2, g3⟩ := h3
            obtain rfl : r2 = [] := g3
            obtain rfl : v1 = .ty n := g1
            obtain rfl : v2 = .ty m := g2
            have hk : PySem.W.kitAny X.K (.type (tyName dx S)) [.type n, .type m] = some (isOne (tyName dx S) n || isOne (tyName dx S) m) := by
              refine kitAny_cons (kit_one ti k.1) (fun e => ?_) (fun e => by rw [e]; rfl)
              rw [e, Bool.false_or]
              exact kitAny_cons (kit_one ti k.2) (fun e => by rw [e]; exact kitAny_nil) fun e => e
            exact isi_tup I rv h1.sq (.cons (.ty n) (.cons (.ty m) .nil)) ty hk q
          · rw [if_neg k] at e
            cases e
        · cases e
  | _ => exact h.bad
theorem blt_sound (b : BI) (fz : Bool) (hc : X.calm = true) : CallS X (bltV b) (blt b fz) := by
  intro W pins s σ H ι M S vs us ds Q I rv sr r h
  match ds, r, h with
  | [], r, h => exact h.bad
  | [d], r, h =>
    obtain ⟨v, r', rfl, h1, h2⟩ := r
    obtain rfl : r' = [] := h2
    exact blt1_sound b fz hc I rv sr h1 h
  | [d, e], r, h =>
    obtain ⟨v, r', rfl, h1, v2, r2, rfl, h2, h3⟩ := r
    obtain rfl : r2 = [] := h3
    exact blt2_sound b hc I rv sr h1 h2 h
  | _ :: _ :: _ :: _, r, h => exact h.bad
end
end Mp
/-! Mp, part G: the text against the trees; an expression's reading is what its tree evaluates to. -/
namespace Mp
open PySem PySem.Spec PyProof.Rows L2
/-! ### the text against the trees -/
def visB (sc : Scope) (x : Str) : Bool := match sc.names.lookup x with | some .local => true | some .cell => true | some .free => true | _ => false
def glB (sc : Scope) (x : Str) : Bool := match sc.names.lookup x with | some .globalImplicit => true | _ => false
def locB (sc : Scope) (x : Str) : Bool := match sc.names.lookup x with | some .local => true | some .cell => true | _ => false
def okName (x : Str) : Bool := !(x == ("__debug__" : Str)) && !(x == ("__classdict__" : Str)) && decide (x ≠ ("__name__" : Str))
def plainB : Expr → Bool
  | .Starred .. => false
  | _ => true
def ixB : Expr → Bool
  | .Slice .. => false
  | _ => true
def baseB : Expr → Bool
  | .Name .. => true | .Subscript .. => true | .Attribute .. => true | .Constant .. => true
  | _ => false
def constB : D → Const → Bool
  | .non, .none => true
  | .bl a, .bool b => a == b
  | .int a, .int b => decide (a = b)
  | .str a, .str b => decide (a = b)
  | _, _ => false
/-- a written dict's keys: none, or one constant -/
def dkB : List Key → Es → List (Option Expr) → Bool
  | [], .nil, [] => true
  | [k], .cons _ .nil, [some (.Constant c _ _)] => constB (keyD k) c
  | _, _, _ => false
def bltN : BI → Str
  | .len => "len" | .abs => "abs" | .sum => "sum" | .all => "all" | .any => "any" | .max => "max" | .min => "min"
  | .sorted => "sorted" | .isinst => "isinstance" | .gcd => "gcd" | .int => "int" | .tuple => "tuple" | .list => "list" | .str => "str" | .dict => "dict"
def mtN : MT → Str
  | .append => "append" | .pop => "pop" | .extend => "extend" | .insert => "insert" | .reverse => "reverse" | .get => "get"
def mtOk : MT → Bool | .append => true | .pop => true | .reverse => true | .extend => true | _ => false
def lenB {α : Type} : List α → Es → Bool
  | [], .nil => true
  | _ :: l, .cons _ es => lenB l es
  | _, _ => false
/-- what the law's text has: names of functions with the keywords they are called by -/
structure Tx where
  blt : BI → Bool
  fn : Str → List Str → Bool
  cls : Str → Bool
  /-- classes that may be raised -/
  ini : Str → Bool
  /-- names that may be stored -/
  st : Str → Bool
  /-- the text's constants -/
  gc : Str → D → Bool
def nameB (N : List Str) (sc : Scope) (i : Nat) (x : Str) : Bool := decide (N[i]? = some x) && visB sc x && okName x
def kwB : List Keyword → List Str → Bool
  | [], [] => true
  | ⟨some x, _, _⟩ :: r, y :: ys => decide (x = y) && kwB r ys
  | _, _ => false
def isTupB : Expr → Bool | .Tuple .. => true | _ => false
def notSetB : Expr → Bool | .Set .. => false | _ => true
/-- the names of a block, with their slots -/
def ownOf (N : List Str) (vs : List Nat) : List (Str × Nat) := vs.map fun i => (N.getD i (Str.ofString ""), i)
def blkB (N : List Str) (sc scope : Scope) (vs : List Nat) : Bool :=
  decide (scope.kind = .function) && (scope.names.all fun y => decide (scope.names.lookup y.1 = some y.2)) && (vs.all fun i => decide (i < N.length)) &&
  (scope.names.all fun y => !decide (y.2 = .free) || decide (sc.names.lookup y.1 = some .cell) || decide (sc.names.lookup y.1 = some .free)) &&
  (scope.names.all fun y => !(decide (y.2 = .local) || decide (y.2 = .cell)) || (ownOf N vs).any (fun p => decide (p.1 = y.1)) || !N.any (fun n => decide (n = y.1)))
/-- what may be stored in a block -/
def Tx.blk (tx : Tx) (sc scope : Scope) : Tx := { tx with st := fun x => decide (scope.names.lookup x = some .cell) || decide ((L2.relS scope sc).names.lookup x = some .local) }
mutual
def T.vars : T → List Nat
  | .n i => [i]
  | .t ts => ts.vars
  | .s _ _ => []
def Ts.vars : Ts → List Nat
  | .nil => []
  | .cons t ts => t.vars ++ ts.vars
end
def subB (a b : List Nat) : Bool := a.all fun i => b.any fun j => decide (i = j)
def revB : Expr → Bool
  | .Slice none none (some (.UnaryOp .USub (.Constant (.int n) _ _) _)) _ => decide (n = 1)
  | _ => false
def isLcB : Expr → Bool
  | .ListComp .. => true
  | _ => false
mutual
def mE : Tx → List Str → Bool → Scope → E → Expr → Bool
  | tx, N, calm, sc, .v i, e => match e with | .Name x _ => nameB N sc i x | _ => false
  | tx, N, calm, sc, .k c, e => match e with | .Constant c' _ _ => constB c c' | _ => false
  | tx, N, calm, sc, .kty n, e => match e with | .Name x _ => decide (x = Str.ofString n) && glB sc x && okName x && knownTy n | _ => false
  | tx, N, calm, sc, .tup es, e => match e with | .Tuple es' _ _ => mEs tx N calm sc es es' | _ => false
  | tx, N, calm, sc, .lst _ es, e => match e with | .List es' _ => mEs tx N calm sc es es' | _ => false
  | tx, N, calm, sc, .bin op _ a b, e => match e with | .BinOp a' op' b' _ => decide (op = op') && mE tx N calm sc a a' && mE tx N calm sc b b' | _ => false
  | tx, N, calm, sc, .neg a, e => match e with | .UnaryOp .USub a' _ => mE tx N calm sc a a' | _ => false
  | tx, N, calm, sc, .bnot a, e => match e with | .UnaryOp .Not a' _ => mE tx N calm sc a a' | _ => false
  | tx, N, calm, sc, .band es, e => match e with | .BoolOp .And es' _ => mEs tx N calm sc es es' | _ => false
  | tx, N, calm, sc, .bor es, e => match e with | .BoolOp .Or es' _ => mEs tx N calm sc es es' | _ => false
  | tx, N, calm, sc, .cmp op a b, e => match e with | .Compare a' [op'] [b'] _ => decide (op = op') && mE tx N calm sc a a' && mE tx N calm sc b b' && !behindInMarks op b' | _ => false
  | tx, N, calm, sc, .chain op1 op2 a b c, e => match e with | .Compare a' [o1, o2] [b', c'] _ => decide (op1 = o1) && decide (op2 = o2) && mE tx N calm sc a a' && mE tx N calm sc b b' && mE tx N calm sc c c' && !lastMarks [o1, o2] [b', c'] | _ => false
  | tx, N, calm, sc, .ife c a b, e => match e with | .IfExp c' a' b' _ => mE tx N calm sc c c' && mE tx N calm sc a a' && mE tx N calm sc b b' | _ => false
  | tx, N, calm, sc, .call f es ks kes, e => match e with | .Call (.Name x _) as kws _ => calm && decide (x = f) && glB sc x && okName x && tx.fn f ks && mEs tx N calm sc es as && kwB kws ks && mEs tx N calm sc kes (kws.map (·.value)) | _ => false
  | tx, N, calm, sc, .blt b _ es, e => match e with | .Call (.Name x _) (a :: as) [] _ => calm && decide (x = bltN b) && glB sc x && okName x && tx.blt b && mEs tx N calm sc es (a :: as) | _ => false
  | tx, N, calm, sc, .meth m o es, e => match e with | .Call (.Attribute o' x ap) as [] cp => mtOk m && decide (x = mtN m) && baseB o' && (ap.endLine == cp.line) && mE tx N calm sc o o' && mEs tx N calm sc es as && decide (as.length < 5) | _ => false
  | tx, N, calm, sc, .ix a i, e => match e with | .Subscript a' i' _ => ixB i' && mE tx N calm sc a a' && mE tx N calm sc i i' | _ => false
  | tx, N, calm, sc, .sl _ a lo hi, e => match e with
    | .Subscript a' (.Slice lo' hi' none _) _ => mE tx N calm sc a a' && mEs tx N calm sc lo lo'.toList && mEs tx N calm sc hi hi'.toList
    | _ => false
  | tx, N, calm, sc, .rev _ a, e => match e with | .Subscript a' i _ => revB i && mE tx N calm sc a a' | _ => false
  | tx, N, calm, sc, .fld i f cs, e => match e with | .Attribute (.Name x _) f' _ => !calm && decide (f' = f) && nameB N sc i x && cs.all (fun c => tx.cls c && decide (fldN c = f)) | _ => false
  | tx, N, calm, sc, .dic _ ks es, e => match e with | .Dict ks' es' _ => dkB ks es ks' && mEs tx N calm sc es es' | _ => false
  | tx, N, calm, sc, .lrng _ es, e => match e with | .Call (.Name x _) [.Call (.Name y _) as [] _] [] _ => calm && decide (x = Str.ofString "list") && glB sc x && tx.blt .list && decide (y = Str.ofString "range") && glB sc y && decide (as.length = 1 ∨ as.length = 2) && mEs tx N calm sc es as | _ => false
  | tx, N, calm, sc, .gk x d, e => match e with | .Name y _ => decide (y = x) && glB sc y && okName y && tx.gc x d | _ => false
  | tx, N, calm, sc, .lockd _ e1, e => isLcB e && mE tx N calm sc e1 e
  | tx, N, calm, sc, .comp _ vs t it cond rest, e => match e with
    | .ListComp elt (⟨tg, iter, ifs, 0⟩ :: gs) scope _ => calm && blkB N sc scope vs && subB t.vars vs && notSetB iter && mI tx N calm sc it tg iter &&
        mT (tx.blk sc scope) N calm (L2.relS scope sc) t tg && mCs (tx.blk sc scope) N calm (L2.relS scope sc) cond ifs && mCl (tx.blk sc scope) N calm (L2.relS scope sc) vs rest gs elt
    | _ => false
def mEs : Tx → List Str → Bool → Scope → Es → List Expr → Bool
  | tx, N, calm, sc, .nil, es' => match es' with | [] => true | _ => false
  | tx, N, calm, sc, .cons e es, es' => match es' with | e' :: es' => plainB e' && mE tx N calm sc e e' && mEs tx N calm sc es es' | [] => false
/-- a clause's tests: none or one -/
def mCs : Tx → List Str → Bool → Scope → Es → List Expr → Bool
  | tx, N, calm, sc, .nil, es' => match es' with | [] => true | _ => false
  | tx, N, calm, sc, .cons e es, es' => match es with | .nil => (match es' with | [e'] => mE tx N calm sc e e' | _ => false) | .cons _ _ => false
def mCl : Tx → List Str → Bool → Scope → List Nat → Cl → List Comprehension → Expr → Bool
  | tx, N, calm, sc, vs, .elt e, gs, elt => match gs with | [] => mE tx N calm sc e elt | _ => false
  | tx, N, calm, sc, vs, .each vs1 t it cond e, gs, elt => match gs with
    | [⟨tg, iter, ifs, 0⟩] => subB vs1 vs && subB t.vars vs1 && notSetB iter && mI tx N calm sc it tg iter && mT tx N calm sc t tg && mCs tx N calm sc cond ifs && mE tx N calm sc e elt
    | _ => false
def mI : Tx → List Str → Bool → Scope → I → Expr → Expr → Bool
  | tx, N, calm, sc, .e e, _, it => mE tx N calm sc e it
  | tx, N, calm, sc, .rng es, _, it => match it with | .Call (.Name x _) as [] _ => decide (x = Str.ofString "range") && glB sc x && decide (as.length = 1 ∨ as.length = 2 ∨ as.length = 3) && mEs tx N calm sc es as | _ => false
  | tx, N, calm, sc, .enum e, tg, it => match it with | .Call (.Name x _) [a] [] _ => decide (x = Str.ofString "enumerate") && glB sc x && isTupB tg && plainB a && mE tx N calm sc e a | _ => false
  | tx, N, calm, sc, .zip p q, tg, it => match it with | .Call (.Name x _) [a, b] [] _ => decide (x = Str.ofString "zip") && glB sc x && isTupB tg && plainB a && plainB b && mE tx N calm sc p a && mE tx N calm sc q b | _ => false
  | tx, N, calm, sc, .revd e, _, it => match it with | .Call (.Name x _) [a] [] _ => decide (x = Str.ofString "reversed") && glB sc x && plainB a && mE tx N calm sc e a | _ => false
def mT : Tx → List Str → Bool → Scope → T → Expr → Bool
  | tx, N, calm, sc, .n i, e => match e with | .Name x _ => decide (N[i]? = some x) && locB sc x && tx.st x | _ => false
  | tx, N, calm, sc, .t ts, e => match e with | .Tuple es _ _ => calm && mTs tx N calm sc ts es | _ => false
  | tx, N, calm, sc, .s o i, e => match e with | .Subscript o' i' _ => ixB i' && mE tx N calm sc o o' && mE tx N calm sc i i' | _ => false
def mTs : Tx → List Str → Bool → Scope → Ts → List Expr → Bool
  | tx, N, calm, sc, .nil, es => match es with | [] => true | _ => false
  | tx, N, calm, sc, .cons t ts, es => match es with | e :: es => plainB e && mT tx N calm sc t e && mTs tx N calm sc ts es | [] => false
end
/-! ### the context -/
/-- what the whole text's parts are worth by now, one level below -/
structure Gb (P : Program) (w : World) (K : Fg) (mg : MG) (base : Heap) (tx : Tx) : Prop where
  blt : ∀ b, tx.blt b = true → (mg (bltN b) = none ∧ bootBuiltins (bltN b) = some (bltV b)) ∨ (b = .gcd ∧ mg (bltN b) = some (bltV b))
  ty : ∀ n, knownTy n = true → mg (Str.ofString n) = none ∧ bootBuiltins (Str.ofString n) = some (.type n)
  gc : ∀ x d, tx.gc x d = true → ∃ (u : Value) (v : V), mg x = some u ∧ RelV v u ∧ ∀ ι M H, Rep K ι M H d v
  exm : ∀ c c', tx.cls c = true → tx.cls c' = true → ∃ Ca Ca' : Addr, mg c = some (.ref Ca) ∧ mg c' = some (.ref Ca') ∧ PySem.W.exmOne K (.ref Ca) (.ref Ca') = some (takesC c c')
  xf : ∀ c, tx.cls c = true → ∃ Ca : Addr, mg c = some (.ref Ca) ∧ XfC K Ca ∧ PySem.W.findIn K (.ref Ca) (fldN c) = some none
  rng : mg "range" = none ∧ mg "enumerate" = none ∧ mg "zip" = none ∧ mg "reversed" = none
/-- what a def promises: it gives what phi gives -/
def spF (K : Fg) (mg : MG) (ps : List Str) (φ : List D → Store → R D) : Sp := fun vs H Q E =>
  vs.length = ps.length ∧ ∃ ι M S ds, SR K ι M H S ∧ RepL K ι M H ds vs ∧ PostE K mg (fun c d _ H => E c d H) [] ι M H (φ ds S) Q
/-- the def f, called with the keywords ks -/
def FnAt (P : Program) (w : World) (K : Fg) (mg : MG) (base : Heap) (k : Nat) (Φ : Phi) (f : Str) (ks : List Str) : Prop :=
  ∃ (a : Addr) (fd : FuncData) (ps : List Str) (φ : List D → Store → R D), mg f = some (.ref a) ∧ PySem.W.keepIn K (.ref a) = true ∧ FnOk P w K mg base (L2.CX P w) k a fd ps (spF K mg ps φ) ∧
    (∀ (s : Shared) (us ws zs : List Value), K.In s.heap → arr ps us ks ws = some zs → BindsTo s fd ⟨us, ks.zip ws⟩ (ps.zip zs)) ∧
    ∀ xs ys S, Φ f xs ks ys S = match arr ps xs ks ys with | some as => φ as S | none => .bad
/-- a class's __init__: it keeps its argument -/
def spI (K : Fg) (C : Addr) (f : Str) : Sp := fun vs H Q _ => ∃ (a : Addr) (x : V), vs = [.ref a, x] ∧ H a = some (exo a C none) ∧ PySem.W.findIn K (.ref C) f = some none ∧
  ∀ dx, H dx = none → dx ≠ a → Q .non (upd (upd H dx (exd dx [(f, x)])) a (exo a C (some dx)))
/-- a class that may be raised -/
def ClsAt (P : Program) (w : World) (K : Fg) (mg : MG) (base : Heap) (c : Str) : Prop := ∃ (C fI : Addr) (fd : FuncData) (p1 p2 : Str), mg c = some (.ref C) ∧ OexC K C ∧ PySem.W.findIn K (.ref C) "__init__" = some (some (.ref fI)) ∧
  PySem.W.typeIn K (.ref fI) = some (.type "function") ∧ FnOk P w K mg base (L2.CX P w) 1 fI fd [p1, p2] (spI K C (fldN c)) ∧ Binds K fd [p1, p2] [] ∧ PySem.W.findIn K (.ref C) (fldN c) = some none
structure CG (k : Nat) (Φ : Phi) (N : List Str) (tx : Tx) (calm : Bool) (sc : Scope) (pn : Pz) (W : WX) (X : Cx) : Prop where
  epn : calm = false → ∀ p ∈ pn, ∃ oe, (p.1, oe) ∈ X.pn ∧ Zc p.2.1 p.2.2 oe ∧ ∃ ws, oe.data = .fields ws
  pn0 : calm = true → pn = []
  g : Gb X.prog X.w X.K X.mg X.base tx
  eN : X.N = N
  nd : N.Nodup
  esc : X.env.scope = sc
  sto : ∀ x, tx.st x = true → X.fn x = true ∨ X.env.scope.names.lookup x = some .local
  clm : calm = true → X.calm = true
  hu : X.A.units + 64 < cLine
  tk : Takes X W
  room : calm = true → Room k X.A
  two : 2 ≤ k
  ini : ∀ c, tx.ini c = true → ClsAt X.prog X.w X.K X.mg X.base c
  fns : ∀ f ks, tx.fn f ks = true → FnAt X.prog X.w X.K X.mg X.base k Φ f ks
section
variable {X : Cx} {k : Nat} {Φ : Phi} {N : List Str} {tx : Tx} {calm : Bool} {sc : Scope} {pn : Pz} {W : WX}
theorem CG.vis (c : CG k Φ N tx calm sc pn W X) {i : Nat} {x : Str} (h : nameB N sc i x = true) : X.N[i]? = some x ∧ Vis X.env.scope x ∧ (x == ("__debug__" : Str)) = false ∧ (x == ("__classdict__" : Str)) = false := by
  unfold nameB okName at h
  simp only [Bool.and_eq_true, decide_eq_true_eq, Bool.not_eq_true'] at h
  obtain ⟨⟨h1, h2⟩, ⟨h3, h4⟩, h5⟩ := h
  refine ⟨by rw [c.eN]; exact h1, ?_, h3, h4⟩
  rw [c.esc]
  unfold visB at h2
  unfold Vis
  split at h2 <;> first | exact .inl (by assumption) | exact .inr (.inl (by assumption)) | exact .inr (.inr (by assumption)) | cases h2
theorem CG.gl (c : CG k Φ N tx calm sc pn W X) {x : Str} (h : glB sc x = true) : Gl X x := by
  unfold glB at h
  split at h
  · show X.env.scope.names.lookup x = _
    rw [c.esc]
    assumption
  · cases h
theorem okName_of {x : Str} (h : okName x = true) : (x == ("__debug__" : Str)) = false ∧ (x == ("__classdict__" : Str)) = false ∧ x ≠ ("__name__" : Str) := by
  unfold okName at h
  simp only [Bool.and_eq_true, decide_eq_true_eq, Bool.not_eq_true'] at h
  exact ⟨h.1.1, h.1.2, h.2⟩
theorem star_of {e : Expr} {es : List Expr} {env : PySem.Env} (h : plainB e = true) : starEach (e :: es) env = (false, eval e env) :: starEach es env := by
  cases e <;> first | rfl | cases h
theorem plain_any {N : List Str} {tx : Tx} {calm : Bool} {sc : Scope} (pos : Pos) {env : PySem.Env} : ∀ {es : Es} {es' : List Expr}, mEs tx N calm sc es es' = true → (backTo pos (starEach es' env)).any (·.1) = false
  | .nil, es', h => by
    cases es' with
    | nil => rfl
    | cons _ _ => cases h
  | .cons e es, es', h => by
    cases es' with
    | nil => cases h
    | cons e' es' =>
      simp only [mEs, Bool.and_eq_true] at h
      rw [star_of h.1.1]
      have ih := plain_any (env := env) pos h.2
      simp only [backTo, List.map_cons, List.any_cons, Bool.false_or]
      exact ih
end
/-! ### one expression behind another -/
section
variable {X : Cx} {pn : Pz} {W : WX}
abbrev EE (X : Cx) (pn : Pz) (W : WX) (e : Expr) (f : Env → Store → R D) : Prop := PE X e (tE X.K X.mg pn W f)
abbrev EA (X : Cx) (pn : Pz) (W : WX) (es : List Expr) (f : Env → Store → R (List D)) : Prop := PA X es (tL X.K X.mg pn W f)
abbrev EB (X : Cx) (pn : Pz) (W : WX) (e : Expr) (f : Env → Store → R Bool) : Prop := PT X e (tB X.K X.mg pn W f)
/-- the run of a part, and what hangs on it -/
theorem EE.then {a : Expr} {fa : Env → Store → R D} (ha : EE X pn W a fa) {pins : Pn} {s : Shared} {σ : L2.St} {H : Hp} {ι : List Addr} {M : Addr → Prop} {ρ : Env} {S : Store} {γ δ : Type} {rel2 : List Addr → (Addr → Prop) → Hp → γ → δ → Prop}
    {g : D → Store → R γ} {Q : δ → Hp → Prop} {Q' : Value → Shared → Prop} (I : Inv X pins σ H s) (sr : SR X.K ι M H S) (sl : SLt X.K X.mg pn ι M H ρ σ) (h : PostG X.K X.mg W σ rel2 ι M H ((fa ρ S).bind g) Q)
    (k : ∀ d S' x v s' ι' M' H', Inv X pins σ H' s' → RelV x v → Adv ι M H ι' M' H' → SR X.K ι' M' H' S' → SLt X.K X.mg pn ι' M' H' ρ σ → Rep X.K ι' M' H' d x → PostG X.K X.mg W σ rel2 ι' M' H' (g d S') Q → Q' v s') :
    wpAny (model X.prog X.w) X.A (eval a X.env) Q' X.xe s := by
  refine thn (ha.run pins s σ H (fun x H' => ∃ d S' ι' M', Adv ι M H ι' M' H' ∧ SR X.K ι' M' H' S' ∧ SLt X.K X.mg pn ι' M' H' ρ σ ∧ Rep X.K ι' M' H' d x ∧ PostG X.K X.mg W σ rel2 ι' M' H' (g d S') Q) I ?_) fun v s' hv => ?_
  · exact tG.of sr sl h fun d S' x ι' M' H' a1 a2 a3 a4 a5 => ⟨d, S', ι', M', a1, a2, a3, a4, a5⟩
  · obtain ⟨x, H', I', rv, d, S', ι', M', a1, a2, a3, a4, a5⟩ := hv
    exact k d S' x v s' ι' M' H' I' rv a1 a2 a3 a4 a5
theorem EA.then {pos : Pos} {es : List Expr} {fa : Env → Store → R (List D)} (ha : EA X pn W es fa) {pins : Pn} {s : Shared} {σ : L2.St} {H : Hp} {ι : List Addr} {M : Addr → Prop} {ρ : Env} {S : Store} {γ δ : Type} {rel2 : List Addr → (Addr → Prop) → Hp → γ → δ → Prop}
    {g : List D → Store → R γ} {Q : δ → Hp → Prop} {Q' : List Value → Shared → Prop} (I : Inv X pins σ H s) (sr : SR X.K ι M H S) (sl : SLt X.K X.mg pn ι M H ρ σ) (h : PostG X.K X.mg W σ rel2 ι M H ((fa ρ S).bind g) Q)
    (k : ∀ d S' x v s' ι' M' H', Inv X pins σ H' s' → Vals x v → Adv ι M H ι' M' H' → SR X.K ι' M' H' S' → SLt X.K X.mg pn ι' M' H' ρ σ → RepL X.K ι' M' H' d x → PostG X.K X.mg W σ rel2 ι' M' H' (g d S') Q → Q' v s') :
    wpAny (model X.prog X.w) X.A (spliced (backTo pos (starEach es X.env))) Q' X.xe s := by
  refine thn (ha.run pos pins s σ H (fun x H' => ∃ d S' ι' M', Adv ι M H ι' M' H' ∧ SR X.K ι' M' H' S' ∧ SLt X.K X.mg pn ι' M' H' ρ σ ∧ RepL X.K ι' M' H' d x ∧ PostG X.K X.mg W σ rel2 ι' M' H' (g d S') Q) I ?_) fun v s' hv => ?_
  · exact tG.of sr sl h fun d S' x ι' M' H' a1 a2 a3 a4 a5 => ⟨d, S', ι', M', a1, a2, a3, a4, a5⟩
  · obtain ⟨x, H', I', rv, d, S', ι', M', a1, a2, a3, a4, a5⟩ := hv
    exact k d S' x v s' ι' M' H' I' rv a1 a2 a3 a4 a5
theorem EB.then {a : Expr} {fa : Env → Store → R Bool} (ha : EB X pn W a fa) {pins : Pn} {s : Shared} {σ : L2.St} {H : Hp} {ι : List Addr} {M : Addr → Prop} {ρ : Env} {S : Store} {γ δ : Type} {rel2 : List Addr → (Addr → Prop) → Hp → γ → δ → Prop}
    {g : Bool → Store → R γ} {Q : δ → Hp → Prop} {Q' : Bool → Shared → Prop} (I : Inv X pins σ H s) (sr : SR X.K ι M H S) (sl : SLt X.K X.mg pn ι M H ρ σ) (h : PostG X.K X.mg W σ rel2 ι M H ((fa ρ S).bind g) Q)
    (k : ∀ d S' s' ι' M' H', Inv X pins σ H' s' → Adv ι M H ι' M' H' → SR X.K ι' M' H' S' → SLt X.K X.mg pn ι' M' H' ρ σ → PostG X.K X.mg W σ rel2 ι' M' H' (g d S') Q → Q' d s') :
    wpAny (model X.prog X.w) X.A (isTrue a X.env (eval a X.env)) Q' X.xe s := by
  refine thn (ha.run pins s σ H (fun d H' => ∃ S' ι' M', Adv ι M H ι' M' H' ∧ SR X.K ι' M' H' S' ∧ SLt X.K X.mg pn ι' M' H' ρ σ ∧ PostG X.K X.mg W σ rel2 ι' M' H' (g d S') Q) I ?_) fun v s' hv => ?_
  · exact tG.of sr sl h fun d S' x ι' M' H' a1 a2 a3 a4 a5 => by
      obtain rfl : d = x := a4
      exact ⟨S', ι', M', a1, a2, a3, a5⟩
  · obtain ⟨H', I', S', ι', M', a1, a2, a3, a5⟩ := hv
    exact k v S' s' ι' M' H' I' a1 a2 a3 a5
/-- the end: a value at hand -/
theorem ep_fin {pins : Pn} {σ : L2.St} {s : Shared} {H : Hp} {Q : VK} {x : V} {v : Value} (I : Inv X pins σ H s) (r : RelV x v) (q : Q x H) : EP X pins σ Q v s := ⟨x, H, I, r, q⟩
theorem R.bind_ok' {α : Type} (r : R α) : r.bind (fun a S => .ok a S) = r := by cases r <;> rfl
theorem EE.eq {a : Expr} {f g : Env → Store → R D} (h : EE X pn W a f) (e : f = g) : EE X pn W a g := e ▸ h
/-- a test of a plain expression: its value's truth -/
theorem EB.of {a : Expr} {fa : Env → Store → R D} (ha : EE X pn W a fa) (he : ∀ whole, isTrue a X.env whole = (do let v ← whole; standAt a.pos; holding [v] (truthy v))) : EB X pn W a (fun ρ S => testR (fa ρ S)) := by
  refine ⟨fun pins s σ H Q I ⟨ι, M, ρ, S, sr, sl, h⟩ => ?_⟩
  refine isTrue_plain (ha.then I sr sl h fun d S' x v s' ι' M' H' I' rv a sr' sl' rd h' => ?_) (he _)
  cases e : truth S' d with
  | none => rw [e] at h'; exact h'.bad
  | some b =>
    rw [e] at h'
    exact tru_ok pins s' σ H' x v Q I' rv ⟨b, truth_sound (W := W) (pins := pins) (s := s') (v := v) (σ := σ) sr' rd e, h'.done sr' rfl⟩
end
end Mp
/-! Mp, part H: each form of expression. -/
namespace Mp
open PySem PySem.Spec PyProof.Rows L2
section
variable {X : Cx} {pn : Pz} {W : WX} {kk : Nat} {Φ : Phi}
theorem truthy_then {pins : Pn} {s : Shared} {σ : L2.St} {H : Hp} {ι : List Addr} {M : Addr → Prop} {S : Store} {γ δ : Type} {rel2 : List Addr → (Addr → Prop) → Hp → γ → δ → Prop} {d : D} {x : V} {v : Value}
    {g : Bool → Store → R γ} {Q : δ → Hp → Prop} {Q' : Bool → Shared → Prop} (I : Inv X pins σ H s) (rv : RelV x v) (sr : SR X.K ι M H S) (rd : Rep X.K ι M H d x) (h : PostG X.K X.mg W σ rel2 ι M H ((ofB (truth S d) S).bind g) Q)
    (k : ∀ b s', truth S d = some b → Inv X pins σ H s' → PostG X.K X.mg W σ rel2 ι M H (g b S) Q → Q' b s') : wpAny (model X.prog X.w) X.A (truthy v) Q' X.xe s := by
  cases e : truth S d with
  | none => rw [e] at h; exact h.bad
  | some b =>
    rw [e] at h
    refine thn (tru_ok pins s σ H x v (fun c H2 => c = b ∧ H2 = H) I rv ⟨b, truth_sound (W := W) (pins := pins) (s := s) (v := v) (σ := σ) sr rd e, rfl, rfl⟩) fun c s2 hc => ?_
    obtain ⟨H2, I2, e1, e2⟩ := hc
    subst e1
    subst e2
    exact k c s2 e I2 h
theorem ee_v {N : List Str} {tx : Tx} {calm : Bool} {sc : Scope} (c : CG kk Φ N tx calm sc pn W X) {i : Nat} {x : Str} {pos : Pos} (h : nameB N sc i x = true) : EE X pn W (.Name x pos) (fun ρ S => slotR ρ[i]? S) := by
  obtain ⟨h1, h2, h3, h4⟩ := c.vis h
  refine ⟨fun pins s σ H Q I ⟨ι, M, ρ, S, sr, sl, p⟩ => (pe_var h1 h2 h3 h4).run pins s σ H Q I ?_⟩
  have p : PostE X.K X.mg W σ ι M H (slotR ρ[i]? S) Q := p
  cases e : ρ[i]? with
  | none => rw [e] at p; exact p.bad
  | some o =>
    rw [e] at p
    cases o with
    | none => exact p.bad
    | some d =>
      have z := sl.at_ i d e
      cases d with
      | exc _ _ _ => exact p.bad
      | _ =>
        obtain ⟨v, e1, e2⟩ := z
        exact ⟨v, e1, p.done sr e2⟩
theorem ee_k {d : D} {c : Const} {k : Nat} {pos : Pos} (h : constB d c = true) : EE X pn W (.Constant c k pos) (fun _ S => .ok d S) := by
  refine ⟨fun pins s σ H Q I ⟨ι, M, ρ, S, sr, sl, p⟩ => ?_⟩
  have p : PostE X.K X.mg W σ ι M H (.ok d S) Q := p
  cases d with
  | non => cases c with
    | none => exact pe_non.run pins s σ H Q I (p.done sr rfl)
    | _ => cases h
  | bl b => cases c with
    | bool b' =>
      have e : b = b' := by simpa [constB] using h
      subst e
      exact pe_bl.run pins s σ H Q I (p.done sr rfl)
    | _ => cases h
  | int b => cases c with
    | int b' =>
      have e : b = b' := by simpa [constB] using h
      subst e
      exact pe_int.run pins s σ H Q I (p.done sr rfl)
    | _ => cases h
  | str b => cases c with
    | str b' =>
      have e : b = b' := by simpa [constB] using h
      subst e
      exact pe_str.run pins s σ H Q I (p.done sr rfl)
    | _ => cases h
  | _ => cases c <;> cases h
theorem ee_ty {N : List Str} {tx : Tx} {calm : Bool} {sc : Scope} (c : CG kk Φ N tx calm sc pn W X) {n : String} {x : Str} {pos : Pos} (h1 : x = Str.ofString n) (h2 : glB sc x = true) (h3 : okName x = true) (h4 : knownTy n = true) : EE X pn W (.Name x pos) (fun _ S => .ok (.ty n) S) := by
  obtain ⟨m1, m2⟩ := c.g.ty n h4
  obtain ⟨k1, k2, k3⟩ := okName_of h3
  subst h1
  refine ⟨fun pins s σ H Q I ⟨ι, M, ρ, S, sr, sl, p⟩ => (pe_bltn (v := .ty n) (c.gl h2) m1 m2 rfl k3 k1).run pins s σ H Q I ?_⟩
  exact PostG.done p sr rfl
theorem ea_nil : EA X pn W [] (fun _ S => .ok [] S) := by
  refine ⟨fun pos pins s σ H Q I ⟨ι, M, ρ, S, sr, sl, p⟩ => pa_nil.run pos pins s σ H Q I ?_⟩
  exact PostG.done p sr RepL.nil
theorem ea_cons {e : Expr} {es : List Expr} {f : Env → Store → R D} {g : Env → Store → R (List D)} (h : plainB e = true) (he : EE X pn W e f) (hs : EA X pn W es g) :
    EA X pn W (e :: es) (fun ρ S => (f ρ S).bind fun x S => (g ρ S).bind fun xs S => .ok (x :: xs) S) := by
  refine ⟨fun pos pins s σ H Q I ⟨ι, M, ρ, S, sr, sl, p⟩ => (pa_cons he hs (star_of h)).run pos pins s σ H Q I ?_⟩
  refine tG.of sr sl p fun d S1 x ι1 M1 H1 a1 sr1 sl1 r1 p1 => ?_
  refine tG.of sr1 sl1 p1 fun ds S2 xs ι2 M2 H2 a2 sr2 sl2 r2 p2 => ?_
  exact p2.done sr2 (.cons (Rep.adv a2 sr1.im _ _ r1) r2)
theorem ee_tup {es : List Expr} {f : Env → Store → R (List D)} {k : Nat} {pos : Pos} (h : EA X pn W es f) : EE X pn W (.Tuple es k pos) (fun ρ S => (f ρ S).bind fun xs S => if xs.length ≤ line then .ok (.tup xs) S else .bad) := by
  refine ⟨fun pins s σ H Q I ⟨ι, M, ρ, S, sr, sl, p⟩ => (pe_tup h).run pins s σ H Q I ?_⟩
  refine tG.of sr sl p fun ds S1 xs ι1 M1 H1 a1 sr1 sl1 r1 p1 => ?_
  by_cases c : ds.length ≤ line
  · simp only [if_pos c] at p1
    exact ⟨by rw [← r1.length, ← line_eq]; exact c, fun q hq => p1.tup sr1 r1 c hq⟩
  · simp only [if_neg c] at p1
    exact p1.bad
theorem ee_lst {es : List Expr} {f : Env → Store → R (List D)} {pos : Pos} (fz : Bool) (h : EA X pn W es f) : EE X pn W (.List es pos) (fun ρ S => (f ρ S).bind fun xs S => if xs.length ≤ line then Mp.alloc fz xs S else .bad) := by
  refine ⟨fun pins s σ H Q I ⟨ι, M, ρ, S, sr, sl, p⟩ => (pe_lst h).run pins s σ H Q I ?_⟩
  refine tG.of sr sl p fun ds S1 xs ι1 M1 H1 a1 sr1 sl1 r1 p1 => ?_
  by_cases c : ds.length ≤ line
  · simp only [if_pos c] at p1
    exact ⟨by rw [← r1.length, ← line_eq]; exact c, fun q hq => p1.alloc sr1 r1 c hq⟩
  · simp only [if_neg c] at p1
    exact p1.bad
theorem ee_bin {a b : Expr} {f g : Env → Store → R D} {op : Operator} {pos : Pos} (fz : Bool) (ha : EE X pn W a f) (hb : EE X pn W b g) : EE X pn W (.BinOp a op b pos) (fun ρ S => (f ρ S).bind fun x S => (g ρ S).bind fun y S => binop op fz x y S) := by
  refine ⟨fun pins s σ H Q I ⟨ι, M, ρ, S, sr, sl, p⟩ => wpAny_BinOp ?_⟩
  refine ha.then I sr sl p fun d S1 x v s1 ι1 M1 H1 I1 rv a1 sr1 sl1 r1 p1 => ?_
  refine hb.then I1 sr1 sl1 p1 fun e S2 y u s2 ι2 M2 H2 I2 ru a2 sr2 sl2 r2 p2 => ?_
  exact bin_sound op fz W pins s2 σ H2 ι2 M2 S2 x y v u d e Q I2 rv ru sr2 (Rep.adv a2 sr1.im _ _ r1) r2 p2
theorem ee_neg {a : Expr} {f : Env → Store → R D} {pos : Pos} (ha : EE X pn W a f) : EE X pn W (.UnaryOp .USub a pos) (fun ρ S => (f ρ S).bind fun x S => match x with | .int i => .ok (.int (-i)) S | _ => .bad) := by
  refine ⟨fun pins s σ H Q I ⟨ι, M, ρ, S, sr, sl, p⟩ => (pe_un un_neg ha).run pins s σ H Q I ?_⟩
  refine tG.of sr sl p fun d S1 x ι1 M1 H1 a1 sr1 sl1 r1 p1 => ?_
  cases d with
  | int i => exact ⟨i, r1, p1.done sr1 rfl⟩
  | _ => exact p1.bad
theorem ee_not {a : Expr} {f : Env → Store → R D} {pos : Pos} (ha : EE X pn W a f) : EE X pn W (.UnaryOp .Not a pos) (fun ρ S => (f ρ S).bind fun x S => (ofB (truth S x) S).bind fun b S => .ok (.bl (!b)) S) := by
  refine ⟨fun pins s σ H Q I ⟨ι, M, ρ, S, sr, sl, p⟩ => UnaryOp_ ?_⟩
  refine ha.then I sr sl p fun d S1 x v s1 ι1 M1 H1 I1 rv a1 sr1 sl1 r1 p1 => ?_
  exact not_of (truthy_then I1 rv sr1 r1 p1 fun b s2 _ I2 p2 => ep_fin (x := .bl (!b)) I2 rfl (p2.done sr1 rfl))
theorem eb_not {a : Expr} {f : Env → Store → R D} {pos : Pos} (ha : EB X pn W a (fun ρ S => testR (f ρ S))) : EB X pn W (.UnaryOp .Not a pos) (fun ρ S => testR ((f ρ S).bind fun x S => (ofB (truth S x) S).bind fun b S => .ok (.bl (!b)) S)) := by
  have e : ∀ ρ S, testR ((f ρ S).bind fun x S => (ofB (truth S x) S).bind fun b S => .ok (.bl (!b)) S) = (testR (f ρ S)).bind fun b S => .ok (!b) S := fun ρ S => by
    unfold testR
    cases f ρ S with
    | ok d S' =>
      simp only [R.bind_ok]
      cases truth S' d <;> rfl
    | exc => rfl
    | bad => rfl
  refine ⟨fun pins s σ H Q I ⟨ι, M, ρ, S, sr, sl, p⟩ => ?_⟩
  have p : PostB X.K X.mg W σ ι M H (testR ((f ρ S).bind fun x S => (ofB (truth S x) S).bind fun b S => .ok (.bl (!b)) S)) Q := p
  rw [e] at p
  refine isTrue_not (ha.then I sr sl p fun b S' s' ι' M' H' I' a1 sr' sl' p' => ?_)
  exact ⟨H', I', p'.done sr' rfl⟩
theorem ee_cmp {N : List Str} {tx : Tx} {calm : Bool} {sc : Scope} (c : CG kk Φ N tx calm sc pn W X) {a b : Expr} {f g : Env → Store → R D} {op : CmpOp} {pos : Pos} (hm : behindInMarks op b = false) (ha : EE X pn W a f) (hb : EE X pn W b g) :
    EE X pn W (.Compare a [op] [b] pos) (fun ρ S => (f ρ S).bind fun x S => (g ρ S).bind fun y S => ofO (cmpop op x y S) S) := by
  refine ⟨fun pins s σ H Q I ⟨ι, M, ρ, S, sr, sl, p⟩ => wpAny_Compare1 ?_ hm⟩
  refine ha.then I sr sl p fun d S1 x v s1 ι1 M1 H1 I1 rv a1 sr1 sl1 r1 p1 => ?_
  refine hb.then I1 sr1 sl1 p1 fun e S2 y u s2 ι2 M2 H2 I2 ru a2 sr2 sl2 r2 p2 => ?_
  exact cmp_sound op c.hu W pins s2 σ H2 ι2 M2 S2 x y v u d e Q I2 rv ru sr2 (Rep.adv a2 sr1.im _ _ r1) r2 p2
/-- the value of a comparison is a bool -/
theorem cmp_bool {op : CmpOp} {x y : D} {S : Store} {γ : Type} {g : Bool → Store → R γ} : (ofO (cmpop op x y S) S).bind (fun z S => (ofB (truth S z) S).bind g) = (ofB (cmpop op x y S) S).bind g := by
  cases cmpop op x y S <;> rfl
theorem cmp_then {N : List Str} {tx : Tx} {calm : Bool} {sc : Scope} (c : CG kk Φ N tx calm sc pn W X) {op : CmpOp} {pins : Pn} {s : Shared} {σ : L2.St} {H : Hp} {ι : List Addr} {M : Addr → Prop} {S : Store} {γ δ : Type} {rel2 : List Addr → (Addr → Prop) → Hp → γ → δ → Prop} {dx dy : D} {x y : V} {v u : Value}
    {g : Bool → Store → R γ} {Q : δ → Hp → Prop} {Q' : Value → Shared → Prop} (I : Inv X pins σ H s) (rv : RelV x v) (ru : RelV y u) (sr : SR X.K ι M H S) (rx : Rep X.K ι M H dx x) (ry : Rep X.K ι M H dy y)
    (h : PostG X.K X.mg W σ rel2 ι M H ((ofB (cmpop op dx dy S) S).bind g) Q)
    (k : ∀ b s' ι' M' H', Inv X pins σ H' s' → Adv ι M H ι' M' H' → SR X.K ι' M' H' S → PostG X.K X.mg W σ rel2 ι' M' H' (g b S) Q → Q' (.bool b) s') : wpAny (model X.prog X.w) X.A (compareOp op v u) Q' X.xe s := by
  have h' : PostE X.K X.mg W σ ι M H (ofO (cmpop op dx dy S) S) (fun z H' => ∃ b ι' M', z = .bl b ∧ Adv ι M H ι' M' H' ∧ SR X.K ι' M' H' S ∧ PostG X.K X.mg W σ rel2 ι' M' H' (g b S) Q) := by
    cases e : cmpop op dx dy S with
    | none => rw [e] at h; exact h.bad
    | some b =>
      rw [e] at h
      intro v ι' M' H' a sr' rb
      exact ⟨b, ι', M', rb, a, sr', PostG.adv a h⟩
  refine thn (cmp_sound op c.hu W pins s σ H ι M S x y v u dx dy _ I rv ru sr rx ry h') fun z s' hz => ?_
  obtain ⟨zv, H', I', rz, b, ι', M', e, a1, sr', p⟩ := hz
  subst e
  obtain rfl : z = .bool b := rz
  exact k b s' ι' M' H' I' a1 sr' p
theorem eb_cmp {N : List Str} {tx : Tx} {calm : Bool} {sc : Scope} (c : CG kk Φ N tx calm sc pn W X) {a b : Expr} {f g : Env → Store → R D} {op : CmpOp} {pos : Pos} (hm : behindInMarks op b = false) (ha : EE X pn W a f) (hb : EE X pn W b g) :
    EB X pn W (.Compare a [op] [b] pos) (fun ρ S => testR ((f ρ S).bind fun x S => (g ρ S).bind fun y S => ofO (cmpop op x y S) S)) := by
  have e : ∀ ρ S, testR ((f ρ S).bind fun x S => (g ρ S).bind fun y S => ofO (cmpop op x y S) S) = (f ρ S).bind fun x S => (g ρ S).bind fun y S => (ofB (cmpop op x y S) S).bind fun b S => .ok b S := fun ρ S => by
    unfold testR
    cases f ρ S with
    | ok d S' =>
      simp only [R.bind_ok]
      cases g ρ S' with
      | ok e S2 =>
        simp only [R.bind_ok]
        cases cmpop op d e S2 <;> rfl
      | exc => rfl
      | bad => rfl
    | exc => rfl
    | bad => rfl
  refine ⟨fun pins s σ H Q I ⟨ι, M, ρ, S, sr, sl, p⟩ => ?_⟩
  have p : PostB X.K X.mg W σ ι M H (testR ((f ρ S).bind fun x S => (g ρ S).bind fun y S => ofO (cmpop op x y S) S)) Q := p
  rw [e] at p
  refine wpAny_isTrue_Compare1 ?_ hm
  refine ha.then I sr sl p fun d S1 x v s1 ι1 M1 H1 I1 rv a1 sr1 sl1 r1 p1 => ?_
  refine hb.then I1 sr1 sl1 p1 fun e S2 y u s2 ι2 M2 H2 I2 ru a2 sr2 sl2 r2 p2 => ?_
  refine cmp_then c I2 rv ru sr2 (Rep.adv a2 sr1.im _ _ r1) r2 p2 fun b s' ι' M' H' I' a3 sr' p' => ?_
  exact wpAny_truthy_bool ⟨H', I', p'.done sr' rfl⟩
theorem ee_chain {N : List Str} {tx : Tx} {calm : Bool} {sc : Scope} (c : CG kk Φ N tx calm sc pn W X) {a b d : Expr} {f g h : Env → Store → R D} {op op' : CmpOp} {pos : Pos} (hm : lastMarks [op, op'] [b, d] = false) (ha : EE X pn W a f) (hb : EE X pn W b g) (hd : EE X pn W d h) :
    EE X pn W (.Compare a [op, op'] [b, d] pos) (fun ρ S => (f ρ S).bind fun x S => (g ρ S).bind fun y S => (ofB (cmpop op x y S) S).bind fun r S => if r then (h ρ S).bind fun z S => ofO (cmpop op' y z S) S else .ok (.bl false) S) := by
  refine ⟨fun pins s σ H Q I ⟨ι, M, ρ, S, sr, sl, p⟩ => Compare_chain ?_ hm⟩
  refine ha.then I sr sl p fun d1 S1 x v s1 ι1 M1 H1 I1 rv a1 sr1 sl1 r1 p1 => chain_link ?_
  refine hb.then I1 sr1 sl1 p1 fun e S2 y u s2 ι2 M2 H2 I2 ru a2 sr2 sl2 r2 p2 => ?_
  refine cmp_then c I2 rv ru sr2 (Rep.adv a2 sr1.im _ _ r1) r2 p2 fun b s' ι' M' H' I' a3 sr' p' => ?_
  refine wpAny_truthy_bool ?_
  have sl' := sl2.adv a3 sr2.im
  have r2' := Rep.adv a3 sr2.im _ _ r2
  cases b with
  | false => exact ite_ff (ep_fin (x := .bl false) I' rfl (PostG.done p' sr' rfl))
  | true =>
    refine ite_tt (chain_last ?_)
    refine hd.then I' sr' sl' p' fun d4 S4 z w s4 ι4 M4 H4 I4 rw' a4 sr4 sl4 r4 p4 => ?_
    exact cmp_sound op' c.hu W pins s4 σ H4 ι4 M4 S4 y z u w e d4 Q I4 ru rw' sr4 (Rep.adv a4 sr'.im _ _ r2') r4 p4
theorem eb_chain {N : List Str} {tx : Tx} {calm : Bool} {sc : Scope} (c : CG kk Φ N tx calm sc pn W X) {a b d : Expr} {f g h : Env → Store → R D} {op op' : CmpOp} {pos : Pos} (hm : lastMarks [op, op'] [b, d] = false) (ha : EE X pn W a f) (hb : EE X pn W b g) (hd : EE X pn W d h) :
    EB X pn W (.Compare a [op, op'] [b, d] pos) (fun ρ S => testR ((f ρ S).bind fun x S => (g ρ S).bind fun y S => (ofB (cmpop op x y S) S).bind fun r S => if r then (h ρ S).bind fun z S => ofO (cmpop op' y z S) S else .ok (.bl false) S)) := by
  have e : ∀ ρ S, testR ((f ρ S).bind fun x S => (g ρ S).bind fun y S => (ofB (cmpop op x y S) S).bind fun r S => if r then (h ρ S).bind fun z S => ofO (cmpop op' y z S) S else .ok (.bl false) S)
      = (f ρ S).bind fun x S => (g ρ S).bind fun y S => (ofB (cmpop op x y S) S).bind fun r S => if r then (h ρ S).bind fun z S => (ofB (cmpop op' y z S) S).bind fun b S => .ok b S else .ok false S := fun ρ S => by
    unfold testR
    cases f ρ S with
    | ok d S' =>
      simp only [R.bind_ok]
      cases g ρ S' with
      | ok e S2 =>
        simp only [R.bind_ok]
        cases cmpop op d e S2 with
        | none => rfl
        | some r =>
          cases r with
          | false => rfl
          | true =>
            simp only [ofB, R.bind_ok, if_true]
            cases h ρ S2 with
            | ok z S3 =>
              simp only [R.bind_ok]
              cases cmpop op' e z S3 <;> rfl
            | exc => rfl
            | bad => rfl
      | exc => rfl
      | bad => rfl
    | exc => rfl
    | bad => rfl
  refine ⟨fun pins s σ H Q I ⟨ι, M, ρ, S, sr, sl, p⟩ => ?_⟩
  have p : PostB X.K X.mg W σ ι M H (testR ((f ρ S).bind fun x S => (g ρ S).bind fun y S => (ofB (cmpop op x y S) S).bind fun r S => if r then (h ρ S).bind fun z S => ofO (cmpop op' y z S) S else .ok (.bl false) S)) Q := p
  rw [e] at p
  refine isTrue_chain ?_ hm
  refine ha.then I sr sl p fun d1 S1 x v s1 ι1 M1 H1 I1 rv a1 sr1 sl1 r1 p1 => test_link ?_
  refine hb.then I1 sr1 sl1 p1 fun e S2 y u s2 ι2 M2 H2 I2 ru a2 sr2 sl2 r2 p2 => ?_
  refine cmp_then c I2 rv ru sr2 (Rep.adv a2 sr1.im _ _ r1) r2 p2 fun b s' ι' M' H' I' a3 sr' p' => ?_
  refine wpAny_truthy_bool ?_
  have sl' := sl2.adv a3 sr2.im
  have r2' := Rep.adv a3 sr2.im _ _ r2
  cases b with
  | false => exact ite_ff ⟨H', I', PostG.done p' sr' rfl⟩
  | true =>
    refine ite_tt (test_last ?_)
    refine hd.then I' sr' sl' p' fun d4 S4 z w s4 ι4 M4 H4 I4 rw' a4 sr4 sl4 r4 p4 => ?_
    refine cmp_then c I4 ru rw' sr4 (Rep.adv a4 sr'.im _ _ r2') r4 p4 fun b s5 ι5 M5 H5 I5 a5 sr5 p5 => ?_
    exact wpAny_truthy_bool ⟨H5, I5, p5.done sr5 rfl⟩
theorem ee_ife {a b d : Expr} {f g h : Env → Store → R D} {pos : Pos} (hc : EB X pn W d (fun ρ S => testR (h ρ S))) (ha : EE X pn W a f) (hb : EE X pn W b g) :
    EE X pn W (.IfExp d a b pos) (fun ρ S => (h ρ S).bind fun x S => (ofB (truth S x) S).bind fun r S => if r then f ρ S else g ρ S) := by
  refine ⟨fun pins s σ H Q I ⟨ι, M, ρ, S, sr, sl, p⟩ => wpAny_IfExp ?_⟩
  have p : PostE X.K X.mg W σ ι M H ((testR (h ρ S)).bind fun r S => if r then f ρ S else g ρ S) Q := by
    have e : (h ρ S).bind (fun x S => (ofB (truth S x) S).bind fun r S => if r then f ρ S else g ρ S) = (testR (h ρ S)).bind fun r S => if r then f ρ S else g ρ S := by
      unfold testR
      cases h ρ S <;> rfl
    rw [← e]
    exact p
  refine hc.then I sr sl p fun b S' s' ι' M' H' I' a1 sr' sl' p' => ?_
  cases b with
  | true => exact ha.run pins s' σ H' Q I' ⟨ι', M', ρ, S', sr', sl', p'⟩
  | false => exact hb.run pins s' σ H' Q I' ⟨ι', M', ρ, S', sr', sl', p'⟩
theorem eb_ife {a b d : Expr} {f g h : Env → Store → R D} {pos : Pos} (hc : EB X pn W d (fun ρ S => testR (h ρ S))) (ha : EB X pn W a (fun ρ S => testR (f ρ S))) (hb : EB X pn W b (fun ρ S => testR (g ρ S))) :
    EB X pn W (.IfExp d a b pos) (fun ρ S => testR ((h ρ S).bind fun x S => (ofB (truth S x) S).bind fun r S => if r then f ρ S else g ρ S)) := by
  refine ⟨fun pins s σ H Q I ⟨ι, M, ρ, S, sr, sl, p⟩ => isTrue_IfExp ?_⟩
  have p : PostB X.K X.mg W σ ι M H ((testR (h ρ S)).bind fun r S => if r then testR (f ρ S) else testR (g ρ S)) Q := by
    have e : testR ((h ρ S).bind (fun x S => (ofB (truth S x) S).bind fun r S => if r then f ρ S else g ρ S)) = (testR (h ρ S)).bind fun r S => if r then testR (f ρ S) else testR (g ρ S) := by
      unfold testR
      cases h ρ S with
      | ok d S' =>
        simp only [R.bind_ok]
        cases truth S' d with
        | none => rfl
        | some r => cases r <;> rfl
      | exc => rfl
      | bad => rfl
    rw [← e]
    exact p
  refine hc.then I sr sl p fun b S' s' ι' M' H' I' a1 sr' sl' p' => ?_
  cases b with
  | true => exact ha.run pins s' σ H' Q I' ⟨ι', M', ρ, S', sr', sl', p'⟩
  | false => exact hb.run pins s' σ H' Q I' ⟨ι', M', ρ, S', sr', sl', p'⟩
end
end Mp
/-! Mp, part I: and, or, calls, methods, items, slices. -/
namespace Mp
open PySem PySem.Spec PyProof.Rows L2
section
variable {X : Cx} {pn : Pz} {W : WX} {kk : Nat} {Φ : Phi}
theorem EW.then {a : Expr} {fa : Env → Store → R Bool} (ha : PW X a (tB X.K X.mg pn W fa)) (whole : Sem Value) {pins : Pn} {s : Shared} {σ : L2.St} {H : Hp} {ι : List Addr} {M : Addr → Prop} {ρ : Env} {S : Store}
    {Q : Bool → Hp → Prop} (I : Inv X pins σ H s) (sr : SR X.K ι M H S) (sl : SLt X.K X.mg pn ι M H ρ σ) (h : PostB X.K X.mg W σ ι M H (fa ρ S) Q) :
    wpAny (model X.prog X.w) X.A (isTrue a X.env whole) (TP X pins σ Q) X.xe s := ha.run whole pins s σ H Q I ⟨ι, M, ρ, S, sr, sl, h⟩
theorem ee_one {op : BoolOp} {a : Expr} {f : Env → Store → R D} {pos : Pos} (ha : EE X pn W a f) : EE X pn W (.BoolOp op [a] pos) f := pe_one ha
theorem ee_and {a b : Expr} {r : List Expr} {f g : Env → Store → R D} {pos : Pos} (ha : EE X pn W a f) (hb : EE X pn W (.BoolOp .And (b :: r) pos) g) :
    EE X pn W (.BoolOp .And (a :: b :: r) pos) (fun ρ S => (f ρ S).bind fun x S => (ofB (truth S x) S).bind fun c S => if c then g ρ S else .ok x S) := by
  refine ⟨fun pins s σ H Q I ⟨ι, M, ρ, S, sr, sl, p⟩ => BoolOp_and ?_⟩
  refine ha.then I sr sl p fun d S1 x v s1 ι1 M1 H1 I1 rv a1 sr1 sl1 r1 p1 => ?_
  refine truthy_then I1 rv sr1 r1 p1 fun c s2 _ I2 p2 => ?_
  cases c with
  | true => exact hb.run pins s2 σ H1 Q I2 ⟨ι1, M1, ρ, S1, sr1, sl1, p2⟩
  | false => exact ep_fin I2 rv (PostG.done p2 sr1 r1)
theorem ee_or {a b : Expr} {r : List Expr} {f g : Env → Store → R D} {pos : Pos} (ha : EE X pn W a f) (hb : EE X pn W (.BoolOp .Or (b :: r) pos) g) :
    EE X pn W (.BoolOp .Or (a :: b :: r) pos) (fun ρ S => (f ρ S).bind fun x S => (ofB (truth S x) S).bind fun c S => if c then .ok x S else g ρ S) := by
  refine ⟨fun pins s σ H Q I ⟨ι, M, ρ, S, sr, sl, p⟩ => BoolOp_or ?_⟩
  refine ha.then I sr sl p fun d S1 x v s1 ι1 M1 H1 I1 rv a1 sr1 sl1 r1 p1 => ?_
  refine truthy_then I1 rv sr1 r1 p1 fun c s2 _ I2 p2 => ?_
  cases c with
  | false => exact hb.run pins s2 σ H1 Q I2 ⟨ι1, M1, ρ, S1, sr1, sl1, p2⟩
  | true => exact ep_fin I2 rv (PostG.done p2 sr1 r1)
theorem tand_eq (f g : R D) (gS : Store → R D) : testR (f.bind fun x S => (ofB (truth S x) S).bind fun c S => if c then gS S else .ok x S) = (testR f).bind fun c S => if c then testR (gS S) else .ok false S := by
  unfold testR
  cases f with
  | ok d S =>
    simp only [R.bind_ok]
    cases e : truth S d with
    | none => rfl
    | some b =>
      cases b with
      | true => rfl
      | false => simp [ofB, e]
  | exc => rfl
  | bad => rfl
theorem tor_eq (f g : R D) (gS : Store → R D) : testR (f.bind fun x S => (ofB (truth S x) S).bind fun c S => if c then .ok x S else gS S) = (testR f).bind fun c S => if c then .ok true S else testR (gS S) := by
  unfold testR
  cases f with
  | ok d S =>
    simp only [R.bind_ok]
    cases e : truth S d with
    | none => rfl
    | some b =>
      cases b with
      | false => rfl
      | true => simp [ofB, e]
  | exc => rfl
  | bad => rfl
theorem ew_and {a b : Expr} {r : List Expr} {f g : Env → Store → R D} {pos : Pos} (ha : EB X pn W a (fun ρ S => testR (f ρ S))) (hb : PW X (.BoolOp .And (b :: r) pos) (tB X.K X.mg pn W fun ρ S => testR (g ρ S))) :
    PW X (.BoolOp .And (a :: b :: r) pos) (tB X.K X.mg pn W fun ρ S => testR ((f ρ S).bind fun x S => (ofB (truth S x) S).bind fun c S => if c then g ρ S else .ok x S)) := by
  refine ⟨fun wh pins s σ H Q I ⟨ι, M, ρ, S, sr, sl, p⟩ => ?_⟩
  have p : PostB X.K X.mg W σ ι M H (testR ((f ρ S).bind fun x S => (ofB (truth S x) S).bind fun c S => if c then g ρ S else .ok x S)) Q := p
  rw [tand_eq (f ρ S) (g ρ S)] at p
  refine isTrue_and (ha.then I sr sl p fun c S' s' ι' M' H' I' a1 sr' sl' p' => ?_)
  cases c with
  | true => exact hb.run wh pins s' σ H' Q I' ⟨ι', M', ρ, S', sr', sl', p'⟩
  | false => exact ⟨H', I', PostG.done p' sr' rfl⟩
theorem ew_or {a b : Expr} {r : List Expr} {f g : Env → Store → R D} {pos : Pos} (ha : EB X pn W a (fun ρ S => testR (f ρ S))) (hb : PW X (.BoolOp .Or (b :: r) pos) (tB X.K X.mg pn W fun ρ S => testR (g ρ S))) :
    PW X (.BoolOp .Or (a :: b :: r) pos) (tB X.K X.mg pn W fun ρ S => testR ((f ρ S).bind fun x S => (ofB (truth S x) S).bind fun c S => if c then .ok x S else g ρ S)) := by
  refine ⟨fun wh pins s σ H Q I ⟨ι, M, ρ, S, sr, sl, p⟩ => ?_⟩
  have p : PostB X.K X.mg W σ ι M H (testR ((f ρ S).bind fun x S => (ofB (truth S x) S).bind fun c S => if c then .ok x S else g ρ S)) Q := p
  rw [tor_eq (f ρ S) (g ρ S)] at p
  refine isTrue_or (ha.then I sr sl p fun c S' s' ι' M' H' I' a1 sr' sl' p' => ?_)
  cases c with
  | false => exact hb.run wh pins s' σ H' Q I' ⟨ι', M', ρ, S', sr', sl', p'⟩
  | true => exact ⟨H', I', PostG.done p' sr' rfl⟩
/-! ### built-ins and methods -/
theorem ee_blt {N : List Str} {tx : Tx} {calm : Bool} {sc : Scope} (c : CG kk Φ N tx calm sc pn W X) {b : BI} (fz : Bool) {x : Str} {p pos : Pos} {e : Expr} {es : List Expr} {f : Env → Store → R (List D)} (hcalm : calm = true) (h1 : x = bltN b) (h2 : glB sc x = true) (h3 : okName x = true) (h4 : tx.blt b = true)
    (he : starEach (e :: es) X.env = (false, eval e X.env) :: starEach es X.env) (hpl : (backTo pos (starEach es X.env)).any (·.1) = false) (ha : EA X pn W (e :: es) f) : EE X pn W (.Call (.Name x p) (e :: es) [] pos) (fun ρ S => (f ρ S).bind fun xs S => blt b fz xs S) := by
  obtain ⟨k1, k2, k3⟩ := okName_of h3
  subst h1
  have run : ∀ {pins : Pn} {s : Shared} {σ : L2.St} {H : Hp} {Q : VK} {ι : List Addr} {M : Addr → Prop} {ρ : Env} {S : Store}, Inv X pins σ H s → SR X.K ι M H S → SLt X.K X.mg pn ι M H ρ σ → PostE X.K X.mg W σ ι M H ((f ρ S).bind fun xs S => blt b fz xs S) Q →
      wpAny (model X.prog X.w) X.A (spliced (backTo pos (starEach (e :: es) X.env))) (fun us s1 => wpAny (model X.prog X.w) X.A (call (bltV b) us) (EP X pins σ Q) X.xe s1) X.xe s := by
    intro pins s σ H Q ι M ρ S I sr sl p
    refine ha.then I sr sl p fun ds S1 vs us s1 ι1 M1 H1 I1 rv a1 sr1 sl1 r1 p1 => ?_
    exact blt_sound b fz (c.clm hcalm) W pins s1 σ H1 ι1 M1 S1 vs us ds Q I1 rv sr1 r1 p1
  refine ⟨fun pins s σ H Q I ⟨ι, M, ρ, S, sr, sl, p⟩ => wpAny_Call_Name_kw ?_⟩
  rcases c.g.blt b h4 with ⟨m1, m2⟩ | ⟨e1, m1⟩
  · refine ld_blt I (c.gl h2) m1 m2 ?_ k3 k1
    cases hb : b with
    | int => rw [hb] at run; exact PyProof.Rows.callWith_type1 (by rw [hb] at p; exact run I sr sl p) he hpl
    | tuple => rw [hb] at run; exact PyProof.Rows.callWith_type1 (by rw [hb] at p; exact run I sr sl p) he hpl
    | list => rw [hb] at run; exact PyProof.Rows.callWith_type1 (by rw [hb] at p; exact run I sr sl p) he hpl
    | str => rw [hb] at run; exact PyProof.Rows.callWith_type1 (by rw [hb] at p; exact run I sr sl p) he hpl
    | dict => rw [hb] at run; exact PyProof.Rows.callWith_type1 (by rw [hb] at p; exact run I sr sl p) he hpl
    | _ => rw [hb] at run; exact PyProof.Rows.callWith_builtin1 (by rw [hb] at p; exact run I sr sl p) he hpl
  · refine ld_glob I (c.gl h2) m1 ?_ k1
    subst e1
    exact PyProof.Rows.callWith_builtin1 (run I sr sl p) he hpl
theorem slot_app : Slot "list" "append" "list.append" := PySem.F.slot_list_append
theorem ext_ok {pins : Pn} {s : Shared} {σ : L2.St} {H : Hp} {l b : Addr} {xs zs : List V} {v : Value} {us : List Value} {Q : VK} (I : Inv X pins σ H s) (rx : RelV (.ref l) v) (rv : Vals [.ref b] us) (hH : H l = some (.lst xs)) (hB : LsAt X.K H b zs) (hz : xs.length + zs.length ≤ sizeLine) (q : Q .non (upd H l (.lst (xs ++ zs)))) :
    wpAny (model X.prog X.w) X.A (call (.builtin "list.extend") (v :: us)) (EP X pins σ Q) X.xe s := by
  cases rx
  obtain ⟨u, rfl, ru⟩ := rv.one
  cases ru
  obtain ⟨its, n, r, z, e⟩ := LsAt.lstM I (.inl (.of hH) : LsAt X.K H l xs)
  obtain ⟨its2, n2, r2, z2, e2⟩ := LsAt.lstM I hB
  have hl := r.length; have hl2 := r2.length
  have hsz : its.toArray.size + its2.toArray.size ≤ sizeLine := by rw [List.size_toArray, List.size_toArray]; omega
  have hlong : ¬ (!its.toArray.isEmpty && Builtin.List.listTooLong (its.toArray.size + its2.toArray.size)) = true := by rw [notLongL hsz, Bool.and_false]; exact Bool.false_ne_true
  refine call_meets F.slot_list_extend ⟨_, e, rfl⟩ F.entry_list_extend (F.args_list_extend_2 _ _) (AutoSeq1.list_extend_list_list_0 l its.toArray n b its2.toArray n2 hlong (by rw [List.size_toArray]; omega) (by omega)) ⟨e, e2, ?_⟩
  refine ⟨.non, _, I.lset (its' := its ++ its2) hH e (by simp) (r.append r2) ?_, rfl, q⟩
  rw [List.length_append]; omega
/-- a list's method -/
theorem meth_sound {m : MT} {id : String} (hid : (m = .append ∧ id = "list.append") ∨ (m = .pop ∧ id = "list.pop") ∨ (m = .reverse ∧ id = "list.reverse") ∨ (m = .extend ∧ id = "list.extend")) {pins : Pn} {s : Shared} {σ : L2.St} {H : Hp} {ι : List Addr} {M : Addr → Prop} {S : Store} {x : V} {v : Value} {vs : List V} {us : List Value} {dx : D} {ds : List D} {Q : VK}
    (I : Inv X pins σ H s) (rv : RelV x v) (rvs : Vals vs us) (sr : SR X.K ι M H S) (rx : Rep X.K ι M H dx x) (rs : RepL X.K ι M H ds vs) (h : PostE X.K X.mg W σ ι M H (meth m dx ds S) Q) : wpAny (model X.prog X.w) X.A (call (.builtin id) (v :: us)) (EP X pins σ Q) X.xe s := by
  cases dx with
  | ref n =>
    obtain ⟨a, rfl, h2⟩ := rx
    obtain ⟨o, h3, h4⟩ := sr.get h2
    simp only [meth, h3] at h
    cases o with
    | dic _ _ => exact h.bad
    | lok _ _ => exact h.bad
    | lst xs =>
      obtain ⟨ws, h5, h6, h7⟩ := h4
      have hl := h7.length
      have ha : a ∈ ι := List.mem_of_getElem? h2
      simp only at h
      rcases hid with ⟨rfl, rfl⟩ | ⟨rfl, rfl⟩ | ⟨rfl, rfl⟩ | ⟨rfl, rfl⟩
      · match ds, rs, h with
        | [], rs, h => exact h.bad
        | _ :: _ :: _, rs, h => exact h.bad
        | [d], rs, h =>
          obtain ⟨y, r', rfl, g1, g2⟩ := rs
          obtain rfl : r' = [] := g2
          by_cases c : xs.length < line
          · simp only [methL, if_pos c] at h
            have x' : Adv ι M H ι M (upd H a (.lst (ws ++ [y]))) := Adv.write ha (fun _ _ z => by rw [h5] at z; cases z)
            refine mt_append pins s σ H _ _ v us Q I rv rvs ⟨a, ws, y, rfl, rfl, h5, by rw [← hl, ← line_eq]; exact c, h _ ι M _ x' (sr.write h2 (fun _ _ z => by rw [h5] at z; cases z) ⟨_, upd_same, by rw [List.length_append]; exact c, ?_⟩) rfl⟩
            exact RepL.adv x' sr.im _ _ (h7.append (.one g1))
          · simp only [methL, if_neg c] at h
            exact h.bad
      · match ds, rs, h with
        | [], rs, h =>
          obtain rfl : vs = [] := rs
          simp only [methL] at h
          cases e : xs[xs.length - 1]? with
          | none => rw [e] at h; exact h.bad
          | some d =>
            rw [e] at h
            obtain ⟨y, e1, e2⟩ := RepL.get h7 e
            have x' : Adv ι M H ι M (upd H a (.lst ws.dropLast)) := Adv.write ha (fun _ _ z => by rw [h5] at z; cases z)
            refine mt_pop pins s σ H _ _ v us Q I rv rvs ⟨a, ws, y, rfl, rfl, h5, by rw [← hl]; exact e1, h _ ι M _ x' (sr.write h2 (fun _ _ z => by rw [h5] at z; cases z) ⟨_, upd_same, by rw [List.length_dropLast]; omega, ?_⟩) (Rep.adv x' sr.im _ _ e2)⟩
            refine RepL.adv x' sr.im _ _ ?_
            rw [List.dropLast_eq_take, List.dropLast_eq_take, hl]
            exact h7.take _
        | [d], rs, h =>
          obtain ⟨y, r', rfl, g1, g2⟩ := rs
          obtain rfl : r' = [] := g2
          cases d with
          | int i =>
            obtain rfl : y = .int i := g1
            simp only [methL] at h
            by_cases c : -(2 ^ 63) ≤ i ∧ i < 2 ^ 63
            · simp only [if_pos c] at h
              cases ek : seqIndex? i xs.length with
              | none => rw [ek] at h; exact h.bad
              | some k =>
                rw [ek] at h
                simp only at h
                cases e : xs[k]? with
                | none => rw [e] at h; exact h.bad
                | some d =>
                  rw [e] at h
                  obtain ⟨z, e1, e2⟩ := RepL.get h7 e
                  have x' : Adv ι M H ι M (upd H a (.lst (ws.eraseIdx k))) := Adv.write ha (fun _ _ z => by rw [h5] at z; cases z)
                  refine mt_popAt pins s σ H _ _ v us Q I rv rvs ⟨a, ws, i, k, z, rfl, rfl, h5, c.1, c.2, by rw [← hl]; exact ek, e1, h _ ι M _ x' (sr.write h2 (fun _ _ z => by rw [h5] at z; cases z) ⟨_, upd_same, ?_, ?_⟩) (Rep.adv x' sr.im _ _ e2)⟩
                  · have := List.length_eraseIdx_le xs k
                    omega
                  · refine RepL.adv x' sr.im _ _ ?_
                    rw [List.eraseIdx_eq_take_drop_succ, List.eraseIdx_eq_take_drop_succ]
                    exact (h7.take _).append (h7.drop _)
            · simp only [if_neg c] at h
              exact h.bad
          | _ => exact h.bad
        | _ :: _ :: _, rs, h =>
          have h' : PostE X.K X.mg W σ ι M H .bad Q := by
            rename_i d1 d2 r
            cases d1 <;> exact h
          exact h'.bad
      · match ds, rs, h with
        | [], rs, h =>
          obtain rfl : vs = [] := rs
          simp only [methL] at h
          have x' : Adv ι M H ι M (upd H a (.lst ws.reverse)) := Adv.write ha (fun _ _ z => by rw [h5] at z; cases z)
          refine mt_reverse pins s σ H _ _ v us Q I rv rvs ⟨a, ws, rfl, rfl, h5, h _ ι M _ x' (sr.write h2 (fun _ _ z => by rw [h5] at z; cases z) ⟨_, upd_same, by rw [List.length_reverse]; exact h6, ?_⟩) rfl⟩
          exact RepL.adv x' sr.im _ _ h7.reverse
        | _ :: _, rs, h => exact h.bad
      · match ds, rs, h with
        | [], rs, h => exact h.bad
        | _ :: _ :: _, rs, h => exact h.bad
        | [d], rs, h =>
          obtain ⟨y, r', rfl, g1, g2⟩ := rs
          obtain rfl : r' = [] := g2
          simp only [methL] at h
          cases e : lstOf S d with
          | none => rw [e] at h; exact h.bad
          | some ys =>
            rw [e] at h
            simp only at h
            obtain ⟨b, zs, rfl, k1, k2, k3⟩ := lst_of sr g1 e
            have hl2 := k2.length
            by_cases c : xs.length + ys.length ≤ line
            · simp only [if_pos c] at h
              have x' : Adv ι M H ι M (upd H a (.lst (ws ++ zs))) := Adv.write ha (fun _ _ z => by rw [h5] at z; cases z)
              refine ext_ok I rv rvs h5 k1 (by rw [← hl, ← hl2, ← line_eq]; exact c) (h _ ι M _ x' (sr.write h2 (fun _ _ z => by rw [h5] at z; cases z) ⟨_, upd_same, by rw [List.length_append]; exact c, ?_⟩) rfl)
              exact RepL.adv x' sr.im _ _ (h7.append k2)
            · simp only [if_neg c] at h
              exact h.bad
  | _ => exact h.bad
theorem evalArgs_any {M : Model} {A : Around} {E : Value → Shared → Prop} {s : Shared} {f : Value} {Q : Args → Shared → Prop} : ∀ {l : List (Bool × Sem Value)}, l.any (·.1) = false → wpAny M A (spliced l) (fun vs s' => Q ⟨vs, []⟩ s') E s → wpAny M A (evalArgs f true l []) Q E s
  | [], _, h => by
    unfold evalArgs
    show wpAny M A (spliced [] >>= _) Q E s
    refine wpAny_bind (thn h fun vs s' h' => ?_)
    refine wpAny_bind (wpAny_pure ?_)
    refine wpAny_holding ?_
    exact wpAny_bind (wpAny_pure (wpAny_bind (wpAny_pure (wpAny_pure h'))))
  | (false, x) :: l, _, h => Calls.evalArgs_plain h
  | (true, x) :: l, e, _ => by cases (show true = false from e)
theorem base_of {o : Expr} {n : Str} {env : PySem.Env} (h : baseB o = true) : attributeBase o n env (eval o env) = eval o env := by
  cases o <;> first | rfl | cases h
theorem ee_meth {N : List Str} {tx : Tx} {calm : Bool} {sc : Scope} {m : MT} {x : Str} {ap cp : Pos} {o : Expr} {es : List Expr} {fo : Env → Store → R D} {f : Env → Store → R (List D)} {Es0 : Es} (hok : mtOk m = true) (h1 : x = mtN m) (h2 : baseB o = true) (h3 : (ap.endLine == cp.line) = true)
    (hm : mEs tx N calm sc Es0 es = true) (hlen : es.length < 5) (ho : EE X pn W o fo) (ha : EA X pn W es f) :
    EE X pn W (.Call (.Attribute o x ap) es [] cp) (fun ρ S => (fo ρ S).bind fun x S => if (lstOf S x).isSome then (f ρ S).bind fun xs S => meth m x xs S else .bad) := by
  subst h1
  refine ⟨fun pins s σ H Q I ⟨ι, M, ρ, S, sr, sl, p⟩ => ?_⟩
  have few : ((backTo cp (starEach es X.env)).all (fun x => !x.1) && (backToKw cp (keywordEach [] X.env)).all (fun x => x.1.isSome) && decide (es.length + ([] : List Keyword).length + (if ([] : List Keyword).isEmpty then 0 else 1) < 30)) = true := by
    have e1 := plain_any (env := X.env) cp hm
    have e2 : (backTo cp (starEach es X.env)).all (fun x => !x.1) = true := by
      rw [List.all_eq_not_any_not]
      simpa using e1
    rw [e2]
    have e3 : decide (es.length + ([] : List Keyword).length + (if ([] : List Keyword).isEmpty then 0 else 1) < 30) = true := by
      refine decide_eq_true ?_
      show es.length + 0 + 0 < 30
      omega
    rw [e3]
    rfl
  have go : ∀ {id : String}, ((m = .append ∧ id = "list.append") ∨ (m = .pop ∧ id = "list.pop") ∨ (m = .reverse ∧ id = "list.reverse") ∨ (m = .extend ∧ id = "list.extend")) → Slot "list" (mtN m) id → typeOf (.builtin id) = pure (.type "method_descriptor") →
      wpAny (model X.prog X.w) X.A (eval (.Call (.Attribute o (mtN m) ap) es [] cp) X.env) (EP X pins σ Q) X.xe s := by
    intro id hid slot hty
    refine wpAny_Call_method_late (base_of h2) few h3 rfl (ho.then I sr sl p fun d S1 x v s1 ι1 M1 H1 I1 rv a1 sr1 sl1 r1 p1 => ?_)
    by_cases c : (lstOf S1 d).isSome = true
    · simp only [if_pos c] at p1
      obtain ⟨xs, ex⟩ := Option.isSome_iff_exists.mp c
      obtain ⟨a, vs, rfl, g1, g2, g3⟩ := lst_of sr1 r1 ex
      obtain ⟨t1, t2⟩ := tyV_is (T := "list") I1 rv (.inl ⟨rfl, vs, g1.sq⟩)
      refine ⟨"list", id, PySem.F.plainAttrs_list, slot, hty, t1, t2, Calls.callWith_builtin (plain_any cp hm) (evalArgs_any (plain_any cp hm) ?_)⟩
      refine ha.then I1 sr1 sl1 p1 fun ds S2 ws us s2 ι2 M2 H2 I2 rv2 a2 sr2 sl2 r2 p2 => ?_
      exact meth_sound hid I2 rv rv2 sr2 (Rep.adv a2 sr1.im _ _ r1) r2 p2
    · simp only [if_neg c] at p1
      exact p1.bad
  cases m with
  | append => exact go (.inl ⟨rfl, rfl⟩) PySem.F.slot_list_append PySem.F.type_list_append
  | pop => exact go (.inr (.inl ⟨rfl, rfl⟩)) PySem.F.slot_list_pop PySem.F.type_list_pop
  | reverse => exact go (.inr (.inr (.inl ⟨rfl, rfl⟩))) PySem.F.slot_list_reverse PySem.F.type_list_reverse
  | extend => exact go (.inr (.inr (.inr ⟨rfl, rfl⟩))) PySem.F.slot_list_extend PySem.F.type_list_extend
  | _ => cases hok
end
end Mp
/-! Mp, part J: calls of the text's own functions, items, slices. -/
namespace Mp
open PySem PySem.Spec PyProof.Rows L2
theorem lookS_rel {α β : Type} {F : α → β → Prop} {p : Str} : ∀ {ks : List Str} {as : List α} {bs : List β}, Paired F as bs → (∀ a, lookS p ks as = some a → ∃ b, lookS p ks bs = some b ∧ F a b)
  | [], _, _, _, a, e => by cases e
  | _ :: _, _, _, .nil, a, e => by cases e
  | k :: ks, _, _, .cons r t, a, e => by
    simp only [lookS] at e ⊢
    by_cases c : k = p
    · rw [if_pos c] at e ⊢
      cases e
      exact ⟨_, rfl, r⟩
    · rw [if_neg c] at e ⊢
      exact lookS_rel t a e
theorem pick_rel {α β : Type} {F : α → β → Prop} {ks : List Str} {as : List α} {bs : List β} (r : Paired F as bs) : ∀ {ps : List Str} {xs : List α}, pick ks as ps = some xs → ∃ ys, pick ks bs ps = some ys ∧ Paired F xs ys
  | [], xs, e => by
    cases e
    exact ⟨[], rfl, .nil⟩
  | p :: ps, xs, e => by
    simp only [pick] at e ⊢
    cases q : lookS p ks as with
    | none => rw [q] at e; cases e
    | some a =>
      rw [q] at e
      simp only at e
      obtain ⟨b, e1, f1⟩ := lookS_rel r a q
      cases q2 : pick ks as ps with
      | none => rw [q2] at e; cases e
      | some r' =>
        rw [q2] at e
        cases e
        obtain ⟨ys, e2, f2⟩ := pick_rel r q2
        rw [e1, e2]
        exact ⟨b :: ys, rfl, .cons f1 f2⟩
theorem Paired.app {α β : Type} {F : α → β → Prop} : ∀ {as cs : List α} {bs ds : List β}, Paired F as bs → Paired F cs ds → Paired F (as ++ cs) (bs ++ ds)
  | _, _, _, _, .nil, t => t
  | _, _, _, _, .cons r s, t => .cons r (Paired.app s t)
theorem arr_rel {α β : Type} {F : α → β → Prop} {ps ks : List Str} {xs as : List α} {ys bs : List β} (rx : Paired F xs ys) (r : Paired F as bs) {zs : List α} (e : arr ps xs ks as = some zs) : ∃ ws, arr ps ys ks bs = some ws ∧ Paired F zs ws := by
  unfold arr at e ⊢
  have hl : xs.length = ys.length := Paired.length rx
  have hl2 : as.length = bs.length := Paired.length r
  rw [← hl, ← hl2]
  by_cases c : xs.length + ks.length = ps.length ∧ as.length = ks.length
  · rw [if_pos c] at e ⊢
    cases q : pick ks as (ps.drop xs.length) with
    | none => rw [q] at e; cases e
    | some r' =>
      rw [q] at e
      cases e
      obtain ⟨w, e1, e2⟩ := pick_rel r q
      rw [e1]
      exact ⟨_, rfl, Paired.app rx e2⟩
  · rw [if_neg c] at e
    cases e
theorem arr_len {α : Type} {ps ks : List Str} {xs as zs : List α} (e : arr ps xs ks as = some zs) : zs.length = ps.length := by
  unfold arr at e
  by_cases c : xs.length + ks.length = ps.length ∧ as.length = ks.length
  · rw [if_pos c] at e
    have pl : ∀ {l : List Str} {r : List α}, pick ks as l = some r → r.length = l.length := by
      intro l
      induction l with
      | nil => intro r e; cases e; rfl
      | cons p l ih =>
        intro r e
        simp only [pick] at e
        cases q : lookS p ks as with
        | none => rw [q] at e; cases e
        | some a =>
          rw [q] at e
          simp only at e
          cases q2 : pick ks as l with
          | none => rw [q2] at e; cases e
          | some r' =>
            rw [q2] at e
            cases e
            rw [List.length_cons, List.length_cons, ih q2]
    cases q : pick ks as (ps.drop xs.length) with
    | none => rw [q] at e; cases e
    | some r' =>
      rw [q] at e
      cases e
      rw [List.length_append, pl q, List.length_drop]
      omega
  · rw [if_neg c] at e
    cases e
theorem repL_paired {K : Fg} {ι : List Addr} {M : Addr → Prop} {H : Hp} : ∀ {ds : List D} {vs : List V}, RepL K ι M H ds vs → Paired (Rep K ι M H) ds vs
  | [], vs, h => by
    rw [show vs = [] from h]
    exact .nil
  | d :: ds, vs, h => by
    obtain ⟨v, r, rfl, h1, h2⟩ := h
    exact .cons h1 (repL_paired h2)
theorem paired_repL {K : Fg} {ι : List Addr} {M : Addr → Prop} {H : Hp} : ∀ {ds : List D} {vs : List V}, Paired (Rep K ι M H) ds vs → RepL K ι M H ds vs
  | _, _, .nil => .nil
  | _, _, .cons r t => .cons r (paired_repL t)
section
variable {X : Cx} {pn : Pz} {W : WX} {kk : Nat} {Φ : Phi}
abbrev EK (X : Cx) (pn : Pz) (W : WX) (kws : List Keyword) (f : Env → Store → R (List D)) : Prop := PK X kws (tL X.K X.mg pn W f)
theorem EK.then {pos : Pos} {kws : List Keyword} {fa : Env → Store → R (List D)} (ha : EK X pn W kws fa) {pins : Pn} {s : Shared} {σ : L2.St} {H : Hp} {ι : List Addr} {M : Addr → Prop} {ρ : Env} {S : Store} {γ δ : Type} {rel2 : List Addr → (Addr → Prop) → Hp → γ → δ → Prop}
    {g : List D → Store → R γ} {Q : δ → Hp → Prop} {Q' : List Value → Shared → Prop} (I : Inv X pins σ H s) (sr : SR X.K ι M H S) (sl : SLt X.K X.mg pn ι M H ρ σ) (h : PostG X.K X.mg W σ rel2 ι M H ((fa ρ S).bind g) Q)
    (k : ∀ d S' x v s' ι' M' H', Inv X pins σ H' s' → Vals x v → Adv ι M H ι' M' H' → SR X.K ι' M' H' S' → SLt X.K X.mg pn ι' M' H' ρ σ → RepL X.K ι' M' H' d x → PostG X.K X.mg W σ rel2 ι' M' H' (g d S') Q → Q' v s') :
    wpAny (model X.prog X.w) X.A (evalAll ((backToKw pos (keywordEach kws X.env)).map (·.2))) Q' X.xe s := by
  refine thn (ha.run pos pins s σ H (fun x H' => ∃ d S' ι' M', Adv ι M H ι' M' H' ∧ SR X.K ι' M' H' S' ∧ SLt X.K X.mg pn ι' M' H' ρ σ ∧ RepL X.K ι' M' H' d x ∧ PostG X.K X.mg W σ rel2 ι' M' H' (g d S') Q) I ?_) fun v s' hv => ?_
  · exact tG.of sr sl h fun d S' x ι' M' H' a1 a2 a3 a4 a5 => ⟨d, S', ι', M', a1, a2, a3, a4, a5⟩
  · obtain ⟨x, H', I', rv, d, S', ι', M', a1, a2, a3, a4, a5⟩ := hv
    exact k d S' x v s' ι' M' H' I' rv a1 a2 a3 a4 a5
theorem ek_nil : EK X pn W [] (fun _ S => .ok [] S) := by
  refine ⟨fun pos pins s σ H Q I ⟨ι, M, ρ, S, sr, sl, p⟩ => pk_nil.run pos pins s σ H Q I ?_⟩
  exact PostG.done p sr RepL.nil
theorem ek_cons {nm : Option Str} {kp : Pos} {e : Expr} {kws : List Keyword} {f : Env → Store → R D} {g : Env → Store → R (List D)} (he : EE X pn W e f) (hs : EK X pn W kws g) :
    EK X pn W (⟨nm, e, kp⟩ :: kws) (fun ρ S => (f ρ S).bind fun x S => (g ρ S).bind fun xs S => .ok (x :: xs) S) := by
  refine ⟨fun pos pins s σ H Q I ⟨ι, M, ρ, S, sr, sl, p⟩ => (pk_cons he hs).run pos pins s σ H Q I ?_⟩
  refine tG.of sr sl p fun d S1 x ι1 M1 H1 a1 sr1 sl1 r1 p1 => ?_
  refine tG.of sr1 sl1 p1 fun ds S2 xs ι2 M2 H2 a2 sr2 sl2 r2 p2 => ?_
  exact p2.done sr2 (.cons (Rep.adv a2 sr1.im _ _ r1) r2)
theorem kw_facts {pos : Pos} {env : PySem.Env} : ∀ {kws : List Keyword} {ks : List Str}, kwB kws ks = true → (backToKw pos (keywordEach kws env)).all (·.1.isSome) = true ∧ (backToKw pos (keywordEach kws env)).filterMap (·.1) = ks ∧ (backToKw pos (keywordEach kws env)).any (·.1.isNone) = false
  | [], [], _ => ⟨rfl, rfl, rfl⟩
  | ⟨some x, v, p⟩ :: r, y :: ys, h => by
    simp only [kwB, Bool.and_eq_true, decide_eq_true_eq] at h
    obtain ⟨e, h⟩ := h
    subst e
    obtain ⟨h1, h2, h3⟩ := kw_facts (pos := pos) (env := env) h
    simp only [backToKw, keywordEach, List.map_cons, List.all_cons, List.filterMap_cons, List.any_cons] at h1 h2 h3 ⊢
    refine ⟨by simpa using h1, by rw [h2], by simpa using h3⟩
  | [], _ :: _, h => by cases h
  | _ :: _, [], h => by rename_i a _; obtain ⟨n, _, _⟩ := a; cases n <;> cases h
  | ⟨none, _, _⟩ :: _, _ :: _, h => by cases h
/-- the callee runs -/
theorem fn_run {N : List Str} {tx : Tx} {calm : Bool} {sc : Scope} (c : CG kk Φ N tx calm sc pn W X) {f : Str} {ks : List Str} {a : Addr} {fd : FuncData} {ps : List Str} {φ : List D → Store → R D} (hcalm : calm = true)
    (F : FnOk X.prog X.w X.K X.mg X.base (L2.CX X.prog X.w) kk a fd ps (spF X.K X.mg ps φ)) (bd : ∀ (s : Shared) (us ws zs : List Value), X.K.In s.heap → arr ps us ks ws = some zs → BindsTo s fd ⟨us, ks.zip ws⟩ (ps.zip zs))
    (hΦ : ∀ xs ys S, Φ f xs ks ys S = match arr ps xs ks ys with | some as => φ as S | none => .bad) {pins : Pn} {s : Shared} {σ : L2.St} {H : Hp} {ι : List Addr} {M : Addr → Prop} {S : Store} {vs zs : List V} {us ws : List Value} {ds es : List D} {Q : VK}
    (I : Inv X pins σ H s) (rv : Vals vs us) (rz : Vals zs ws) (sr : SR X.K ι M H S) (rd : RepL X.K ι M H ds vs) (re : RepL X.K ι M H es zs) (h : PostE X.K X.mg W σ ι M H (Φ f ds ks es S) Q) :
    wpAny (model X.prog X.w) X.A (call (.ref a) us (ks.zip ws)) (EP X pins σ Q) X.xe s := by
  rw [hΦ] at h
  cases e : arr ps ds ks es with
  | none => rw [e] at h; exact h.bad
  | some as =>
    rw [e] at h
    simp only at h
    obtain ⟨avs, e1, r1⟩ := arr_rel (repL_paired rd) (repL_paired re) e
    obtain ⟨aus, e2, r2⟩ := arr_rel rv rz e1
    have hl := arr_len e1
    refine wpAny_call (codeAny_mono (F.run X.A X.stack s H ⟨us, ks.zip ws⟩ aus avs Q (fun cls d H' => W cls d σ H') (c.room hcalm) I.env0 (bd s us ws aus I.kIn e2) r2 ⟨hl, ι, M, S, as, sr, paired_repL r1, ?_⟩) fun r s' hq => ?_)
    · cases q : φ as S with
      | ok d S' => rw [q] at h; exact h
      | exc x fs xs S' => rw [q] at h; exact h
      | bad => rw [q] at h; exact h
    · cases r with
      | error x => exact c.tk x s' (XE.of_call I (fun _ _ _ z => z) hq)
      | ok fl =>
        cases fl with
        | ret u => exact I.after hq
        | next => exact False.elim hq
        | brk => exact False.elim hq
        | cont => exact False.elim hq
theorem ee_call {N : List Str} {tx : Tx} {calm : Bool} {sc : Scope} (c : CG kk Φ N tx calm sc pn W X) {f x : Str} {ks : List Str} {p pos : Pos} {es : List Expr} {kws : List Keyword} {fa fk : Env → Store → R (List D)} {Es0 : Es} (hcalm : calm = true) (h1 : x = f) (h2 : glB sc x = true) (h3 : okName x = true)
    (h4 : tx.fn f ks = true) (hm : mEs tx N calm sc Es0 es = true) (hk : kwB kws ks = true) (ha : EA X pn W es fa) (hkw : EK X pn W kws fk) (hnil : es = [] → ∀ ρ S, fa ρ S = .ok [] S) :
    EE X pn W (.Call (.Name x p) es kws pos) (fun ρ S => (fa ρ S).bind fun xs S => (fk ρ S).bind fun ys S => Φ f xs ks ys S) := by
  obtain ⟨k1, k2, k3⟩ := okName_of h3
  subst h1
  obtain ⟨a, fd, ps, φ, hmg, hkp, F, bd, hΦ⟩ := c.fns x ks h4
  obtain ⟨q1, q2, q3⟩ := kw_facts (pos := pos) (env := X.env) hk
  refine ⟨fun pins s σ H Q I ⟨ι, M, ρ, S, sr, sl, p⟩ => wpAny_Call_Name_kw (ld_glob I (c.gl h2) hmg ?_ k1)⟩
  have hpl : ((backTo pos (starEach es X.env)).any (·.1) || (backToKw pos (keywordEach kws X.env)).any (·.1.isNone)) = false := by rw [plain_any pos hm, q3]; rfl
  cases es with
  | cons e es =>
    have hb : plainB e = true := by
      cases Es0 with
      | nil => cases hm
      | cons _ _ => simp only [mEs, Bool.and_eq_true] at hm; exact hm.1.1
    refine PySem.W.callWith_KW (h₀ := X.base) I.ok.mod.kin hkp q1 (ha.then I sr sl p fun ds S1 vs us s1 ι1 M1 H1 I1 rv a1 sr1 sl1 r1 p1 => ?_) hpl (star_of hb)
    refine hkw.then I1 sr1 sl1 p1 fun es' S2 zs ws s2 ι2 M2 H2 I2 rz a2 sr2 sl2 r2 p2 => ⟨I2.kIn, ?_⟩
    rw [q2]
    exact fn_run c hcalm F bd hΦ I2 rv rz sr2 (RepL.adv a2 sr1.im _ _ r1) r2 p2
  | nil =>
    refine PySem.W.callWith_KW0 (h₀ := X.base) I.ok.mod.kin hkp q1 ?_ hpl
    have p : PostE X.K X.mg W σ ι M H ((fa ρ S).bind fun xs S => (fk ρ S).bind fun ys S => Φ x xs ks ys S) Q := p
    rw [hnil rfl] at p
    refine hkw.then I sr sl p fun es' S2 zs ws s2 ι2 M2 H2 I2 rz a2 sr2 sl2 r2 p2 => ⟨I2.kIn, ?_⟩
    rw [q2]
    exact fn_run (us := []) (vs := []) c hcalm F bd hΦ I2 .nil rz sr2 .nil r2 p2
/-! ### items, slices -/
theorem plainIx_of {i : Expr} (h : ixB i = true) : PlainIx i := by
  intro o v
  cases i <;> first | rfl | cases h
theorem ee_ix {N : List Str} {tx : Tx} {calm : Bool} {sc : Scope} (c : CG kk Φ N tx calm sc pn W X) {a i : Expr} {f g : Env → Store → R D} {pos : Pos} (hi : ixB i = true) (ha : EE X pn W a f) (hb : EE X pn W i g) :
    EE X pn W (.Subscript a i pos) (fun ρ S => (f ρ S).bind fun x S => (g ρ S).bind fun y S => ofD (ixop x y S) S) := by
  refine ⟨fun pins s σ H Q I ⟨ι, M, ρ, S, sr, sl, p⟩ => Subscript_ ?_⟩
  refine ha.then I sr sl p fun d S1 x v s1 ι1 M1 H1 I1 rv a1 sr1 sl1 r1 p1 => ?_
  refine hb.then I1 sr1 sl1 p1 fun e S2 y u s2 ι2 M2 H2 I2 ru a2 sr2 sl2 r2 p2 => ?_
  exact ix_sound c.hu I2 rv ru sr2 (Rep.adv a2 sr1.im _ _ r1) r2 p2 (plainIx_of hi _ _)
theorem cut_rel {K : Fg} {ι : List Addr} {M : Addr → Prop} {H : Hp} {xs : List D} {vs : List V} {lo hi : Option Int} (r : RepL K ι M H xs vs) : RepL K ι M H (cutD xs lo hi) (cutV vs lo hi) := by
  unfold cutD cutV
  rw [← r.length]
  exact (r.drop _).take _
theorem cutD_length (xs : List D) (lo hi : Option Int) : (cutD xs lo hi).length ≤ xs.length := by
  unfold cutD
  rw [List.length_take, List.length_drop]
  omega
theorem cutD_whole {xs : List D} {lo hi : Option Int} (h : HT.sIx xs.length 0 lo = 0 ∧ HT.sIx xs.length xs.length hi = xs.length) : cutD xs lo hi = xs := by
  unfold cutD
  rw [h.1, h.2, List.drop_zero, Nat.sub_zero, List.take_length]
/-- what a slice asks, any kind -/
def rSl (K : Fg) : V → Option Int → Option Int → Hp → VK → Prop := fun x lo hi H Q => rSlL K x lo hi H Q ∨ (rSlA K x lo hi H Q ∨ rSlS x lo hi H Q)
theorem sl_any : SlR X (rSl X.K) := sl_list.or (sl_tupA.or sl_str)
theorem sl_of {σ : L2.St} {H : Hp} {ι : List Addr} {M : Addr → Prop} {S : Store} {fz : Bool} {d : D} {x : V} {lo hi : Option Int} {Q : VK} {K : Fg} {mg : MG} (sr : SR K ι M H S) (r : Rep K ι M H d x) (h : PostE K mg W σ ι M H (slop fz d lo hi S) Q) : rSl K x lo hi H Q := by
  have any : PostE K mg W σ ι M H (slAny fz d lo hi S) Q → rSl K x lo hi H Q := by
    intro h
    unfold slAny at h
    cases e : lstOf S d with
    | none => rw [e] at h; exact h.bad
    | some xs =>
      rw [e] at h
      obtain ⟨a, vs, rfl, h1, h2, h3⟩ := lst_of sr r e
      exact .inl ⟨a, vs, rfl, h1.sq, fun p hp => h.alloc sr (cut_rel h2) (Nat.le_trans (cutD_length _ _ _) h3) hp⟩
  cases d with
  | str z =>
    simp only [slop] at h
    by_cases c : z.length ≤ line
    · rw [if_pos c] at h
      exact .inr (.inr ⟨z, r, by rw [← line_eq]; exact c, h.done sr rfl⟩)
    · rw [if_neg c] at h
      exact h.bad
  | tup xs =>
    obtain ⟨a, vs, rfl, h1, h2, h3⟩ := id r
    simp only [slop] at h
    refine .inr (.inl ⟨a, vs, rfl, h1.sq, fun w => ?_, fun w p hp => h.tup sr (cut_rel h3) (Nat.le_trans (cutD_length _ _ _) h2) hp⟩)
    rw [← h3.length] at w
    rw [cutD_whole w] at h
    exact h.done sr r
  | _ => exact any h
/-- a slice's place -/
theorem po_of {e : Option Expr} {f : Env → Store → R (List D)} (h : (e = none ∧ ∀ ρ S, f ρ S = .ok [] S) ∨ ∃ e' g, e = some e' ∧ EE X pn W e' g ∧ ∀ ρ S, f ρ S = (g ρ S).bind fun x S => .ok [x] S) {σ : L2.St} {pins : Pn} {s : Shared} {H : Hp} {ι : List Addr} {M : Addr → Prop} {ρ : Env} {S : Store} {γ δ : Type} {rel2 : List Addr → (Addr → Prop) → Hp → γ → δ → Prop}
    {g : Option Int → Store → R γ} {Q : δ → Hp → Prop} {Q' : Value → Shared → Prop} (I : Inv X pins σ H s) (sr : SR X.K ι M H S) (sl : SLt X.K X.mg pn ι M H ρ σ) (p : PostG X.K X.mg W σ rel2 ι M H ((f ρ S).bind fun l S => match part l with | some o => g o S | none => .bad) Q)
    (k : ∀ o S' u s' ι' M' H', Inv X pins σ H' s' → IsPart u o → Adv ι M H ι' M' H' → SR X.K ι' M' H' S' → SLt X.K X.mg pn ι' M' H' ρ σ → PostG X.K X.mg W σ rel2 ι' M' H' (g o S') Q → Q' u s') : wpAny (model X.prog X.w) X.A (evalPart e X.env) Q' X.xe s := by
  rcases h with ⟨rfl, hf⟩ | ⟨e', g', rfl, he, hf⟩
  · rw [hf] at p
    rw [evalPart_none]
    exact wpAny_pure (k none S _ s ι M H I .none .refl sr sl p)
  · rw [hf] at p
    rw [evalPart_some]
    have p' : PostG X.K X.mg W σ rel2 ι M H ((g' ρ S).bind fun x S => match part [x] with | some o => g o S | none => .bad) Q := by
      cases q : g' ρ S with
      | ok d S' => rw [q] at p; exact p
      | exc => rw [q] at p; exact p
      | bad => rw [q] at p; exact p
    refine he.then I sr sl p' fun d S1 x v s1 ι1 M1 H1 I1 rv a1 sr1 sl1 r1 p1 => ?_
    cases d with
    | int i =>
      obtain rfl : x = .int i := r1
      obtain ⟨t, rfl⟩ := rv
      exact k (some i) S1 _ s1 ι1 M1 H1 I1 (.int i t) a1 sr1 sl1 p1
    | _ => exact p1.bad
theorem ee_sl {fz : Bool} {a : Expr} {lo hi : Option Expr} {f : Env → Store → R D} {fl fh : Env → Store → R (List D)} {p2 pos : Pos} (ha : EE X pn W a f)
    (hl : (lo = none ∧ ∀ ρ S, fl ρ S = .ok [] S) ∨ ∃ e' g, lo = some e' ∧ EE X pn W e' g ∧ ∀ ρ S, fl ρ S = (g ρ S).bind fun x S => .ok [x] S)
    (hh : (hi = none ∧ ∀ ρ S, fh ρ S = .ok [] S) ∨ ∃ e' g, hi = some e' ∧ EE X pn W e' g ∧ ∀ ρ S, fh ρ S = (g ρ S).bind fun x S => .ok [x] S) :
    EE X pn W (.Subscript a (.Slice lo hi none p2) pos) (fun ρ S => (f ρ S).bind fun x S => (fl ρ S).bind fun l S => match part l with
      | some l => (fh ρ S).bind fun h S => match part h with | some h => slop fz x l h S | none => .bad
      | none => .bad) := by
  refine ⟨fun pins s σ H Q I ⟨ι, M, ρ, S, sr, sl, p⟩ => Subscript_ ?_⟩
  refine ha.then I sr sl p fun d S1 x v s1 ι1 M1 H1 I1 rv a1 sr1 sl1 r1 p1 => wpAny_Slice ?_
  have p1' : PostE X.K X.mg W σ ι1 M1 H1 ((fl ρ S1).bind fun l S => match part l with | some o => (fh ρ S).bind (fun h S => match part h with | some h => slop fz d o h S | none => .bad) | none => .bad) Q := p1
  refine po_of hl I1 sr1 sl1 p1' fun o S2 vl s2 ι2 M2 H2 I2 pl a2 sr2 sl2 q2 => ?_
  refine po_of hh I2 sr2 sl2 q2 fun o2 S3 vu s3 ι3 M3 H3 I3 pu a3 sr3 sl3 q3 => ?_
  rw [evalPart_none]
  refine wpAny_pure ?_
  have I4 : Inv X pins σ H3 { s3 with heap := s3.heap.push { cls := .type "slice", data := .fields #[vl, vu, .none] } } := I3.kept (t' := s3.toks) fun b ob q => Heap.get?_push_of_some _ q
  have rq := sl_of sr3 (Rep.adv (a2.trans a3) sr1.im _ _ r1) q3
  obtain ⟨T, id, hT, ht, hg⟩ := sl_any pins { s3 with heap := s3.heap.push { cls := .type "slice", data := .fields #[vl, vu, .none] } } σ H3 x v vl vu o o2 s3.heap.objs.size Q I4 rv (Heap.IsSliceOf.new ..) pl pu rq
  exact tail_any (ops := [.ref s3.heap.objs.size, v]) ht hT hg (by with_unfolding_all rfl)
end
end Mp
/-! Mp, part K: what a for or a comprehension walks. -/
namespace Mp
open PySem PySem.Spec PyProof.Rows L2
/-- a later state, in which what may change has changed -/
structure Advw (ι : List Addr) (M : Addr → Prop) (H : Hp) (ι' : List Addr) (M' : Addr → Prop) (H' : Hp) : Prop where
  pre : ∃ r, ι' = ι ++ r
  keep : ∀ a o, H a = some o → ¬ M a → H' a = some o
  fresh : ∀ a, M' a → M a ∨ H a = none
  dom : ∀ a, H a ≠ none → H' a ≠ none
  frzk : ∀ a o u, H a = some (.frz o u) → H' a = some (.frz o u)
section
variable {K : Fg} {ι ι' ι2 : List Addr} {M M' M2 : Addr → Prop} {H H' H2 : Hp}
theorem Adv.w (x : Adv ι M H ι' M' H') (im : ∀ a ∈ ι, M a) : Advw ι M H ι' M' H' := ⟨x.pre, fun a o h hn => x.keep a o h fun z => hn (im a z), x.fresh, x.dom, x.frzk⟩
theorem Advw.nm (x : Advw ι M H ι' M' H') {a : Addr} {o : HO} (h : H a = some o) (hn : ¬ M a) : ¬ M' a := fun z => (x.fresh a z).elim hn fun q => by rw [q] at h; cases h
theorem Advw.adv (x : Advw ι M H ι' M' H') (y : Adv ι' M' H' ι2 M2 H2) (im : ∀ a ∈ ι', M' a) : Advw ι M H ι2 M2 H2 where
  pre := by
    obtain ⟨r, e⟩ := x.pre
    obtain ⟨r', e'⟩ := y.pre
    exact ⟨r ++ r', by rw [e', e, List.append_assoc]⟩
  keep := fun a o h hn => y.keep a o (x.keep a o h hn) fun z => x.nm h hn (im a z)
  fresh := fun a h => (y.fresh a h).elim (fun z => x.fresh a z) fun z => .inr (by
    cases q : H a with
    | none => rfl
    | some o => exact absurd z (x.dom a (by rw [q]; simp)))
  dom := fun a h => y.dom a (x.dom a h)
  frzk := fun a o u h => y.frzk a o u (x.frzk a o u h)
theorem Advw.upd {p : Addr} {o : HO} (x : Advw ι M H ι' M' H') (hp : M p) (hf : ∀ o' u', H' p ≠ some (.frz o' u')) : Advw ι M H ι' M' (L2.upd H' p o) where
  pre := x.pre
  keep := fun a u h hn => by rw [upd_ne fun e => hn (by rw [e]; exact hp)]; exact x.keep a u h hn
  fresh := x.fresh
  dom := fun a h => by
    by_cases e : a = p
    · rw [e, upd_same]; simp
    · rw [upd_ne e]; exact x.dom a h
  frzk := fun a o' u' h => by
    have z := x.frzk a o' u' h
    rw [upd_ne fun e => hf o' u' (by rw [← e]; exact z)]; exact z
theorem Advw.stT (x : Advw ι M H ι' M' H') {a : Addr} {vs : List V} (h : StT K H M a vs) : StT K H' M' a vs := by
  rcases h with ⟨h | ⟨o, h⟩, hn⟩ | h
  · exact .inl ⟨.inl (x.keep _ _ h hn), x.nm h hn⟩
  · exact .inl ⟨.inr ⟨o, x.keep _ _ h hn⟩, x.nm h hn⟩
  · exact .inr h
theorem Advw.stL (x : Advw ι M H ι' M' H') {a : Addr} {vs : List V} (h : StL K H M a vs) : StL K H' M' a vs := by
  refine h.mono fun h hn => ?_
  rcases h with h | ⟨o, h⟩
  · exact ⟨.inl (x.keep _ _ h hn), x.nm h hn⟩
  · exact ⟨.inr ⟨o, x.keep _ _ h hn⟩, x.nm h hn⟩
mutual
theorem Rep.advw (x : Advw ι M H ι' M' H') : ∀ (d : D) (v : V), Rep K ι M H d v → Rep K ι' M' H' d v
  | .non, v, h => h
  | .bl _, v, h => h
  | .int _, v, h => h
  | .str _, v, h => h
  | .ty _, v, h => h
  | .tup xs, v, h => by
    obtain ⟨a, vs, e, h1, h2, h3⟩ := h
    exact ⟨a, vs, e, x.stT h1, h2, RepL.advw x xs vs h3⟩
  | .lst xs, v, h => by
    obtain ⟨a, vs, e, h1, h2, h3⟩ := h
    exact ⟨a, vs, e, x.stL h1, h2, RepL.advw x xs vs h3⟩
  | .dic ks ds, v, h => by
    obtain ⟨a, o, kvs, e, h1, h3, h4⟩ := h
    exact ⟨a, o, kvs, e, ⟨x.frzk _ _ _ h1.1, x.nm h1.1 h1.2⟩, h3, RepL.advw x ds _ h4⟩
  | .ref n, v, h => by
    obtain ⟨a, e, h1⟩ := h
    obtain ⟨r, e'⟩ := x.pre
    exact ⟨a, e, by rw [e', List.getElem?_append_left (List.getElem?_eq_some_iff.mp h1).1]; exact h1⟩
  | .exc .., v, h => h.elim
theorem RepL.advw (x : Advw ι M H ι' M' H') : ∀ (ds : List D) (vs : List V), RepL K ι M H ds vs → RepL K ι' M' H' ds vs
  | [], vs, h => h
  | d :: ds, vs, h => by
    obtain ⟨v, r, e, h1, h2⟩ := h
    exact ⟨v, r, e, Rep.advw x d v h1, RepL.advw x ds r h2⟩
end
end
/-- the turns of J are the items xs, whatever the heap does meanwhile -/
def SrcOk (K : Fg) (ι : List Addr) (M : Addr → Prop) (H : Hp) (xs : List D) (J : It) : Prop :=
  ∀ ι' M' H', Advw ι M H ι' M' H' → (∀ a, M' a → H' a ≠ none) → (∀ a ∈ ι', M' a) →
    (∀ i, xs.length ≤ i → J.stop i H') ∧ (∀ i, i < xs.length → J.go i H') ∧
      ∀ i x H2 d, xs[i]? = some d → J.yld i H' x H2 → (H2 = H' ∨ ∃ p o, H' p = none ∧ H2 = upd H' p o) ∧ Rep K ι' M' H2 d x
def SrcRel (K : Fg) (ι : List Addr) (M : Addr → Prop) (H : Hp) (s : Src) (J : It) : Prop :=
  match s with
  | .items xs => SrcOk K ι M H xs J ∧ xs.length ≤ line
  | .live n => ∃ a, ι[n]? = some a ∧ J = Itl K a
abbrev EI (X : Cx) (pn : Pz) (W : WX) (tg it : Expr) (f : Env → Store → R Src) : Prop := PI X tg it (@tG X.K X.mg pn W Src It (SrcRel X.K) f)
section
variable {K : Fg} {ι : List Addr} {M : Addr → Prop} {H : Hp}
theorem srcOk_lst {a : Addr} {vs : List V} {xs : List D} (im : ∀ a ∈ ι, M a) (h : StL K H M a vs) (r : RepL K ι M H xs vs) : SrcOk K ι M H xs (Itl K a) := by
  intro ι' M' H' x mt' im'
  have h' := x.stL h
  have r' := RepL.advw x _ _ r
  refine ⟨fun i hi => ⟨vs, h'.sq, by rw [← r'.length]; exact hi⟩, fun i hi => ?_, fun i y H2 d e hy => ?_⟩
  · obtain ⟨v, e1, _⟩ := RepL.get r' (List.getElem?_eq_getElem hi)
    exact ⟨vs, v, h'.sq, e1⟩
  · obtain ⟨e1, e2⟩ := hy
    subst e1
    obtain ⟨d', e3, e4⟩ := RepL.back r' (e2 vs h'.sq)
    rw [e] at e3
    cases e3
    exact ⟨.inl rfl, e4⟩
theorem srcOk_tup {a : Addr} {vs : List V} {xs : List D} (im : ∀ a ∈ ι, M a) (h : StT K H M a vs) (r : RepL K ι M H xs vs) : SrcOk K ι M H xs (Itt K a) := by
  intro ι' M' H' x mt' im'
  have h' := x.stT h
  have r' := RepL.advw x _ _ r
  refine ⟨fun i hi => ⟨vs, h'.sq, by rw [← r'.length]; exact hi⟩, fun i hi => ?_, fun i y H2 d e hy => ?_⟩
  · obtain ⟨v, e1, _⟩ := RepL.get r' (List.getElem?_eq_getElem hi)
    exact ⟨vs, v, h'.sq, e1⟩
  · obtain ⟨e1, e2⟩ := hy
    subst e1
    obtain ⟨d', e3, e4⟩ := RepL.back r' (e2 vs h'.sq)
    rw [e] at e3
    cases e3
    exact ⟨.inl rfl, e4⟩
theorem rngL_len (lo : Int) (n : Nat) : (rngL lo n).length = n := by unfold rngL; rw [List.length_map, List.length_range]
theorem rngC_len (lo c : Int) (n : Nat) : (rngC lo c n).length = n := by unfold rngC; rw [List.length_map, List.length_range]
theorem srcOk_rng (lo : Int) (n : Nat) : SrcOk K ι M H (rngL lo n) (Itr lo n) := by
  intro ι' M' H' x mt' im'
  rw [rngL_len]
  refine ⟨fun i hi => hi, fun i hi => hi, fun i y H2 d e hy => ?_⟩
  obtain ⟨e1, e2⟩ := hy
  subst e1
  subst e2
  refine ⟨.inl rfl, ?_⟩
  unfold rngL at e
  rw [List.getElem?_map] at e
  cases q : (List.range n)[i]? with
  | none => rw [q] at e; cases e
  | some j =>
    rw [q] at e
    cases e
    obtain ⟨h1, h2⟩ := List.getElem?_eq_some_iff.mp q
    rw [List.getElem_range] at h2
    subst h2
    rfl
theorem srcOk_rngC (lo c : Int) (n : Nat) : SrcOk K ι M H (rngC lo c n) (Itc lo c n) := by
  intro ι' M' H' x mt' im'
  rw [rngC_len]
  refine ⟨fun i hi => hi, fun i hi => hi, fun i y H2 d e hy => ?_⟩
  obtain ⟨e1, e2⟩ := hy
  subst e1
  subst e2
  refine ⟨.inl rfl, ?_⟩
  unfold rngC at e
  rw [List.getElem?_map] at e
  cases q : (List.range n)[i]? with
  | none => rw [q] at e; cases e
  | some j =>
    rw [q] at e
    cases e
    obtain ⟨h1, h2⟩ := List.getElem?_eq_some_iff.mp q
    rw [List.getElem_range] at h2
    subst h2
    rfl
theorem rev_get {α : Type} {l : List α} {i : Nat} {d : α} (h : l.reverse[i]? = some d) : i < l.length ∧ l[l.length - 1 - i]? = some d := by
  have hi : i < l.length := by
    have := (List.getElem?_eq_some_iff.mp h).1
    rwa [List.length_reverse] at this
  rw [List.getElem?_reverse hi] at h
  exact ⟨hi, h⟩
theorem srcOk_revL {a : Addr} {vs : List V} {xs : List D} (im : ∀ a ∈ ι, M a) (h : StL K H M a vs) (r : RepL K ι M H xs vs) : SrcOk K ι M H xs.reverse (Itv K a vs.length) := by
  intro ι' M' H' x mt' im'
  have h' := x.stL h
  have r' := RepL.advw x _ _ r
  have hl := r'.length
  rw [List.length_reverse]
  refine ⟨fun i hi => by rw [hl] at hi; exact hi, fun i hi => ?_, fun i y H2 d e hy => ?_⟩
  · have hi' : i < vs.length := by omega
    refine ⟨hi', vs, vs[vs.length - 1 - i]'(by omega), h'.sq, List.getElem?_eq_getElem _⟩
  · obtain ⟨e1, e2⟩ := hy
    subst e1
    obtain ⟨_, e⟩ := rev_get e
    obtain ⟨d', e3, e4⟩ := RepL.back r' (e2 vs h'.sq)
    rw [hl, e3] at e
    cases e
    exact ⟨.inl rfl, e4⟩
theorem srcOk_revT {a : Addr} {vs : List V} {xs : List D} (im : ∀ a ∈ ι, M a) (h : StT K H M a vs) (r : RepL K ι M H xs vs) : SrcOk K ι M H xs.reverse (RT.ItvT K a vs.length) := by
  intro ι' M' H' x mt' im'
  have h' := x.stT h
  have r' := RepL.advw x _ _ r
  have hl := r'.length
  rw [List.length_reverse]
  refine ⟨fun i hi => by rw [hl] at hi; exact hi, fun i hi => ?_, fun i y H2 d e hy => ?_⟩
  · have hi' : i < vs.length := by omega
    refine ⟨hi', vs, vs[vs.length - 1 - i]'(by omega), h'.sq, List.getElem?_eq_getElem _⟩
  · obtain ⟨e1, e2⟩ := hy
    subst e1
    obtain ⟨_, e⟩ := rev_get e
    obtain ⟨d', e3, e4⟩ := RepL.back r' (e2 vs h'.sq)
    rw [hl, e3] at e
    cases e
    exact ⟨.inl rfl, e4⟩
theorem enumL_len : ∀ (k : Nat) (xs : List D), (enumL k xs).length = xs.length
  | _, [] => rfl
  | k, x :: xs => by
    show (enumL (k + 1) xs).length + 1 = xs.length + 1
    rw [enumL_len]
theorem enumL_get : ∀ (k : Nat) (xs : List D) (i : Nat) (d : D), (enumL k xs)[i]? = some d → ∃ e, xs[i]? = some e ∧ d = .tup [.int ((k + i : Nat) : Int), e]
  | _, [], i, d, h => by simp [enumL] at h
  | k, x :: xs, 0, d, h => by
    simp [enumL] at h
    exact ⟨x, rfl, by rw [← h]; rfl⟩
  | k, x :: xs, i + 1, d, h => by
    obtain ⟨e, h1, h2⟩ := enumL_get (k + 1) xs i d (by simpa [enumL] using h)
    exact ⟨e, by simpa using h1, by rw [h2]; congr 4; omega⟩
theorem zipL_len : ∀ (xs ys : List D), (zipL xs ys).length = min xs.length ys.length
  | [], ys => by simp [zipL]
  | x :: xs, [] => by simp [zipL]
  | x :: xs, y :: ys => by
    show (zipL xs ys).length + 1 = min (xs.length + 1) (ys.length + 1)
    rw [zipL_len]
    omega
theorem zipL_get : ∀ (xs ys : List D) (i : Nat) (d : D), (zipL xs ys)[i]? = some d → ∃ e f, xs[i]? = some e ∧ ys[i]? = some f ∧ d = .tup [e, f]
  | [], ys, i, d, h => by simp [zipL] at h
  | x :: xs, [], i, d, h => by simp [zipL] at h
  | x :: xs, y :: ys, 0, d, h => by
    simp [zipL] at h
    exact ⟨x, y, rfl, rfl, h.symm⟩
  | x :: xs, y :: ys, i + 1, d, h => by
    obtain ⟨e, f, h1, h2, h3⟩ := zipL_get xs ys i d (by simpa [zipL] using h)
    exact ⟨e, f, by simpa using h1, by simpa using h2, h3⟩
/-- a new pair -/
theorem pair_rep {M' : Addr → Prop} {H' : Hp} {ι' : List Addr} (mt' : ∀ a, M' a → H' a ≠ none) (im' : ∀ a ∈ ι', M' a) {p : Addr} {d e : D} {x y : V} (hp : H' p = none) (rd : Rep K ι' M' H' d x) (re : Rep K ι' M' H' e y) : Rep K ι' M' (upd H' p (.tup [x, y])) (.tup [d, e]) (.ref p) :=
  ⟨p, [x, y], rfl, .inl ⟨.inl upd_same, fun z => mt' p z hp⟩, by show 2 ≤ 16777216; decide, RepL.adv (Adv.new p _ hp mt') im' _ _ (.cons rd (.one re))⟩
theorem srcOk_enumL {a : Addr} {vs : List V} {xs : List D} (im : ∀ a ∈ ι, M a) (h : StL K H M a vs) (r : RepL K ι M H xs vs) : SrcOk K ι M H (enumL 0 xs) (Ite K a) := by
  intro ι' M' H' x mt' im'
  have h' := x.stL h
  have r' := RepL.advw x _ _ r
  have hl := r'.length
  rw [enumL_len]
  refine ⟨fun i hi => ⟨vs, h'.sq, by omega⟩, fun i hi => ⟨vs, vs[i]'(by omega), h'.sq, List.getElem?_eq_getElem _⟩, fun i y H2 d e hy => ?_⟩
  obtain ⟨T, z, rfl, hT, rfl, hz⟩ := hy
  obtain ⟨e', h1, rfl⟩ := enumL_get 0 xs i d e
  obtain ⟨d', e3, e4⟩ := RepL.back r' (hz vs h'.sq)
  rw [h1] at e3
  cases e3
  refine ⟨.inr ⟨T, _, hT, rfl⟩, pair_rep mt' im' hT ?_ e4⟩
  show V.int (i : Nat) = V.int ((0 + i : Nat) : Int)
  rw [Nat.zero_add]
theorem srcOk_zipL {a b : Addr} {vs ws : List V} {xs ys : List D} (im : ∀ a ∈ ι, M a) (h : StL K H M a vs) (r : RepL K ι M H xs vs) (g : StL K H M b ws) (q : RepL K ι M H ys ws) : SrcOk K ι M H (zipL xs ys) (Itz K a b) := by
  intro ι' M' H' x mt' im'
  have h' := x.stL h
  have r' := RepL.advw x _ _ r
  have g' := x.stL g
  have q' := RepL.advw x _ _ q
  have hl := r'.length
  have gl := q'.length
  rw [zipL_len]
  refine ⟨fun i hi => ⟨vs, ws, h'.sq, g'.sq, by omega⟩, fun i hi => ⟨vs, ws, vs[i]'(by omega), ws[i]'(by omega), h'.sq, g'.sq, List.getElem?_eq_getElem _, List.getElem?_eq_getElem _⟩, fun i y H2 d e hy => ?_⟩
  obtain ⟨T, z, z2, rfl, hT, rfl, hz, hz2⟩ := hy
  obtain ⟨e', f', h1, h2, rfl⟩ := zipL_get xs ys i d e
  obtain ⟨d', e3, e4⟩ := RepL.back r' (hz vs h'.sq)
  obtain ⟨d2, e5, e6⟩ := RepL.back q' (hz2 ws g'.sq)
  rw [h1] at e3
  rw [h2] at e5
  cases e3
  cases e5
  exact ⟨.inr ⟨T, _, hT, rfl⟩, pair_rep mt' im' hT e4 e6⟩
theorem srcOk_zipT {a b : Addr} {vs ws : List V} {xs ys : List D} (im : ∀ a ∈ ι, M a) (h : StT K H M a vs) (r : RepL K ι M H xs vs) (g : StT K H M b ws) (q : RepL K ι M H ys ws) : SrcOk K ι M H (zipL xs ys) (RZ.ItzT K a b) := by
  intro ι' M' H' x mt' im'
  have h' := x.stT h
  have r' := RepL.advw x _ _ r
  have g' := x.stT g
  have q' := RepL.advw x _ _ q
  have hl := r'.length
  have gl := q'.length
  rw [zipL_len]
  refine ⟨fun i hi => ⟨vs, ws, h'.sq, g'.sq, by omega⟩, fun i hi => ⟨vs, ws, vs[i]'(by omega), ws[i]'(by omega), h'.sq, g'.sq, List.getElem?_eq_getElem _, List.getElem?_eq_getElem _⟩, fun i y H2 d e hy => ?_⟩
  obtain ⟨T, z, z2, rfl, hT, rfl, hz, hz2⟩ := hy
  obtain ⟨e', f', h1, h2, rfl⟩ := zipL_get xs ys i d e
  obtain ⟨d', e3, e4⟩ := RepL.back r' (hz vs h'.sq)
  obtain ⟨d2, e5, e6⟩ := RepL.back q' (hz2 ws g'.sq)
  rw [h1] at e3
  rw [h2] at e5
  cases e3
  cases e5
  exact ⟨.inr ⟨T, _, hT, rfl⟩, pair_rep mt' im' hT e4 e6⟩
end
theorem srcOk_keys {K : Fg} {ι : List Addr} {M : Addr → Prop} {H : Hp} {a : Addr} {o : Obj} {kvs : List (Key × V)} (h : H a = some (.frz o (.dK kvs))) : SrcOk K ι M H ((kvs.map (·.1)).map keyD) (Itk a o kvs) := by
  intro ι' M' H' x mt' im'
  have h' := x.frzk _ _ _ h
  rw [List.length_map, List.length_map]
  refine ⟨fun i hi => ⟨h', hi⟩, fun i hi => ⟨h', hi⟩, fun i y H2 d e hy => ?_⟩
  obtain ⟨e1, k, v, e2, e3⟩ := hy
  subst e1
  refine ⟨.inl rfl, ?_⟩
  rw [List.getElem?_map, List.getElem?_map, e2] at e
  cases e
  subst e3
  cases k <;> rfl
section
variable {X : Cx} {pn : Pz} {W : WX} {kk : Nat} {Φ : Phi} {tg : Expr}
theorem ei_e {e : Expr} {f : Env → Store → R D} (he : EE X pn W e f) : EI X pn W tg e (fun ρ S => (f ρ S).bind fun d S => match srcOf S d with | some s => .ok s S | none => .bad) := by
  refine ⟨fun pins s σ H Q I ⟨ι, M, ρ, S, sr, sl, p⟩ => ?_⟩
  have viaL : (∀ d S', f ρ S = .ok d S' → ∀ x ι' M' H', Adv ι M H ι' M' H' → SR X.K ι' M' H' S' → Rep X.K ι' M' H' d x → PostG X.K X.mg W σ (SrcRel X.K) ι' M' H' (match srcOf S' d with | some s => .ok s S' | none => .bad) Q → ∃ a, x = .ref a ∧ (∃ xs, SqL X.K H' a xs) ∧ Q (Itl X.K a) H') →
      wpAny (model X.prog X.w) X.A (eval e X.env) (fun v s1 => wpAny (model X.prog X.w) X.A (pyIter v) (PIE X pins σ tg Q) X.xe s1) X.xe s := by
    intro hk
    refine (pi_list he).run pins s σ H Q I ⟨ι, M, ρ, S, sr, sl, ?_⟩
    exact PostG.bind p fun d S1 x ι1 M1 H1 e1 a1 sr1 r1 p1 => hk d S1 e1 x ι1 M1 H1 a1 sr1 r1 p1
  cases e : f ρ S with
  | ok d S1 =>
    cases d with
    | tup xs =>
      refine (pi_tup he).run pins s σ H Q I ⟨ι, M, ρ, S, sr, sl, ?_⟩
      refine PostG.bind p fun d S1 x ι1 M1 H1 e1 a1 sr1 r1 p1 => ?_
      rw [e] at e1
      cases e1
      obtain ⟨a, vs, rfl, h1, h2, h3⟩ := r1
      exact ⟨a, rfl, ⟨vs, h1.sq⟩, p1 _ ι1 M1 H1 .refl sr1 ⟨srcOk_tup sr1.im h1 h3, h2⟩⟩
    | lst xs =>
      refine viaL fun d S1 e1 x ι1 M1 H1 a1 sr1 r1 p1 => ?_
      rw [e] at e1
      cases e1
      obtain ⟨a, vs, rfl, h1, h2, h3⟩ := r1
      exact ⟨a, rfl, ⟨vs, h1.sq⟩, p1 _ ι1 M1 H1 .refl sr1 ⟨srcOk_lst sr1.im h1 h3, h2⟩⟩
    | dic ks vs0 =>
      refine (pi_keys he).run pins s σ H Q I ⟨ι, M, ρ, S, sr, sl, ?_⟩
      refine PostG.bind p fun d S1 x ι1 M1 H1 e1 a1 sr1 r1 p1 => ?_
      rw [e] at e1
      cases e1
      obtain ⟨a, o, kvs, rfl, h1, h2, h3⟩ := r1
      subst h2
      simp only [srcOf, keysOf] at p1
      by_cases c : (kvs.map (·.1)).length ≤ line
      · rw [if_pos c] at p1
        exact ⟨a, o, rfl, .inl ⟨kvs, h1.1, p1 _ ι1 M1 H1 .refl sr1 ⟨srcOk_keys h1.1, by rw [List.length_map]; exact c⟩⟩⟩
      · rw [if_neg c] at p1
        exact PostG.bad p1
    | ref n =>
      by_cases hk : ∃ ks vs0, S1[n]? = some (.lok ks vs0)
      · obtain ⟨ks, vs0, hk⟩ := hk
        refine (pi_keys he).run pins s σ H Q I ⟨ι, M, ρ, S, sr, sl, ?_⟩
        refine PostG.bind p fun d S1 x ι1 M1 H1 e1 a1 sr1 r1 p1 => ?_
        rw [e] at e1
        cases e1
        obtain ⟨a, rfl, h2⟩ := r1
        obtain ⟨o, kvs, h5, h6, h7⟩ := sr1.obj n _ a hk h2
        subst h6
        simp only [srcOf, hk, keysOf] at p1
        by_cases c : (kvs.map (·.1)).length ≤ line
        · rw [if_pos c] at p1
          exact ⟨a, o, rfl, .inl ⟨kvs, h5, p1 _ ι1 M1 H1 .refl sr1 ⟨srcOk_keys h5, by rw [List.length_map]; exact c⟩⟩⟩
        · rw [if_neg c] at p1
          exact PostG.bad p1
      · refine viaL fun d S1 e1 x ι1 M1 H1 a1 sr1 r1 p1 => ?_
        rw [e] at e1
        cases e1
        obtain ⟨a, rfl, h2⟩ := r1
        obtain ⟨o, h3, h4⟩ := sr1.get h2
        simp only [srcOf, h3] at p1
        cases o with
        | dic _ _ => exact PostG.bad p1
        | lok ks vs0 => exact absurd ⟨ks, vs0, h3⟩ hk
        | lst xs =>
          obtain ⟨vs, h5, h6, h7⟩ := h4
          exact ⟨a, rfl, ⟨vs, .of h5⟩, p1 _ ι1 M1 H1 .refl sr1 ⟨a, h2, rfl⟩⟩
    | _ =>
      refine viaL fun d S1 e1 x ι1 M1 H1 a1 sr1 r1 p1 => ?_
      rw [e] at e1
      cases e1
      exact PostG.bad p1
  | exc c fs vs S1 =>
    refine viaL fun d S1 e1 => ?_
    rw [e] at e1
    cases e1
  | bad =>
    refine viaL fun d S1 e1 => ?_
    rw [e] at e1
    cases e1
theorem plain1 {N : List Str} {tx : Tx} {calm : Bool} {sc : Scope} {Es0 : Es} {a : Expr} {es : List Expr} (hm : mEs tx N calm sc Es0 (a :: es) = true) : plainB a = true ∧ ∃ Es1, mEs tx N calm sc Es1 es = true := by
  cases Es0 with
  | nil => cases hm
  | cons _ E1 =>
    simp only [mEs, Bool.and_eq_true] at hm
    exact ⟨hm.1.1, E1, hm.2⟩
theorem ei_rng {N : List Str} {tx : Tx} {calm : Bool} {sc : Scope} (c : CG kk Φ N tx calm sc pn W X) {es : List Expr} {f : Env → Store → R (List D)} {p pos : Pos} {Es0 : Es} (h2 : glB sc "range" = true) (hm : mEs tx N calm sc Es0 es = true) (hl : es.length = 1 ∨ es.length = 2 ∨ es.length = 3) (ha : EA X pn W es f)
    (hlen : ∀ ρ S ds S', f ρ S = .ok ds S' → ds.length = es.length) :
    EI X pn W tg (.Call (.Name "range" p) es [] pos) (fun ρ S => (f ρ S).bind fun xs S => match rngOf xs with | some s => .ok (.items s) S | none => .bad) := by
  have hg : Gl X "range" := c.gl h2
  have hmg := c.g.rng.1
  refine ⟨fun pins s σ H Q I ⟨ι, M, ρ, S, sr, sl, p0⟩ => ?_⟩
  match es, hm, hl, ha, hlen with
  | [], _, hl, _, _ => simp at hl
  | _ :: _ :: _ :: _ :: _, _, hl, _, _ => simp at hl
  | [a], hm, _, ha, hlen =>
    obtain ⟨pa, _⟩ := plain1 hm
    refine (pi_range1 hg hmg ha (by rw [star_of pa]; rfl)).run pins s σ H Q I ?_
    refine tG.ofE sr sl p0 fun ds S1 vs ι1 M1 H1 e1 a1 sr1 sl1 r1 p1 => ?_
    have ln := hlen _ _ _ _ e1
    match ds, ln, r1, p1 with
    | [d], ln, r1, p1 =>
      obtain ⟨v, r', rfl, g1, g2⟩ := r1
      obtain rfl : r' = [] := g2
      cases d with
      | int j =>
        obtain rfl : v = .int j := g1
        simp only [rngOf] at p1
        by_cases q : -(2 ^ 62) ≤ j ∧ j ≤ (line : Int)
        · simp only [if_pos q] at p1
          have hle : j ≤ 16777216 := q.2
          exact ⟨j, rfl, q.1, by omega, p1 _ ι1 M1 H1 .refl sr1 ⟨srcOk_rng 0 _, by rw [rngL_len]; show j.toNat ≤ 16777216; omega⟩⟩
        · simp only [if_neg q] at p1
          exact PostG.bad p1
      | _ => exact PostG.bad p1
  | [a, b], hm, _, ha, hlen =>
    obtain ⟨pa, E1, hm1⟩ := plain1 hm
    obtain ⟨pb, _⟩ := plain1 hm1
    refine (pi_range2 hg hmg ha (by rw [star_of pa, star_of pb]; rfl) (by rw [star_of pb]; rfl)).run pins s σ H Q I ?_
    refine tG.ofE sr sl p0 fun ds S1 vs ι1 M1 H1 e1 a1 sr1 sl1 r1 p1 => ?_
    have ln := hlen _ _ _ _ e1
    match ds, ln, r1, p1 with
    | [d, e], ln, r1, p1 =>
      obtain ⟨v, r', rfl, g1, v2, r2, rfl, g2, g3⟩ := r1
      obtain rfl : r2 = [] := g3
      cases d with
      | int i =>
        cases e with
        | int j =>
          obtain rfl : v = .int i := g1
          obtain rfl : v2 = .int j := g2
          simp only [rngOf] at p1
          by_cases q : -(2 ^ 62) ≤ i ∧ i < 2 ^ 62 ∧ -(2 ^ 62) ≤ j ∧ j < 2 ^ 62 ∧ j - i ≤ (line : Int)
          · simp only [if_pos q] at p1
            have hle : j - i ≤ 16777216 := q.2.2.2.2
            exact ⟨i, j, rfl, ⟨q.1, q.2.1, q.2.2.1, q.2.2.2.1⟩, p1 _ ι1 M1 H1 .refl sr1 ⟨srcOk_rng i _, by rw [rngL_len]; show (j - i).toNat ≤ 16777216; omega⟩⟩
          · simp only [if_neg q] at p1
            exact PostG.bad p1
        | _ => exact PostG.bad p1
      | _ => exact PostG.bad p1
  | [a, b, d], hm, _, ha, hlen =>
    obtain ⟨pa, E1, hm1⟩ := plain1 hm
    obtain ⟨pb, E2, hm2⟩ := plain1 hm1
    obtain ⟨pd, _⟩ := plain1 hm2
    refine (pi_range3 hg hmg ha (star_of pa) (by rw [star_of pb, star_of pd]; rfl)).run pins s σ H Q I ?_
    refine tG.ofE sr sl p0 fun ds S1 vs ι1 M1 H1 e1 a1 sr1 sl1 r1 p1 => ?_
    have ln := hlen _ _ _ _ e1
    match ds, ln, r1, p1 with
    | [d, e, g], ln, r1, p1 =>
      obtain ⟨v, r', rfl, g1, v2, r2, rfl, g2, v3, r3, rfl, g3, g4⟩ := r1
      obtain rfl : r3 = [] := g4
      cases d with
      | int i =>
        cases e with
        | int j =>
          cases g with
          | int k =>
            obtain rfl : v = .int i := g1
            obtain rfl : v2 = .int j := g2
            obtain rfl : v3 = .int k := g3
            simp only [rngOf, rng3] at p1
            by_cases q : k ≠ 0 ∧ k.natAbs < 1073741824 ∧ Builtin.Range.small i j k = true ∧ 0 ≤ Builtin.Range.rangeSize i j k ∧ Builtin.Range.rangeSize i j k ≤ (line : Int)
            · simp only [if_pos q] at p1
              have hle : Builtin.Range.rangeSize i j k ≤ 16777216 := q.2.2.2.2
              have h0 := q.2.2.2.1
              exact ⟨i, j, k, (Builtin.Range.rangeSize i j k).toNat, rfl, ⟨q.1, q.2.1, q.2.2.1, by omega⟩, p1 _ ι1 M1 H1 .refl sr1 ⟨srcOk_rngC i k _, by rw [rngC_len]; show (Builtin.Range.rangeSize i j k).toNat ≤ 16777216; omega⟩⟩
            · simp only [if_neg q] at p1
              exact PostG.bad p1
          | _ => exact PostG.bad p1
        | _ => exact PostG.bad p1
      | _ => exact PostG.bad p1
theorem ei_rev {N : List Str} {tx : Tx} {calm : Bool} {sc : Scope} (c : CG kk Φ N tx calm sc pn W X) {e : Expr} {f : Env → Store → R D} {p pos : Pos} (h2 : glB sc "reversed" = true) (hp : plainB e = true) (he : EE X pn W e f) :
    EI X pn W tg (.Call (.Name "reversed" p) [e] [] pos) (fun ρ S => (f ρ S).bind fun d S => match stillOf d with | some xs => .ok (.items xs.reverse) S | none => .bad) := by
  refine ⟨fun pins s σ H Q I ⟨ι, M, ρ, S, sr, sl, p0⟩ => (RT.pi_revA (c.gl h2) c.g.rng.2.2.2 he (star_of hp)).run pins s σ H Q I ?_⟩
  refine tG.of sr sl p0 fun d S1 x ι1 M1 H1 a1 sr1 sl1 r1 p1 => ?_
  cases d with
  | tup xs =>
    obtain ⟨a, vs, rfl, h1, h2, h3⟩ := r1
    exact ⟨a, vs, rfl, .inr ⟨h1.sq, p1 _ ι1 M1 H1 .refl sr1 ⟨srcOk_revT sr1.im h1 h3, by rw [List.length_reverse]; exact h2⟩⟩⟩
  | lst xs =>
    obtain ⟨a, vs, rfl, h1, h2, h3⟩ := r1
    exact ⟨a, vs, rfl, .inl ⟨h1.sq, p1 _ ι1 M1 H1 .refl sr1 ⟨srcOk_revL sr1.im h1 h3, by rw [List.length_reverse]; exact h2⟩⟩⟩
  | _ => exact PostG.bad p1
theorem ei_zip {N : List Str} {tx : Tx} {calm : Bool} {sc : Scope} (c : CG kk Φ N tx calm sc pn W X) {a b : Expr} {f g : Env → Store → R D} {p pos tpos : Pos} {elts : List Expr} {k : Nat} (h2 : glB sc "zip" = true) (ha0 : plainB a = true) (hb0 : plainB b = true) (ha : EE X pn W a f) (hb : EE X pn W b g) :
    EI X pn W (.Tuple elts k tpos) (.Call (.Name "zip" p) [a, b] [] pos) (fun ρ S => (f ρ S).bind fun x S => (g ρ S).bind fun y S => match still2 x y with | some (xs, ys) => .ok (.items (zipL xs ys)) S | none => .bad) := by
  have hA : EA X pn W [a, b] _ := ea_cons ha0 ha (ea_cons hb0 hb ea_nil)
  refine ⟨fun pins s σ H Q I ⟨ι, M, ρ, S, sr, sl, p0⟩ => (RZ.pi_zipA (c.gl h2) c.g.rng.2.2.1 (pa_cons ha (pa_cons hb pa_nil (star_of hb0)) (star_of ha0)) (star_of ha0) (by rw [star_of hb0]; rfl)).run pins s σ H Q I ?_⟩
  refine tG.of sr sl p0 fun d S1 x ι1 M1 H1 a1 sr1 sl1 r1 p1 => ?_
  refine tG.of sr1 sl1 p1 fun e S2 y ι2 M2 H2 a2 sr2 sl2 r2 p2 => ?_
  have r1' := Rep.adv a2 sr1.im _ _ r1
  cases d with
  | tup xs =>
    cases e with
    | tup ys =>
      obtain ⟨a, vs, rfl, h1, h2, h3⟩ := r1'
      obtain ⟨b, ws, rfl, g1, g2, g3⟩ := r2
      exact ⟨a, b, vs, ws, rfl, .inr ⟨h1.sq, g1.sq, p2 _ ι2 M2 H2 .refl sr2 ⟨srcOk_zipT sr2.im h1 h3 g1 g3, by rw [zipL_len]; omega⟩⟩⟩
    | _ => exact PostG.bad p2
  | lst xs =>
    cases e with
    | lst ys =>
      obtain ⟨a, vs, rfl, h1, h2, h3⟩ := r1'
      obtain ⟨b, ws, rfl, g1, g2, g3⟩ := r2
      exact ⟨a, b, vs, ws, rfl, .inl ⟨h1.sq, g1.sq, p2 _ ι2 M2 H2 .refl sr2 ⟨srcOk_zipL sr2.im h1 h3 g1 g3, by rw [zipL_len]; omega⟩⟩⟩
    | _ => exact PostG.bad p2
  | _ => exact PostG.bad p2
end
end Mp
/-! Mp, part L: targets; comprehensions. -/
namespace Mp
open PySem PySem.Spec PyProof.Rows L2
/-! ### targets -/
/-- one stored value -/
def PostT (K : Fg) (mg : MG) (pn : Pz) (vs : List Nat) (σ : L2.St) (ι : List Addr) (M : Addr → Prop) (H : Hp) (r : B) (Q : L2.St → Hp → Prop) : Prop :=
  match r with
  | .ok ρ' S' => ∀ σ' ι' M' H', (σ'.length = σ.length ∧ ∀ j, j ∉ vs → σ'[j]? = σ[j]?) → Adv ι M H ι' M' H' → SR K ι' M' H' S' → SLt K mg pn ι' M' H' ρ' σ' → Q σ' H'
  | .bad => False
def tT (K : Fg) (mg : MG) (pn : Pz) (vs : List Nat) (f : D → Env → Store → B) : TG := fun v σ H Q => ∃ ι M ρ S d, SR K ι M H S ∧ SLt K mg pn ι M H ρ σ ∧ Rep K ι M H d v ∧ PostT K mg pn vs σ ι M H (f d ρ S) Q
def tTs (K : Fg) (mg : MG) (pn : Pz) (vs : List Nat) (f : List D → Env → Store → B) : TGs := fun v σ H Q => ∃ ι M ρ S d, SR K ι M H S ∧ SLt K mg pn ι M H ρ σ ∧ RepL K ι M H d v ∧ PostT K mg pn vs σ ι M H (f d ρ S) Q
abbrev EG (X : Cx) (pn : Pz) (vs : List Nat) (tg : Expr) (f : D → Env → Store → B) : Prop := PG X tg (tT X.K X.mg pn vs f)
abbrev EGs (X : Cx) (pn : Pz) (vs : List Nat) (tg : List Expr) (f : List D → Env → Store → B) : Prop := PGs X tg (tTs X.K X.mg pn vs f)
theorem PostT.adv {K : Fg} {mg : MG} {pn : Pz} {vs : List Nat} {σ : L2.St} {ι ι' : List Addr} {M M' : Addr → Prop} {H H' : Hp} {r : B} {Q : L2.St → Hp → Prop} (x : Adv ι M H ι' M' H') (h : PostT K mg pn vs σ ι M H r Q) : PostT K mg pn vs σ ι' M' H' r Q := by
  cases r with
  | ok ρ' S' => exact fun σ' ι2 M2 H2 e y => h σ' ι2 M2 H2 e (x.trans y)
  | bad => exact h
/-- what may be stored in a context -/
def StOk (X : Cx) (x : Str) : Prop := Loc X.env.scope x ∧ (X.fn x = true ∨ X.env.scope.names.lookup x = some .local)
section
variable {X : Cx} {pn : Pz} {W : WX} {kk : Nat} {Φ : Phi}
theorem eg_n {i : Nat} {x : Str} {pos : Pos} (nd : X.N.Nodup) (hi : X.N[i]? = some x) (hx : StOk X x) : EG X pn [i] (.Name x pos) (fun d ρ S => .ok (setN ρ i d) S) := by
  refine ⟨fun pins s σ H v u Q I r ⟨ι, M, ρ, S, d, sr, sl, rd, p⟩ => (pg_name nd hi hx.1 hx.2).run pins s σ H v u Q I r ?_⟩
  refine p _ ι M H ⟨List.length_set .., fun j hj => ?_⟩ .refl sr (sl.setN i rd)
  rw [List.getElem?_set_ne]
  simpa using Ne.symm (by simpa using hj)
theorem egs_nil : EGs X pn [] [] (fun xs ρ S => match xs with | [] => .ok ρ S | _ => .bad) := by
  refine ⟨fun pins s σ H vs us Q I r ⟨ι, M, ρ, S, d, sr, sl, rd, p⟩ => pgs_nil.run pins s σ H vs us Q I r ?_⟩
  cases d with
  | nil =>
    obtain rfl : vs = [] := rd
    exact ⟨rfl, p σ ι M H ⟨rfl, fun _ _ => rfl⟩ .refl sr sl⟩
  | cons _ _ => exact p.elim
theorem egs_cons {e : Expr} {es : List Expr} {v1 v2 : List Nat} {f : D → Env → Store → B} {g : List D → Env → Store → B} (hs : (assignEach (e :: es) X.env).map (·.2) = assign e X.env :: (assignEach es X.env).map (·.2)) (h1 : EG X pn v1 e f) (h2 : EGs X pn v2 es g) :
    EGs X pn (v1 ++ v2) (e :: es) (fun xs ρ S => match xs with | x :: xs => (match f x ρ S with | .ok ρ S => g xs ρ S | .bad => .bad) | [] => .bad) := by
  refine ⟨fun pins s σ H vs us Q I r ⟨ι, M, ρ, S, d, sr, sl, rd, p⟩ => (pgs_cons h1 h2 hs).run pins s σ H vs us Q I r ?_⟩
  cases d with
  | nil => exact p.elim
  | cons d ds =>
    obtain ⟨v, vr, rfl, r1, r2⟩ := rd
    refine ⟨v, vr, rfl, ι, M, ρ, S, d, sr, sl, r1, ?_⟩
    have p : PostT X.K X.mg pn (v1 ++ v2) σ ι M H (match f d ρ S with | .ok ρ S => g ds ρ S | .bad => .bad) Q := p
    cases e : f d ρ S with
    | bad => rw [e] at p; exact p
    | ok ρ' S' =>
      rw [e] at p
      intro σ' ι' M' H' ho x sr' sl'
      refine ⟨ι', M', ρ', S', ds, sr', sl', RepL.adv x sr.im _ _ r2, ?_⟩
      have p' := PostT.adv x p
      simp only at p'
      cases q : g ds ρ' S' with
      | bad => rw [q] at p'; exact p'
      | ok ρ2 S2 =>
        rw [q] at p'
        intro σ2 ι2 M2 H2 ho2 x2 sr2 sl2
        refine p' σ2 ι2 M2 H2 ⟨ho2.1.trans ho.1, fun j hj => ?_⟩ x2 sr2 sl2
        rw [List.mem_append, not_or] at hj
        rw [ho2.2 j hj.2, ho.2 j hj.1]
theorem eg_t {es : List Expr} {k n : Nat} {pos : Pos} {vs : List Nat} {g : List D → Env → Store → B} (hc : X.calm = true) (hn : (assignEach es X.env).length = n) (hst : (assignEach es X.env).findIdx? (·.1) = none) (hlen : ∀ xs ρ S ρ' S', g xs ρ S = .ok ρ' S' → xs.length = n) (h : EGs X pn vs es g) :
    EG X pn vs (.Tuple es k pos) (fun d ρ S => match d with | .tup xs => g xs ρ S | _ => .bad) := by
  refine ⟨fun pins s σ H v u Q I r ⟨ι, M, ρ, S, d, sr, sl, rd, p⟩ => (pg_tup hc h hn hst).run pins s σ H v u Q I r ?_⟩
  cases d with
  | tup xs =>
    obtain ⟨a, ws, rfl, h1, h2, h3⟩ := rd
    have p : PostT X.K X.mg pn vs σ ι M H (g xs ρ S) Q := p
    refine ⟨a, ws, rfl, h1.sq, ?_, ι, M, ρ, S, xs, sr, sl, h3, p⟩
    rw [← h3.length]
    cases e : g xs ρ S with
    | bad => rw [e] at p; exact p.elim
    | ok ρ' S' => exact hlen _ _ _ _ _ e
  | _ => exact p.elim
end
/-! ### comprehensions -/
section
variable {K : Fg} {ι : List Addr} {M M' : Addr → Prop} {H : Hp}
mutual
theorem Rep.weakM (mm : ∀ a, M' a → M a) : ∀ (d : D) (v : V), Rep K ι M H d v → Rep K ι M' H d v
  | .non, v, h => h
  | .bl _, v, h => h
  | .int _, v, h => h
  | .str _, v, h => h
  | .ty _, v, h => h
  | .tup xs, v, h => by
    obtain ⟨a, vs, e, h1, h2, h3⟩ := h
    refine ⟨a, vs, e, ?_, h2, RepL.weakM mm xs vs h3⟩
    rcases h1 with ⟨h1, hn⟩ | h1
    · exact .inl ⟨h1, fun z => hn (mm _ z)⟩
    · exact .inr h1
  | .lst xs, v, h => by
    obtain ⟨a, vs, e, h1, h2, h3⟩ := h
    exact ⟨a, vs, e, h1.mono fun q hn => ⟨q, fun z => hn (mm _ z)⟩, h2, RepL.weakM mm xs vs h3⟩
  | .dic ks ds, v, h => by
    obtain ⟨a, o, kvs, e, h1, h3, h4⟩ := h
    exact ⟨a, o, kvs, e, ⟨h1.1, fun z => h1.2 (mm _ z)⟩, h3, RepL.weakM mm ds _ h4⟩
  | .ref n, v, h => h
  | .exc .., v, h => h.elim
theorem RepL.weakM (mm : ∀ a, M' a → M a) : ∀ (ds : List D) (vs : List V), RepL K ι M H ds vs → RepL K ι M' H ds vs
  | [], vs, h => h
  | d :: ds, vs, h => by
    obtain ⟨v, r, e, h1, h2⟩ := h
    exact ⟨v, r, e, Rep.weakM mm d v h1, RepL.weakM mm ds r h2⟩
end
mutual
/-- what may change is changed: data that stand are as they were -/
theorem Rep.updM {p : Addr} {o : HO} (hp : M p) : ∀ (d : D) (v : V), Rep K ι M H d v → Rep K ι M (upd H p o) d v
  | .non, v, h => h
  | .bl _, v, h => h
  | .int _, v, h => h
  | .str _, v, h => h
  | .ty _, v, h => h
  | .tup xs, v, h => by
    obtain ⟨a, vs, e, h1, h2, h3⟩ := h
    refine ⟨a, vs, e, ?_, h2, RepL.updM hp xs vs h3⟩
    rcases h1 with ⟨h1, hn⟩ | h1
    · refine .inl ⟨?_, hn⟩
      have ne : a ≠ p := fun z => hn (by rw [z]; exact hp)
      rcases h1 with h1 | ⟨o', h1⟩
      · exact .inl (by rw [upd_ne ne]; exact h1)
      · exact .inr ⟨o', by rw [upd_ne ne]; exact h1⟩
    · exact .inr h1
  | .lst xs, v, h => by
    obtain ⟨a, vs, e, h1, h2, h3⟩ := h
    refine ⟨a, vs, e, h1.mono fun h1 hn => ⟨?_, hn⟩, h2, RepL.updM hp xs vs h3⟩
    have ne : a ≠ p := fun z => hn (by rw [z]; exact hp)
    rcases h1 with h1 | ⟨o', h1⟩
    · exact .inl (by rw [upd_ne ne]; exact h1)
    · exact .inr ⟨o', by rw [upd_ne ne]; exact h1⟩
  | .dic ks ds, v, h => by
    obtain ⟨a, o', kvs, e, h1, h3, h4⟩ := h
    exact ⟨a, o', kvs, e, ⟨by rw [upd_ne fun z => h1.2 (by rw [z]; exact hp)]; exact h1.1, h1.2⟩, h3, RepL.updM hp ds _ h4⟩
  | .ref n, v, h => h
  | .exc .., v, h => h.elim
theorem RepL.updM {p : Addr} {o : HO} (hp : M p) : ∀ (ds : List D) (vs : List V), RepL K ι M H ds vs → RepL K ι M (upd H p o) ds vs
  | [], vs, h => h
  | d :: ds, vs, h => by
    obtain ⟨v, r, e, h1, h2⟩ := h
    exact ⟨v, r, e, Rep.updM hp d v h1, RepL.updM hp ds r h2⟩
end
theorem ORep.updM {p : Addr} {o : HO} (hp : M p) {ob : O} {a : Addr} (ne : a ≠ p) (h : ORep K ι M H ob a) : ORep K ι M (upd H p o) ob a := by
  cases ob with
  | lst xs =>
    obtain ⟨vs, h1, h2, h3⟩ := h
    exact ⟨vs, by rw [upd_ne ne]; exact h1, h2, RepL.updM hp _ _ h3⟩
  | dic ks ds =>
    obtain ⟨kvs, h1, h2, h3⟩ := h
    exact ⟨kvs, by rw [upd_ne ne]; exact h1, h2, RepL.updM hp _ _ h3⟩
  | lok ks ds =>
    obtain ⟨o', kvs, h1, h2, h3⟩ := h
    exact ⟨o', kvs, by rw [upd_ne ne]; exact h1, h2, RepL.updM hp _ _ h3⟩
theorem SR.updM {S : Store} {p : Addr} {o : HO} (s : SR K ι M H S) (hp : M p) (hn : p ∉ ι) : SR K ι M (upd H p o) S where
  len := s.len
  nd := s.nd
  im := s.im
  mt := fun a h => by
    by_cases e : a = p
    · rw [e, upd_same]; simp
    · rw [upd_ne e]; exact s.mt a h
  obj := fun n u a h1 h2 => (s.obj n u a h1 h2).updM hp fun e => hn (by rw [← e]; exact List.mem_of_getElem? h2)
theorem SR.weakM {S : Store} (s : SR K ι M H S) (mm : ∀ a, M' a → M a) (im : ∀ a ∈ ι, M' a) : SR K ι M' H S where
  len := s.len
  nd := s.nd
  im := im
  mt := fun a h => s.mt a (mm a h)
  obj := fun n u a h1 h2 => by
    have h := s.obj n u a h1 h2
    cases u with
    | lst xs =>
      obtain ⟨vs, h1, h2, h3⟩ := h
      exact ⟨vs, h1, h2, RepL.weakM mm _ _ h3⟩
    | dic ks ds =>
      obtain ⟨kvs, h1, h2, h3⟩ := h
      exact ⟨kvs, h1, h2, RepL.weakM mm _ _ h3⟩
    | lok ks ds =>
      obtain ⟨o', kvs, h1, h2, h3⟩ := h
      exact ⟨o', kvs, h1, h2, RepL.weakM mm _ _ h3⟩
theorem SLt.updM {mg : MG} {pn : Pz} {ρ : Env} {σ : L2.St} {p : Addr} {o : HO} (hp : M p) (h : SLt K mg pn ι M H ρ σ) : SLt K mg pn ι M (upd H p o) ρ σ := by
  refine ⟨h.len, fun i d e => ?_⟩
  have z := h.at_ i d e
  cases d with
  | exc c fs vs =>
    obtain ⟨a, cls, dd, e1, e2, Ca, f1, f2, f3⟩ := z
    refine ⟨a, cls, dd, e1, e2, Ca, f1, f2, ?_⟩
    rcases f3 with f3 | ⟨f, x, d, v, g1, g2, g3, g4, g5, g6⟩
    · exact .inl f3
    · exact .inr ⟨f, x, d, v, g1, g2, g3, by rw [upd_ne fun z => g5 (by rw [z]; exact hp)]; exact g4, g5, Rep.updM hp _ _ g6⟩
  | _ =>
    obtain ⟨v, e1, e2⟩ := z
    exact ⟨v, e1, Rep.updM hp _ _ e2⟩
/-- what is built at p, seen from where p was free -/
theorem Adv.updD {ι1 : List Addr} {M1 : Addr → Prop} {H1 : Hp} {p : Addr} {o : HO} (x : Adv ι1 M1 H1 ι M H) (hp : H1 p = none) : Adv ι1 M1 H1 ι M (upd H p o) where
  pre := x.pre
  mm := x.mm
  keep := fun a u h hn => by rw [upd_ne (ne_of_none h hp)]; exact x.keep a u h hn
  fresh := x.fresh
  dom := fun a h => by
    by_cases e : a = p
    · rw [e, upd_same]; simp
    · rw [upd_ne e]; exact x.dom a h
  newi := x.newi
  frzk := fun a o u h => by rw [upd_ne (ne_of_none h hp)]; exact x.frzk a o u h
theorem Adv.withD {p : Addr} {o : HO} (hp : H p = none) : Adv ι M H ι (fun a => M a ∨ a = p) (upd H p o) where
  pre := ⟨[], by simp⟩
  mm := fun _ h => .inl h
  keep := fun a u h _ => by rw [upd_ne (ne_of_none h hp)]; exact h
  fresh := fun a h => h.elim .inl fun e => .inr (by rw [e]; exact hp)
  dom := fun a h => by
    by_cases e : a = p
    · rw [e, upd_same]; simp
    · rw [upd_ne e]; exact h
  newi := fun _ h => .inl h
  frzk := fun a o u h => by rw [upd_ne (ne_of_none h hp)]; exact h
theorem SR.withD {S : Store} (s : SR K ι M H S) {p : Addr} {o : HO} (hp : H p = none) : SR K ι (fun a => M a ∨ a = p) (upd H p o) S where
  len := s.len
  nd := s.nd
  im := fun a h => .inl (s.im a h)
  mt := fun a h => by
    rcases h with h | h
    · exact (Adv.withD (ι := ι) (M := M) (o := o) hp).dom a (s.mt a h)
    · rw [h, upd_same]; simp
  obj := fun n u a h1 h2 => by
    have hm := s.mt a (s.im a (List.mem_of_getElem? h2))
    exact (s.obj n u a h1 h2).adv (Adv.withD hp) s.im (upd_ne fun e => hm (by rw [e]; exact hp))
end
theorem wipe_len (σ : L2.St) (vs : List Nat) : (L2.wipe σ vs).length = σ.length := L2.wipe_length σ vs
theorem wipe_get {σ : L2.St} : ∀ (vs : List Nat) (j : Nat), (L2.wipe σ vs)[j]? = if j ∈ vs then (if j < σ.length then some none else none) else σ[j]?
  | [], j => by simp [L2.wipe]
  | v :: vs, j => by
    show ((L2.wipe σ vs).set v none)[j]? = _
    by_cases e : v = j
    · subst e
      rw [if_pos (List.mem_cons_self ..)]
      by_cases h : v < σ.length
      · rw [if_pos h, List.getElem?_set_self (by rw [wipe_len]; exact h)]
      · rw [if_neg h, List.getElem?_eq_none (by rw [List.length_set, wipe_len]; omega)]
    · rw [List.getElem?_set_ne e, wipe_get vs j]
      by_cases h : j ∈ vs
      · rw [if_pos h, if_pos (List.mem_cons_of_mem _ h)]
      · rw [if_neg h, if_neg (by simp only [List.mem_cons, not_or]; exact ⟨Ne.symm e, h⟩)]
theorem wipe_same {σ σ' : L2.St} {vs ws : List Nat} (hl : σ'.length = σ.length) (h : ∀ j, j ∉ ws → σ'[j]? = (L2.wipe σ vs)[j]?) (hw : ∀ j ∈ ws, j ∈ vs) : L2.wipe σ' vs = L2.wipe σ vs := by
  refine List.ext_getElem? fun j => ?_
  rw [wipe_get, wipe_get]
  by_cases e : j ∈ vs
  · rw [if_pos e, if_pos e, hl]
  · rw [if_neg e, if_neg e, h j fun z => e (hw j z), wipe_get, if_neg e]
end Mp
/-! Mp, part M: comprehensions. -/
namespace Mp
open PySem PySem.Spec PyProof.Rows L2
section
variable {K : Fg} {ι r : List Addr} {M : Addr → Prop} {H : Hp}
mutual
theorem Rep.grow : ∀ (d : D) (v : V), Rep K ι M H d v → Rep K (ι ++ r) M H d v
  | .non, v, h => h
  | .bl _, v, h => h
  | .int _, v, h => h
  | .str _, v, h => h
  | .ty _, v, h => h
  | .tup xs, v, h => by
    obtain ⟨a, vs, e, h1, h2, h3⟩ := h
    exact ⟨a, vs, e, h1, h2, RepL.grow xs vs h3⟩
  | .lst xs, v, h => by
    obtain ⟨a, vs, e, h1, h2, h3⟩ := h
    exact ⟨a, vs, e, h1, h2, RepL.grow xs vs h3⟩
  | .dic ks ds, v, h => by
    obtain ⟨a, o, kvs, e, h1, h3, h4⟩ := h
    exact ⟨a, o, kvs, e, h1, h3, RepL.grow ds _ h4⟩
  | .ref n, v, h => by
    obtain ⟨a, e, h1⟩ := h
    exact ⟨a, e, by rw [List.getElem?_append_left (List.getElem?_eq_some_iff.mp h1).1]; exact h1⟩
  | .exc .., v, h => h.elim
theorem RepL.grow : ∀ (ds : List D) (vs : List V), RepL K ι M H ds vs → RepL K (ι ++ r) M H ds vs
  | [], vs, h => h
  | d :: ds, vs, h => by
    obtain ⟨v, r, e, h1, h2⟩ := h
    exact ⟨v, r, e, Rep.grow d v h1, RepL.grow ds r h2⟩
end
theorem ORep.grow {o : O} {a : Addr} (h : ORep K ι M H o a) : ORep K (ι ++ r) M H o a := by
  cases o with
  | lst xs =>
    obtain ⟨vs, h1, h2, h3⟩ := h
    exact ⟨vs, h1, h2, RepL.grow _ _ h3⟩
  | dic ks ds =>
    obtain ⟨kvs, h1, h2, h3⟩ := h
    exact ⟨kvs, h1, h2, RepL.grow _ _ h3⟩
  | lok ks ds =>
    obtain ⟨o', kvs, h1, h2, h3⟩ := h
    exact ⟨o', kvs, h1, h2, RepL.grow _ _ h3⟩
end
abbrev NoW : WX := fun _ _ _ _ => False
section
variable {α : Type}
theorem each_step {F : D → Store → R (List D)} {x : D} {r acc : List D} {S : Store} {fin : List D → Store → R D} :
    (noExc (eachR F (x :: r) S)).bind (fun ys S => fin (acc ++ ys) S) = match F x S with
      | .ok ys S1 => (noExc (eachR F r S1)).bind (fun zs S => fin (acc ++ ys ++ zs) S)
      | _ => .bad := by
  show (noExc ((F x S).bind fun ys S1 => (eachR F r S1).bind fun zs S2 => .ok (ys ++ zs) S2)).bind _ = _
  cases F x S with
  | ok ys S1 =>
    rw [R.bind_ok]
    show _ = (noExc (eachR F r S1)).bind _
    cases eachR F r S1 with
    | ok zs S2 => show fin (acc ++ (ys ++ zs)) S2 = fin (acc ++ ys ++ zs) S2; rw [List.append_assoc]
    | exc => rfl
    | bad => rfl
  | exc => rfl
  | bad => rfl
end
theorem rest_step {F : D → Store → R (List D)} {x : D} {rest rest' : Store → R (List D)} {acc : List D} {S : Store} {fin : List D → Store → R D} (e : rest S = (F x S).bind fun ys S1 => (rest' S1).bind fun zs S2 => .ok (ys ++ zs) S2) :
    (noExc (rest S)).bind (fun ys S => fin (acc ++ ys) S) = match F x S with
      | .ok ys S1 => (noExc (rest' S1)).bind (fun zs S => fin (acc ++ ys ++ zs) S)
      | _ => .bad := by
  rw [e]
  cases F x S with
  | ok ys S1 =>
    rw [R.bind_ok]
    show _ = (noExc (rest' S1)).bind _
    cases rest' S1 with
    | ok zs S2 => show fin (acc ++ (ys ++ zs)) S2 = fin (acc ++ ys ++ zs) S2; rw [List.append_assoc]
    | exc => rfl
    | bad => rfl
  | exc => rfl
  | bad => rfl
/-- a source that is walked: Wk i m rest: at turn i, at most m are left, the rest of the elements is rest -/
structure Wlk (K : Fg) (ι1 : List Addr) (M1 : Addr → Prop) (H1 : Hp) (F : D → Store → R (List D)) (J : It) (Wk : Nat → Nat → (Store → R (List D)) → Prop) : Prop where
  step : ∀ i m rest, Wk i m rest → ∀ ι M H S, Advw ι1 M1 H1 ι M H → SR K ι M H S → rest S = .bad ∨ (J.stop i H ∧ rest S = .ok [] S) ∨
    (J.go i H ∧ ∃ d rest' m', m' < m ∧ Wk (i + 1) m' rest' ∧ rest S = ((F d S).bind fun ys S1 => (rest' S1).bind fun zs S2 => .ok (ys ++ zs) S2) ∧ ∀ x H', J.yld i H x H' → Adv ι M H ι M H' ∧ SR K ι M H' S ∧ Rep K ι M H' d x)
theorem wlk_of {K : Fg} {ι1 : List Addr} {M1 : Addr → Prop} {H1 : Hp} {F : D → Store → R (List D)} {J : It} {src : Src} {S1 : Store} (im : ∀ a ∈ ι1, M1 a) (r : SrcRel K ι1 M1 H1 src J) (nb : srcR F src S1 ≠ .bad) :
    ∃ Wk, Wlk K ι1 M1 H1 F J Wk ∧ ∃ m rest, Wk 0 m rest ∧ srcR F src S1 = rest S1 := by
  cases src with
  | items xs =>
    obtain ⟨ok, hlen⟩ := r
    refine ⟨fun i m rest => i ≤ xs.length ∧ m = xs.length - i ∧ rest = eachR F (xs.drop i), ⟨?_⟩, xs.length, eachR F xs, ⟨Nat.zero_le _, rfl, by rw [List.drop_zero]⟩, rfl⟩
    rintro i m rest ⟨hi, rfl, rfl⟩ ι M H S x sr
    obtain ⟨o1, o2, o3⟩ := ok ι M H x sr.mt sr.im
    by_cases he : i = xs.length
    · subst he
      refine .inr (.inl ⟨o1 _ (Nat.le_refl _), ?_⟩)
      rw [List.drop_length]
      rfl
    · have hi' : i < xs.length := by omega
      have ed := List.getElem?_eq_getElem hi'
      refine .inr (.inr ⟨o2 i hi', xs[i], eachR F (xs.drop (i + 1)), xs.length - (i + 1), by omega, ⟨by omega, rfl, rfl⟩, ?_, fun y H' hy => ?_⟩)
      · rw [List.drop_eq_getElem_cons hi']
        rfl
      · obtain ⟨h1, h2⟩ := o3 i y H' _ ed hy
        rcases h1 with rfl | ⟨p, o, hp, rfl⟩
        · exact ⟨.refl, sr, h2⟩
        · exact ⟨Adv.new p o hp sr.mt, sr.new hp, h2⟩
  | live n =>
    obtain ⟨a, ha, rfl⟩ := r
    have h0 : ∃ xs, lstOf S1 (.ref n) = some xs := by
      cases e : lstOf S1 (.ref n) with
      | none => simp only [srcR, e] at nb; exact absurd rfl nb
      | some xs => exact ⟨xs, rfl⟩
    obtain ⟨xs0, e0⟩ := h0
    refine ⟨fun i m rest => rest = liveR F n m i, ⟨?_⟩, xs0.length, _, rfl, by simp only [srcR, e0]⟩
    rintro i m rest rfl ι M H S x sr
    have ha' : ι[n]? = some a := by
      obtain ⟨r0, e'⟩ := x.pre
      rw [e', List.getElem?_append_left (List.getElem?_eq_some_iff.mp ha).1]
      exact ha
    obtain ⟨o, e3, e4⟩ := sr.get ha'
    cases o with
    | dic _ _ => cases m <;> exact .inl (by simp only [liveR, lstOf, e3])
    | lok _ _ => cases m <;> exact .inl (by simp only [liveR, lstOf, e3])
    | lst ys =>
      obtain ⟨vs', h1, h2, h3⟩ := e4
      have hl := h3.length
      have el : lstOf S (.ref n) = some ys := by simp only [lstOf, e3]
      by_cases hi : ys.length ≤ i
      · refine .inr (.inl ⟨⟨vs', .inl (.inl h1), by omega⟩, ?_⟩)
        cases m with
        | zero => simp only [liveR, el, if_pos hi]
        | succ m => simp only [liveR, el, List.getElem?_eq_none hi]
      · have hi' : i < ys.length := by omega
        have ed := List.getElem?_eq_getElem hi'
        cases m with
        | zero => exact .inl (by simp only [liveR, el, if_neg hi])
        | succ m =>
          obtain ⟨v0, g1, g2⟩ := RepL.get h3 ed
          refine .inr (.inr ⟨⟨vs', v0, .inl (.inl h1), g1⟩, ys[i], liveR F n m (i + 1), m, Nat.lt_succ_self m, rfl, by simp only [liveR, el, ed], fun y H' hy => ?_⟩)
          obtain ⟨e5, e6⟩ := hy
          subst e5
          have e7 := e6 vs' (.inl (.inl h1))
          rw [g1] at e7
          cases e7
          exact ⟨.refl, sr, g2⟩
/-- a comprehension under way: L its list, outside the store -/
structure LcS (K : Fg) (mg : MG) (pn : Pz) (ι1 : List Addr) (M1 : Addr → Prop) (H1 : Hp) (L : Addr) (ρ : Env) (σ : L2.St) (acc : List D) (S : Store) (ι : List Addr) (M : Addr → Prop) (H : Hp) : Prop where
  adv : Adv ι1 M1 H1 ι M H
  sr : SR K ι M H S
  sl : SLt K mg pn ι M H ρ σ
  md : M L
  nd : L ∉ ι
  val : ∃ vs, H L = some (.lst vs) ∧ RepL K ι M H acc vs
section
variable {K : Fg} {mg : MG} {pn : Pz} {ι1 ι ι' : List Addr} {M1 M M' : Addr → Prop} {H1 H H' : Hp} {L : Addr} {ρ ρ' : Env} {σ σ' : L2.St} {acc : List D} {S S' : Store}
theorem LcS.step (c : LcS K mg pn ι1 M1 H1 L ρ σ acc S ι M H) (x : Adv ι M H ι' M' H') (sr : SR K ι' M' H' S') : LcS K mg pn ι1 M1 H1 L ρ σ acc S' ι' M' H' where
  adv := c.adv.trans x
  sr := sr
  sl := c.sl.adv x c.sr.im
  md := x.mm _ c.md
  nd := fun z => by
    obtain ⟨vs, h, _⟩ := c.val
    rcases x.newi _ z with z | z
    · exact c.nd z
    · rw [z] at h; cases h
  val := by
    obtain ⟨vs, h, r⟩ := c.val
    exact ⟨vs, x.keep _ _ h c.nd, RepL.adv x c.sr.im _ _ r⟩
theorem LcS.push (c : LcS K mg pn ι1 M1 H1 L ρ σ acc S ι M H) (h1 : H1 L = none) {d : D} {y : V} (r : Rep K ι M H d y) : ∃ vs, H L = some (.lst vs) ∧ vs.length = acc.length ∧ LcS K mg pn ι1 M1 H1 L ρ σ (acc ++ [d]) S ι M (upd H L (.lst (vs ++ [y]))) := by
  obtain ⟨vs, h, q⟩ := c.val
  have hf : ∀ o' u', H L ≠ some (.frz o' u') := fun _ _ z => by rw [h] at z; cases z
  refine ⟨vs, h, q.length.symm, ⟨c.adv.updD h1, c.sr.updM c.md c.nd, c.sl.updM c.md, c.md, c.nd, _, upd_same, ?_⟩⟩
  exact (RepL.updM c.md _ _ q).append (.one (Rep.updM c.md _ _ r))
theorem LcS.start (sr : SR K ι M H S) (sl : SLt K mg pn ι M H ρ σ) (hL : H L = none) : LcS K mg pn ι M H L ρ σ [] S ι (fun a => M a ∨ a = L) (upd H L (.lst [])) where
  adv := Adv.withD hL
  sr := sr.withD hL
  sl := sl.adv (Adv.withD hL) sr.im
  md := .inr rfl
  nd := fun z => sr.mt _ (sr.im _ z) hL
  val := ⟨[], upd_same, .nil⟩
/-- its end -/
theorem LcS.fin {W : WX} {σ0 : L2.St} {fz : Bool} {Q : VK} (c : LcS K mg pn ι1 M1 H1 L ρ σ acc S ι M H) (mt : ∀ a, M1 a → H1 a ≠ none) (hL : H1 L = none)
    (p : PostE K mg W σ0 ι1 M1 H1 (if acc.length ≤ line then alloc fz acc S else .bad) Q) : Q (.ref L) H := by
  by_cases hl : acc.length ≤ line
  · rw [if_pos hl] at p
    obtain ⟨vs, h, q⟩ := c.val
    cases fz with
    | true =>
      have mm : ∀ a, (M a ∧ a ≠ L) → M a := fun a z => z.1
      refine p _ ι (fun a => M a ∧ a ≠ L) H ?_ (c.sr.weakM mm fun a ha => ⟨c.sr.im a ha, fun e => c.nd (e ▸ ha)⟩) ⟨L, vs, rfl, .inl ⟨.inl h, fun z => z.2 rfl⟩, hl, RepL.weakM mm _ _ q⟩
      exact ⟨c.adv.pre, fun a z => ⟨c.adv.mm a z, fun e => mt a z (e ▸ hL)⟩, c.adv.keep, fun a z => c.adv.fresh a z.1, c.adv.dom, c.adv.newi, c.adv.frzk⟩
    | false =>
      obtain ⟨r0, e0⟩ := c.adv.pre
      refine p _ (ι ++ [L]) M H ⟨⟨r0 ++ [L], by rw [e0, List.append_assoc]⟩, c.adv.mm, c.adv.keep, c.adv.fresh, c.adv.dom, fun a z => (List.mem_append.mp z).elim (c.adv.newi a) fun w => .inr (by rw [List.mem_singleton.mp w]; exact hL), c.adv.frzk⟩ ?_ ⟨L, rfl, ?_⟩
      · have up : ∀ (o : O) (a : Addr), ORep K ι M H o a → ORep K (ι ++ [L]) M H o a := fun o a z => z.grow
        refine ⟨by rw [List.length_append, List.length_append, c.sr.len]; rfl, ?_, fun a z => (List.mem_append.mp z).elim (c.sr.im a) fun w => by rw [List.mem_singleton.mp w]; exact c.md, c.sr.mt, fun n u a h1 h2 => ?_⟩
        · rw [List.nodup_append]
          exact ⟨c.sr.nd, by simp, fun a ha b hb e => c.nd (by rw [← List.mem_singleton.mp hb, ← e]; exact ha)⟩
        · by_cases hn : n < S.length
          · rw [List.getElem?_append_left hn] at h1
            rw [List.getElem?_append_left (by rw [c.sr.len]; exact hn)] at h2
            exact up _ _ (c.sr.obj n u a h1 h2)
          · have hl' : n < (S ++ [O.lst acc]).length := (List.getElem?_eq_some_iff.mp h1).1
            rw [List.length_append, List.length_singleton] at hl'
            have en : n = S.length := by omega
            subst en
            rw [List.getElem?_append_right (Nat.le_refl _), Nat.sub_self] at h1
            rw [List.getElem?_append_right (by rw [c.sr.len]; exact Nat.le_refl _), c.sr.len, Nat.sub_self] at h2
            cases h1
            cases h2
            exact up _ _ ⟨vs, h, hl, q⟩
      · rw [List.getElem?_append_right (by rw [c.sr.len]; exact Nat.le_refl _), c.sr.len, Nat.sub_self]
        rfl
  · rw [if_neg hl] at p
    exact p.bad
theorem lc_turn {pn : Pz} {tvs vs : List Nat} {ft : D → Env → Store → B} {fc : Env → Store → R Bool} {RF : Env → Store → R (List D)} {d : D} {x : V} {ys : List D} {S1 : Store} {REST : L2.St → Hp → Prop} {Nx : Hp → Prop}
    (hv : ∀ j ∈ tvs, j ∈ vs) (sr : SR K ι M H S) (sl : SLt K mg pn ι M H ρ σ) (rd : Rep K ι M H d x)
    (ne : (match ft d (Mp.wipe ρ vs) S with | .ok ρ' S => (fc ρ' S).bind fun b S => if b then RF ρ' S else .ok [] S | .bad => .bad) = R.ok ys S1)
    (k1 : ∀ ρ' S' σ' ι' M' H', L2.wipe σ' vs = L2.wipe σ vs → Adv ι M H ι' M' H' → SR K ι' M' H' S' → SLt K mg pn ι' M' H' ρ' σ' → RF ρ' S' = .ok ys S1 → REST σ' H')
    (k2 : ∀ ι' M' H', Adv ι M H ι' M' H' → SR K ι' M' H' S1 → ys = [] → Nx H') :
    tT K mg pn tvs ft x (L2.wipe σ vs) H fun σ2 H2 => L2.wipe σ2 vs = L2.wipe σ vs ∧ tB K mg pn NoW fc σ2 H2 fun b H3 => if b = true then REST σ2 H3 else Nx H3 := by
  refine ⟨ι, M, _, S, d, sr, sl.wipe vs, rd, ?_⟩
  cases e : ft d (Mp.wipe ρ vs) S with
  | bad => rw [e] at ne; cases ne
  | ok ρ' S2 =>
    rw [e] at ne
    intro σ' ι2 M2 H2 ho x2 sr2 sl2
    refine ⟨?_, ι2, M2, ρ', S2, sr2, sl2, ?_⟩
    · exact wipe_same (ws := tvs) (ho.1.trans (wipe_len ..)) (fun j hj => ho.2 j hj) hv
    · simp only at ne
      cases e2 : fc ρ' S2 with
      | bad => rw [e2] at ne; cases ne
      | exc => rw [e2] at ne; cases ne
      | ok b S3 =>
        rw [e2] at ne
        intro b' ι3 M3 H3 x3 sr3 hb
        obtain rfl : b = b' := hb
        cases b with
        | true =>
          rw [if_pos rfl]
          exact k1 ρ' S3 σ' ι3 M3 H3 (wipe_same (ws := tvs) (ho.1.trans (wipe_len ..)) (fun j hj => ho.2 j hj) hv) (x2.trans x3) sr3 (sl2.adv x3 sr2.im) ne
        | false =>
          have ne : R.ok [] S3 = R.ok ys S1 := ne
          cases ne
          rw [if_neg (by decide)]
          exact k2 ι3 M3 H3 (x2.trans x3) sr3 rfl
/-- one item of a source that stands -/
theorem lc_item {xs : List D} {J : It} {i : Nat} {x : V} {H' : Hp} {d : D} (ok : SrcOk K ι1 M1 H1 xs J) (a : Advw ι1 M1 H1 ι M H) (sr : SR K ι M H S) (e : xs[i]? = some d) (y : J.yld i H x H') : Adv ι M H ι M H' ∧ SR K ι M H' S ∧ Rep K ι M H' d x := by
  obtain ⟨_, _, h⟩ := ok ι M H a sr.mt sr.im
  obtain ⟨h1, h2⟩ := h i x H' d e y
  rcases h1 with rfl | ⟨p, o, hp, rfl⟩
  · exact ⟨.refl, sr, h2⟩
  · exact ⟨Adv.new p o hp sr.mt, sr.new hp, h2⟩
theorem drop_step {α : Type} {xs : List α} {i : Nat} {d : α} (e : xs[i]? = some d) : xs.drop i = d :: xs.drop (i + 1) := by
  obtain ⟨h, rfl⟩ := List.getElem?_eq_some_iff.mp e
  exact List.drop_eq_getElem_cons h
end
section
variable {X : Cx} {pn : Pz} {W : WX}
/-- what one clause gives -/
def lcR (fi : Env → Store → R Src) (ft : D → Env → Store → B) (fc : Env → Store → R Bool) (RF : Env → Store → R (List D)) (vs : List Nat) (fz : Bool) : Env → Store → R D := fun ρ S =>
  (fi ρ S).bind fun src S => (noExc (srcR (fun x S => match ft x (Mp.wipe ρ vs) S with
      | .ok ρ' S => (fc ρ' S).bind fun b S => if b then RF ρ' S else .ok [] S
      | .bad => .bad) src S)).bind fun xs S => if xs.length ≤ line then alloc fz xs S else .bad
theorem lc_of {K : Fg} {mg : MG} {pn : Pz} {tvs vs : List Nat} {fi : Env → Store → R Src} {ft : D → Env → Store → B} {fc : Env → Store → R Bool} {fe : Env → Store → R D} {fz : Bool} {σ : L2.St} {H : Hp} {Q : VK} (hv : ∀ j ∈ tvs, j ∈ vs)
    (h : tE K mg pn W (lcR fi ft fc (fun ρ S => (fe ρ S).bind fun x S => .ok [x] S) vs fz) σ H Q) : tLc (@tG K mg pn W Src It (SrcRel K) fi) (tT K mg pn tvs ft) (tB K mg pn NoW fc) (tE K mg pn NoW fe) vs σ H Q := by
  obtain ⟨ι, M, ρ, S, sr, sl, p⟩ := h
  refine tG.of sr sl p fun src S1 J ι1 M1 H1 a1 sr1 sl1 r1 p1 => ?_
  intro L hL
  generalize hF : (fun (x : D) (S : Store) => match ft x (Mp.wipe ρ vs) S with | .ok ρ' S => (fc ρ' S).bind fun b S => if b then (fe ρ' S).bind fun x S => .ok [x] S else .ok [] S | .bad => .bad) = F at p1
  obtain ⟨Wk, wk, m0, rest0, w0, e0⟩ := wlk_of (F := F) (S1 := S1) sr1.im r1 (fun e => by rw [show srcR F src S1 = .bad from e] at p1; exact PostG.bad p1)
  refine ⟨fun i m H => ∃ ι M acc S rest, Wk i m rest ∧ LcS K mg pn ι1 M1 H1 L ρ σ acc S ι M H ∧ PostE K mg W σ ι1 M1 H1 ((noExc (rest S)).bind fun ys S => if (acc ++ ys).length ≤ line then alloc fz (acc ++ ys) S else .bad) Q, ⟨m0, _, _, [], _, rest0, w0, LcS.start sr1 sl1 hL, by rw [← e0]; exact p1⟩, ?_⟩
  rintro i m H ⟨ι, M, acc, S, rest, w, c, p⟩
  rcases wk.step i m rest w ι M H S (c.adv.w sr1.im) c.sr with eb | ⟨st, e⟩ | ⟨go, d, rest', m', hm, w', e, hy⟩
  · rw [eb] at p
    exact PostG.bad p
  · rw [e] at p
    refine .inl ⟨st, c.fin sr1.mt hL (fz := fz) (W := W) (σ0 := σ) (mg := mg) ?_⟩
    have p : PostE K mg W σ ι1 M1 H1 (if (acc ++ []).length ≤ line then alloc fz (acc ++ []) S else .bad) Q := p
    rwa [List.append_nil] at p
  · refine .inr ⟨go, fun H' => ∃ ι M acc S, LcS K mg pn ι1 M1 H1 L ρ σ acc S ι M H' ∧ PostE K mg W σ ι1 M1 H1 ((noExc (rest' S)).bind fun ys S => if (acc ++ ys).length ≤ line then alloc fz (acc ++ ys) S else .bad) Q, fun H' ⟨ι, M, acc, S, c, p⟩ => ⟨m', hm, ι, M, acc, S, rest', w', c, p⟩, ?_⟩
    intro x H' hyx
    obtain ⟨ax, srx, rx⟩ := hy x H' hyx
    have cx := c.step ax srx
    have e2 := rest_step (acc := acc) (fin := fun ys S => if ys.length ≤ line then alloc fz ys S else .bad) e
    have p := e2 ▸ p
    cases q : F d S with
    | bad => rw [q] at p; exact PostG.bad p
    | exc => rw [q] at p; exact PostG.bad p
    | ok ys S2 =>
      rw [q] at p
      simp only at p
      have q' := q
      rw [← hF] at q'
      refine lc_turn hv srx cx.sl rx q' (fun ρ' S' σ' ι' M' H' hw x2 sr2 sl2 hr => ?_) fun ι' M' H' x2 sr2 hn => ?_
      · refine ⟨ι', M', ρ', S', sr2, sl2, ?_⟩
        cases e3 : fe ρ' S' with
        | bad => rw [e3] at hr; cases hr
        | exc => rw [e3] at hr; cases hr
        | ok y S3 =>
          rw [e3] at hr
          cases hr
          intro v ι3 M3 H3 x3 sr3 r3
          obtain ⟨vs', h1, h2, h3⟩ := ((cx.step x2 sr2).step x3 sr3).push hL r3
          refine ⟨vs', h1, ?_, ι3, M3, _, _, h3, p⟩
          rw [h2]
          cases e4 : rest' S2 with
          | bad => rw [e4] at p; exact PostG.bad p
          | exc => rw [e4] at p; exact PostG.bad p
          | ok zs S4 =>
            rw [e4] at p
            have p : PostE K mg W σ ι1 M1 H1 (if (acc ++ [y] ++ zs).length ≤ line then alloc fz (acc ++ [y] ++ zs) S4 else .bad) Q := p
            by_cases hl : (acc ++ [y] ++ zs).length ≤ line
            · rw [← line_eq]
              simp only [List.length_append, List.length_singleton] at hl
              omega
            · rw [if_neg hl] at p
              exact PostG.bad p
      · subst hn
        rw [List.append_nil] at p
        exact ⟨ι', M', acc, S2, (cx.step x2 sr2), p⟩
theorem lc2_of {K : Fg} {mg : MG} {pn : Pz} {tvs vs tvs1 vs1 : List Nat} {fi fi1 : Env → Store → R Src} {ft ft1 : D → Env → Store → B} {fc fc1 : Env → Store → R Bool} {fe : Env → Store → R D} {fz : Bool} {σ : L2.St} {H : Hp} {Q : VK} (hv : ∀ j ∈ tvs, j ∈ vs) (hv1 : ∀ j ∈ tvs1, j ∈ vs1)
    (h : tE K mg pn W (lcR fi ft fc (fun ρ S => (fi1 ρ S).bind fun src S => srcR (fun x S => match ft1 x (Mp.wipe ρ vs1) S with
      | .ok ρ' S => (fc1 ρ' S).bind fun b S => if b then (fe ρ' S).bind fun y S => .ok [y] S else .ok [] S
      | .bad => .bad) src S) vs fz) σ H Q) : tLc2 (@tG K mg pn W Src It (SrcRel K) fi) (tT K mg pn tvs ft) (tB K mg pn NoW fc) (@tG K mg pn NoW Src It (SrcRel K) fi1) (tT K mg pn tvs1 ft1) (tB K mg pn NoW fc1) (tE K mg pn NoW fe) vs vs1 σ H Q := by
  obtain ⟨ι, M, ρ, S, sr, sl, p⟩ := h
  refine tG.of sr sl p fun src S1 J ι1 M1 H1 a1 sr1 sl1 r1 p1 => ?_
  intro L hL
  generalize hRF : (fun (ρ : Env) (S : Store) => (fi1 ρ S).bind fun src S => srcR (fun x S => match ft1 x (Mp.wipe ρ vs1) S with
      | .ok ρ' S => (fc1 ρ' S).bind fun b S => if b then (fe ρ' S).bind fun y S => R.ok [y] S else .ok [] S
      | .bad => .bad) src S) = RF at p1
  generalize hF : (fun (x : D) (S : Store) => match ft x (Mp.wipe ρ vs) S with | .ok ρ' S => (fc ρ' S).bind fun b S => if b then RF ρ' S else .ok [] S | .bad => .bad) = F at p1
  obtain ⟨Wk, wk, m0, rest0, w0, e0⟩ := wlk_of (F := F) (S1 := S1) sr1.im r1 (fun e => by rw [show srcR F src S1 = .bad from e] at p1; exact PostG.bad p1)
  refine ⟨fun i m H => ∃ ι M acc S rest, Wk i m rest ∧ LcS K mg pn ι1 M1 H1 L ρ σ acc S ι M H ∧ PostE K mg W σ ι1 M1 H1 ((noExc (rest S)).bind fun ys S => if (acc ++ ys).length ≤ line then alloc fz (acc ++ ys) S else .bad) Q, ⟨m0, _, _, [], _, rest0, w0, LcS.start sr1 sl1 hL, by rw [← e0]; exact p1⟩, ?_⟩
  rintro i m H ⟨ι, M, acc, S, rest, w, c, p⟩
  rcases wk.step i m rest w ι M H S (c.adv.w sr1.im) c.sr with eb | ⟨st, e⟩ | ⟨go, d, rest', m', hm, w', e, hy⟩
  · rw [eb] at p
    exact PostG.bad p
  · rw [e] at p
    refine .inl ⟨st, c.fin sr1.mt hL (fz := fz) (W := W) (σ0 := σ) (mg := mg) ?_⟩
    have p : PostE K mg W σ ι1 M1 H1 (if (acc ++ []).length ≤ line then alloc fz (acc ++ []) S else .bad) Q := p
    rwa [List.append_nil] at p
  · refine .inr ⟨go, fun H' => ∃ ι M acc S, LcS K mg pn ι1 M1 H1 L ρ σ acc S ι M H' ∧ PostE K mg W σ ι1 M1 H1 ((noExc (rest' S)).bind fun ys S => if (acc ++ ys).length ≤ line then alloc fz (acc ++ ys) S else .bad) Q, fun H' ⟨ι, M, acc, S, c, p⟩ => ⟨m', hm, ι, M, acc, S, rest', w', c, p⟩, ?_⟩
    intro x H' hyx
    obtain ⟨ax, srx, rx⟩ := hy x H' hyx
    have cx := c.step ax srx
    have e2 := rest_step (acc := acc) (fin := fun ys S => if ys.length ≤ line then alloc fz ys S else .bad) e
    have p := e2 ▸ p
    cases q : F d S with
    | bad => rw [q] at p; exact PostG.bad p
    | exc => rw [q] at p; exact PostG.bad p
    | ok ys S2 =>
      rw [q] at p
      simp only at p
      have hline : (acc ++ ys).length ≤ line := by
        cases e4 : rest' S2 with
        | bad => rw [e4] at p; exact PostG.bad p
        | exc => rw [e4] at p; exact PostG.bad p
        | ok zs S4 =>
          rw [e4] at p
          have p : PostE K mg W σ ι1 M1 H1 (if (acc ++ ys ++ zs).length ≤ line then alloc fz (acc ++ ys ++ zs) S4 else .bad) Q := p
          by_cases hl : (acc ++ ys ++ zs).length ≤ line
          · rw [List.length_append] at hl
            omega
          · rw [if_neg hl] at p
            exact PostG.bad p
      have q' := q
      rw [← hF] at q'
      refine lc_turn hv srx cx.sl rx q' (fun ρ' S' σ' ι' M' H' hw x2 sr2 sl2 hr => ?_) fun ι' M' H' x2 sr2 hn => ?_
      · have c2 := cx.step x2 sr2
        rw [← hRF] at hr
        simp only at hr
        refine ⟨ι', M', ρ', S', sr2, sl2, ?_⟩
        cases e3 : fi1 ρ' S' with
        | bad => rw [e3] at hr; cases hr
        | exc => rw [e3] at hr; cases hr
        | ok src1 S3 =>
          rw [e3, R.bind_ok] at hr
          intro J1 ι3 M3 H3 x3 sr3 r3
          have c3 := c2.step x3 sr3
          have sl3 := sl2.adv x3 sr2.im
          generalize hG : (fun (x : D) (S : Store) => match ft1 x (Mp.wipe ρ' vs1) S with | .ok ρ' S => (fc1 ρ' S).bind fun b S => if b then (fe ρ' S).bind fun y S => R.ok [y] S else .ok [] S | .bad => .bad) = G at hr
          obtain ⟨Wk1, wk1, m1, rest1, w1, e1⟩ := wlk_of (F := G) (S1 := S3) sr3.im r3 (fun e => by rw [e] at hr; cases hr)
          rw [e1] at hr
          refine ⟨fun j k H => ∃ ι M pre post S rest, Wk1 j k rest ∧ LcS K mg pn ι1 M1 H1 L ρ σ (acc ++ pre) S ι M H ∧ SLt K mg pn ι M H ρ' σ' ∧ Advw ι3 M3 H3 ι M H ∧ rest S = .ok post S2 ∧ ys = pre ++ post, ⟨m1, ι3, M3, [], ys, S3, rest1, w1, by rw [List.append_nil]; exact c3, sl3, Adv.refl.w sr3.im, hr, rfl⟩, ?_⟩
          rintro j k H5 ⟨ι5, M5, pre, post, S5, rest5, w5, c5, sl5, aw5, e5, hys⟩
          rcases wk1.step j k rest5 w5 ι5 M5 H5 S5 aw5 c5.sr with eb | ⟨st1, ee⟩ | ⟨go1, d1, rest6, m6, hm6, w6, ee, hy1⟩
          · rw [eb] at e5; cases e5
          · refine .inl ⟨st1, ι5, M5, acc ++ ys, S2, ?_, p⟩
            rw [ee] at e5
            cases e5
            rw [hys, List.append_nil]
            exact c5
          · refine .inr ⟨go1, fun H => ∃ ι M pre post S, LcS K mg pn ι1 M1 H1 L ρ σ (acc ++ pre) S ι M H ∧ SLt K mg pn ι M H ρ' σ' ∧ Advw ι3 M3 H3 ι M H ∧ rest6 S = .ok post S2 ∧ ys = pre ++ post, fun H ⟨ι, M, pre, post, S, z1, z2, z3, z4, z5⟩ => ⟨m6, hm6, ι, M, pre, post, S, rest6, w6, z1, z2, z3, z4, z5⟩, ?_⟩
            intro x1 H6 hy1x
            obtain ⟨ax1, srx1, rx1⟩ := hy1 x1 H6 hy1x
            have cx1 := c5.step ax1 srx1
            have sx1 := sl5.adv ax1 c5.sr.im
            have wx1 := aw5.adv ax1 c5.sr.im
            rw [ee] at e5
            cases q1 : G d1 S5 with
            | bad => rw [q1] at e5; cases e5
            | exc => rw [q1] at e5; cases e5
            | ok ys1 S6 =>
              rw [q1, R.bind_ok] at e5
              cases q2 : rest6 S6 with
              | bad => rw [q2] at e5; cases e5
              | exc => rw [q2] at e5; cases e5
              | ok zs1 S7 =>
                rw [q2] at e5
                have e5 : R.ok (ys1 ++ zs1) S7 = R.ok post S2 := e5
                injection e5 with e6 e7
                rw [e7] at q2
                have q1' := q1
                rw [← hG] at q1'
                refine lc_turn hv1 srx1 sx1 rx1 q1' (fun ρ8 S8 σ8 ι8 M8 H8 hw8 x8 sr8 sl8 hr8 => ?_) fun ι8 M8 H8 x8 sr8 hn8 => ?_
                · refine ⟨ι8, M8, ρ8, S8, sr8, sl8, ?_⟩
                  cases e8 : fe ρ8 S8 with
                  | bad => rw [e8] at hr8; cases hr8
                  | exc => rw [e8] at hr8; cases hr8
                  | ok y S9 =>
                    rw [e8] at hr8
                    cases hr8
                    intro v ι9 M9 H9 x9 sr9 r9
                    have c9 := (cx1.step x8 sr8).step x9 sr9
                    obtain ⟨vs', g1, g2, g3⟩ := c9.push hL r9
                    refine ⟨vs', g1, ?_, ι9, M9, pre ++ [y], zs1, _, ?_, ?_, ?_, q2, ?_⟩
                    · rw [g2]
                      rw [← line_eq]
                      rw [hys, ← e6] at hline
                      simp only [List.length_append, List.length_singleton] at hline ⊢
                      omega
                    · rw [← List.append_assoc]
                      exact g3
                    · exact ((sx1.adv x8 srx1.im).adv x9 sr8.im).updM c9.md
                    · exact ((wx1.adv x8 srx1.im).adv x9 sr8.im).upd c3.md (fun _ _ z => by rw [g1] at z; cases z)
                    · rw [hys, ← e6, List.append_assoc]
                · subst hn8
                  refine ⟨ι8, M8, pre, zs1, S6, cx1.step x8 sr8, sx1.adv x8 srx1.im, wx1.adv x8 srx1.im, q2, ?_⟩
                  rw [hys, ← e6]
                  rfl
      · subst hn
        rw [List.append_nil] at p
        exact ⟨ι', M', acc, S2, (cx.step x2 sr2), p⟩
end
end Mp
/-! Mp, part N: statements. -/
namespace Mp
open PySem PySem.Spec PyProof.Rows L2
section
variable {X : Cx} {pn : Pz} {W : WX} {kk : Nat} {Φ : Phi}
/-- o[i] = v -/
def tSetD (K : Fg) : TSet := fun o i v H Q => ∃ ι M S S' do' di dx, SR K ι M H S ∧ Rep K ι M H do' o ∧ Rep K ι M H di i ∧ Rep K ι M H dx v ∧ setop do' di dx S = some S' ∧ ∀ H', Adv ι M H ι M H' → SR K ι M H' S' → Q H'
theorem pset_D (hu : X.A.units + 64 < cLine) : PSet X (tSetD X.K) := fun pins s σ H o i v ov iv u Q I ro ri ru ⟨ι, M, S, S', do', di, dx, sr, r1, r2, r3, e, q⟩ => set_sound hu I ro ri ru sr r1 r2 r3 e q
theorem eg_s (hu : X.A.units + 64 < cLine) {o i : Expr} {f g : Env → Store → R D} {pos : Pos} (hx : ixB i = true) (ho : EE X pn W o f) (hi : EE X pn W i g) :
    EG X pn [] (.Subscript o i pos) (fun d ρ S => match f ρ S with | .ok x S => (match g ρ S with | .ok y S => (match setop x y d S with | some S => .ok ρ S | none => .bad) | _ => .bad) | _ => .bad) := by
  refine ⟨fun pins s σ H v u Q I r ⟨ι, M, ρ, S, d, sr, sl, rd, p⟩ => (pg_sub ho hi (pset_D hu) (by intro v; cases i <;> first | rfl | cases hx)).run pins s σ H v u Q I r ?_⟩
  refine ⟨ι, M, ρ, S, sr, sl, ?_⟩
  simp only at p
  cases e1 : f ρ S with
  | bad => rw [e1] at p; exact p.elim
  | exc => rw [e1] at p; exact p.elim
  | ok x S1 =>
    rw [e1] at p
    intro xv ι1 M1 H1 a1 sr1 r1
    have sl1 := sl.adv a1 sr.im
    refine ⟨ι1, M1, ρ, S1, sr1, sl1, ?_⟩
    simp only at p
    cases e2 : g ρ S1 with
    | bad => rw [e2] at p; exact p.elim
    | exc => rw [e2] at p; exact p.elim
    | ok y S2 =>
      rw [e2] at p
      intro yv ι2 M2 H2 a2 sr2 r2
      simp only at p
      cases e3 : setop x y d S2 with
      | none => rw [e3] at p; exact p.elim
      | some S3 =>
        rw [e3] at p
        refine ⟨ι2, M2, S2, S3, x, y, d, sr2, Rep.adv a2 sr1.im _ _ r1, r2, Rep.adv (a1.trans a2) sr.im _ _ rd, e3, fun H3 a3 sr3 => ?_⟩
        exact p σ ι2 M2 H3 ⟨rfl, fun _ _ => rfl⟩ ((a1.trans a2).trans a3) sr3 ((sl1.adv a2 sr1.im).adv a3 sr2.im)
end
/-! ### what is asked behind a statement -/
section
variable (K : Fg) (mg : MG) (pn : Pz) (W : WX)
def PostF (D : Ends) (ι : List Addr) (M : Addr → Prop) (H : Hp) (r : F) : Prop :=
  match r with
  | .nx ρ S' => ∀ σ' ι' M' H', Adv ι M H ι' M' H' → SR K ι' M' H' S' → SLt K mg pn ι' M' H' ρ σ' → D.nx σ' H'
  | .rt d S' => ∀ v ι' M' H', Adv ι M H ι' M' H' → SR K ι' M' H' S' → Rep K ι' M' H' d v → D.rt v H'
  | .bk ρ S' => ∀ σ' ι' M' H', Adv ι M H ι' M' H' → SR K ι' M' H' S' → SLt K mg pn ι' M' H' ρ σ' → D.bk σ' H'
  | .ct ρ S' => ∀ σ' ι' M' H', Adv ι M H ι' M' H' → SR K ι' M' H' S' → SLt K mg pn ι' M' H' ρ σ' → D.ct σ' H'
  | .exc c fs vs ρ S' => ∀ cls dd σ' ι' M' H', Adv ι M H ι' M' H' → SR K ι' M' H' S' → SLt K mg pn ι' M' H' ρ σ' → XR K mg ι' M' H' c fs vs cls dd → W cls dd σ' H'
  | .bad => False
def tS (f : Env → Store → F) : TS := fun D σ H => ∃ ι M ρ S, SR K ι M H S ∧ SLt K mg pn ι M H ρ σ ∧ PostF K mg pn W D ι M H (f ρ S)
end
section
variable {K : Fg} {mg : MG} {pn : Pz} {W : WX} {D : Ends} {σ : L2.St} {ι ι' : List Addr} {M M' : Addr → Prop} {H H' : Hp} {ρ : Env} {S : Store}
theorem PostF.adv (x : Adv ι M H ι' M' H') {r : F} (h : PostF K mg pn W D ι M H r) : PostF K mg pn W D ι' M' H' r := by
  cases r with
  | nx => exact fun σ' ι2 M2 H2 y => h σ' ι2 M2 H2 (x.trans y)
  | rt => exact fun σ' ι2 M2 H2 y => h σ' ι2 M2 H2 (x.trans y)
  | bk => exact fun σ' ι2 M2 H2 y => h σ' ι2 M2 H2 (x.trans y)
  | ct => exact fun σ' ι2 M2 H2 y => h σ' ι2 M2 H2 (x.trans y)
  | exc => exact fun c d σ' ι2 M2 H2 y => h c d σ' ι2 M2 H2 (x.trans y)
  | bad => exact h
/-- an evaluation at a statement's head -/
theorem PostF.stm {α β : Type} {rel : List Addr → (Addr → Prop) → Hp → α → β → Prop} {r : R α} {g : α → Store → F} {Q : β → Hp → Prop} (sr : SR K ι M H S) (sl : SLt K mg pn ι M H ρ σ) (h : PostF K mg pn W D ι M H (r.stm ρ g))
    (k : ∀ d S' v ι' M' H', r = .ok d S' → Adv ι M H ι' M' H' → SR K ι' M' H' S' → SLt K mg pn ι' M' H' ρ σ → rel ι' M' H' d v → PostF K mg pn W D ι' M' H' (g d S') → Q v H') : PostG K mg W σ rel ι M H r Q := by
  cases r with
  | ok d S' => exact fun v ι2 M2 H2 x s2 hv => k d S' v ι2 M2 H2 rfl x s2 (sl.adv x sr.im) hv (PostF.adv x h)
  | exc c fs vs S' => exact fun cls dd ι2 M2 H2 x s2 hx => h cls dd σ ι2 M2 H2 x s2 (sl.adv x sr.im) hx
  | bad => exact h
theorem tS.stm {α β : Type} {rel : List Addr → (Addr → Prop) → Hp → α → β → Prop} {f : Env → Store → R α} {g : α → Store → F} {Q : β → Hp → Prop} (sr : SR K ι M H S) (sl : SLt K mg pn ι M H ρ σ) (h : PostF K mg pn W D ι M H ((f ρ S).stm ρ g))
    (k : ∀ d S' v ι' M' H', f ρ S = .ok d S' → Adv ι M H ι' M' H' → SR K ι' M' H' S' → SLt K mg pn ι' M' H' ρ σ → rel ι' M' H' d v → PostF K mg pn W D ι' M' H' (g d S') → Q v H') : tG K mg pn W rel f σ H Q :=
  ⟨ι, M, ρ, S, sr, sl, h.stm sr sl k⟩
theorem PostF.nx_done (h : PostF K mg pn W D ι M H (.nx ρ S)) (sr : SR K ι M H S) (sl : SLt K mg pn ι M H ρ σ) : D.nx σ H := h σ ι M H .refl sr sl
theorem PostF.rt_done {d : Mp.D} {v : V} (h : PostF K mg pn W D ι M H (.rt d S)) (sr : SR K ι M H S) (r : Rep K ι M H d v) : D.rt v H := h v ι M H .refl sr r
/-- a target's store -/
theorem PostF.tgt {vs : List Nat} {r : B} {f : Env → Store → F} (h : PostF K mg pn W D ι M H (match r with | .ok ρ S => f ρ S | .bad => .bad)) {Q : L2.St → Hp → Prop}
    (k : ∀ ρ' S' σ' ι' M' H', Adv ι M H ι' M' H' → SR K ι' M' H' S' → SLt K mg pn ι' M' H' ρ' σ' → PostF K mg pn W D ι' M' H' (f ρ' S') → Q σ' H') : PostT K mg pn vs σ ι M H r Q := by
  cases r with
  | ok ρ' S' => exact fun σ' ι2 M2 H2 _ x s2 l2 => k ρ' S' σ' ι2 M2 H2 x s2 l2 (PostF.adv x h)
  | bad => exact h
end
abbrev ES (X : Cx) (pn : Pz) (W : WX) (st : Stmt) (f : Env → Store → F) : Prop := PS X st (tS X.K X.mg pn W f)
abbrev ESs (X : Cx) (pn : Pz) (W : WX) (sts : List Stmt) (f : Env → Store → F) : Prop := PSs X sts (tS X.K X.mg pn W f)
section
variable {X : Cx} {pn : Pz} {W : WX} {kk : Nat} {Φ : Phi} {pos : Pos}
theorem ess_nil : ESs X pn W [] (fun ρ S => .nx ρ S) := ⟨fun pins s σ H D I ⟨ι, M, ρ, S, sr, sl, p⟩ => pss_nil.run pins s σ H D I (p.nx_done sr sl)⟩
theorem ess_cons {st : Stmt} {sts : List Stmt} {f g : Env → Store → F} (h1 : ES X pn W st f) (h2 : ESs X pn W sts g) : ESs X pn W (st :: sts) (fun ρ S => (f ρ S).next g) := by
  refine ⟨fun pins s σ H D I ⟨ι, M, ρ, S, sr, sl, p⟩ => (pss_cons h1 h2).run pins s σ H D I ⟨ι, M, ρ, S, sr, sl, ?_⟩⟩
  simp only at p
  cases e : f ρ S with
  | nx ρ' S' =>
    rw [e] at p
    exact fun σ' ι2 M2 H2 x s2 l2 => ⟨ι2, M2, ρ', S', s2, l2, PostF.adv x p⟩
  | rt => rw [e] at p; exact p
  | bk => rw [e] at p; exact p
  | ct => rw [e] at p; exact p
  | exc => rw [e] at p; exact p
  | bad => rw [e] at p; exact p
theorem es_pass : ES X pn W (.Pass pos) (fun ρ S => .nx ρ S) := ⟨fun pins s σ H D I ⟨ι, M, ρ, S, sr, sl, p⟩ => ps_pass.run pins s σ H D I (p.nx_done sr sl)⟩
theorem es_brk : ES X pn W (.Break pos) (fun ρ S => .bk ρ S) := ⟨fun pins s σ H D I ⟨ι, M, ρ, S, sr, sl, p⟩ => ps_break.run pins s σ H D I (p σ ι M H .refl sr sl)⟩
theorem es_cnt : ES X pn W (.Continue pos) (fun ρ S => .ct ρ S) := ⟨fun pins s σ H D I ⟨ι, M, ρ, S, sr, sl, p⟩ => ps_continue.run pins s σ H D I (p σ ι M H .refl sr sl)⟩
theorem es_ex {e : Expr} {f : Env → Store → R D} (he : EE X pn W e f) (hs : swapsWith e none pos.line X.env = pure false) : ES X pn W (.Expr e pos) (fun ρ S => (f ρ S).stm ρ fun _ S => .nx ρ S) := by
  refine ⟨fun pins s σ H D I ⟨ι, M, ρ, S, sr, sl, p⟩ => (ps_expr he hs).run pins s σ H D I ?_⟩
  exact tS.stm sr sl p fun d S' v ι' M' H' _ x sr' sl' r p' => p'.nx_done sr' sl'
theorem es_ret {e : Expr} {f : Env → Store → R D} (he : EE X pn W e f) : ES X pn W (.Return (some e) pos) (fun ρ S => (f ρ S).stm ρ fun d S => .rt d S) := by
  refine ⟨fun pins s σ H D I ⟨ι, M, ρ, S, sr, sl, p⟩ => (ps_ret he).run pins s σ H D I ?_⟩
  exact tS.stm sr sl p fun d S' v ι' M' H' _ x sr' sl' r p' => p'.rt_done sr' r
theorem es_retN : ES X pn W (.Return none pos) (fun ρ S => .rt .non S) := ⟨fun pins s σ H D I ⟨ι, M, ρ, S, sr, sl, p⟩ => ps_retN.run pins s σ H D I (p.rt_done sr rfl)⟩
theorem es_if {c : Expr} {a b : List Stmt} {fc : Env → Store → R Bool} {f g : Env → Store → F} (hc : EB X pn W c fc) (ha : ESs X pn W a f) (hb : ESs X pn W b g) : ES X pn W (.If c a b pos) (fun ρ S => (fc ρ S).stm ρ fun r S => if r then f ρ S else g ρ S) := by
  refine ⟨fun pins s σ H D I ⟨ι, M, ρ, S, sr, sl, p⟩ => (ps_if hc ha hb).run pins s σ H D I ?_⟩
  refine tS.stm sr sl p fun d S' v ι' M' H' _ x sr' sl' r p' => ?_
  obtain rfl : d = v := r
  cases d with
  | true => exact ⟨ι', M', ρ, S', sr', sl', p'⟩
  | false => exact ⟨ι', M', ρ, S', sr', sl', p'⟩
theorem es_asg {tg e : Expr} {f : Env → Store → R D} {g : D → Env → Store → B} {vs : List Nat} (he : EE X pn W e f) (hg : EG X pn vs tg g) (hs : swapsWithSole [tg] e pos.line X.env = pure false) (hw : swappedStores [tg] e X.env = pure none)
    (h1 : (assignEach [tg] X.env).map (·.2) = [assign tg X.env]) : ES X pn W (.Assign [tg] e pos) (fun ρ S => (f ρ S).stm ρ fun d S => match g d ρ S with | .ok ρ S => .nx ρ S | .bad => .bad) := by
  refine ⟨fun pins s σ H D I ⟨ι, M, ρ, S, sr, sl, p⟩ => (ps_asg he hg hs hw h1).run pins s σ H D I ?_⟩
  refine tS.stm sr sl p fun d S' v ι' M' H' _ x sr' sl' r p' => ⟨ι', M', ρ, S', d, sr', sl', r, ?_⟩
  exact PostF.tgt p' fun ρ2 S2 σ2 ι2 M2 H2 x2 sr2 sl2 p2 => p2.nx_done sr2 sl2
end
end Mp
/-! Mp, part O: loops, augmented stores, stores exchanged. -/
namespace Mp
open PySem PySem.Spec PyProof.Rows L2
section
variable {X : Cx} {pn : Pz} {W : WX} {kk : Nat} {Φ : Phi} {pos : Pos}
/-! ### augmented -/
theorem mulOk_ok {i j : Int} (c : mulOk i j = true) : IntMulOk i j := by
  unfold mulOk at c
  have c' := of_decide_eq_true c
  exact CMulX.ok (i := i) (j := j) (by unfold CMulX; omega)
theorem iop_int {op : Operator} {i j : Int} {pins : Pn} {s : Shared} {σ : L2.St} {H : Hp} {v u : Value} {Q : VK} {z : D} {S S' : Store} (hop : op = .Add ∨ op = .Sub ∨ op = .Mult) (I : Inv X pins σ H s) (rv : RelV (.int i) v) (ru : RelV (.int j) u) (e : binI op i j S = .ok z S') (q : S' = S → ∀ k : Int, z = .int k → Q (.int k) H) :
    wpAny (model X.prog X.w) X.A (inplaceOp op v u) (EP X pins σ Q) X.xe s := by
  obtain ⟨t, rfl⟩ := rv
  obtain ⟨t', rfl⟩ := ru
  rcases hop with rfl | rfl | rfl
  · cases e
    exact iadd_int ⟨.int _, H, I.tok _, ⟨_, rfl⟩, q rfl _ rfl⟩
  · cases e
    exact isub_int ⟨.int _, H, I.tok _, ⟨_, rfl⟩, q rfl _ rfl⟩
  · simp only [binI] at e
    by_cases c : mulOk i j = true
    · rw [if_pos c] at e
      cases e
      exact imul_int ⟨.int _, H, I.tok _, ⟨_, rfl⟩, q rfl _ rfl⟩ (mulOk_ok c)
    · rw [if_neg c] at e
      cases e
def tIpD (op : Operator) : TIp := fun x y H Q => ∃ i j z S S', x = .int i ∧ y = .int j ∧ binI op i j S = .ok z S' ∧ (S' = S → ∀ k : Int, z = .int k → Q (.int k) H)
theorem pip_D {op : Operator} (hop : op = .Add ∨ op = .Sub ∨ op = .Mult) : PIp X op (tIpD op) := by
  intro pins s σ H x y v u Q I r1 r2 ⟨i, j, z, S, S', e1, e2, e3, q⟩
  subst e1
  subst e2
  exact iop_int hop I r1 r2 e3 q
theorem binI_ok {op : Operator} {i j : Int} {z : D} {S S' : Store} (hop : op = .Add ∨ op = .Sub ∨ op = .Mult) (e : binI op i j S = .ok z S') : S' = S ∧ ∃ k : Int, z = .int k := by
  rcases hop with rfl | rfl | rfl
  · cases e; exact ⟨rfl, _, rfl⟩
  · cases e; exact ⟨rfl, _, rfl⟩
  · simp only [binI] at e
    by_cases c : mulOk i j = true
    · rw [if_pos c] at e
      cases e
      exact ⟨rfl, _, rfl⟩
    · rw [if_neg c] at e
      cases e
theorem es_aug {op : Operator} {i : Nat} {x : Str} {p : Pos} {e : Expr} {f : Env → Store → R D} (hop : op = .Add ∨ op = .Sub ∨ op = .Mult) (nd : X.N.Nodup) (hi : X.N[i]? = some x) (hx : StOk X x) (he : EE X pn W e f) :
    ES X pn W (.AugAssign (.Name x p) op e pos) (fun ρ S => match ρ[i]? with
      | some (some (.int x)) => (f ρ S).stm ρ fun y S => match y with
        | .int y => match binI op x y S with | .ok z S => .nx (setN ρ i z) S | _ => .bad
        | _ => .bad
      | _ => .bad) := by
  refine ⟨fun pins s σ H Dn I ⟨ι, M, ρ, S, sr, sl, p⟩ => (ps_aug nd hi hx.1 he (pip_D hop) hx.2).run pins s σ H Dn I ?_⟩
  simp only at p
  cases e1 : ρ[i]? with
  | none => rw [e1] at p; exact p.elim
  | some o =>
    cases o with
    | none => rw [e1] at p; exact p.elim
    | some d =>
      cases d with
      | int a =>
        rw [e1] at p
        obtain ⟨v, e2, rfl⟩ := sl.at_ i _ e1
        refine ⟨_, e2, tS.stm sr sl p fun d S' v' ι' M' H' _ x sr' sl' r p' => ?_⟩
        cases d with
        | int b =>
          obtain rfl : v' = .int b := r
          simp only at p'
          cases e3 : binI op a b S' with
          | ok z S2 =>
            rw [e3] at p'
            refine ⟨a, b, z, S', S2, rfl, rfl, e3, fun es k ez => ?_⟩
            subst es
            subst ez
            exact PostF.nx_done p' sr' (sl'.setN i (d := .int k) rfl)
          | exc => rw [e3] at p'; exact p'.elim
          | bad => rw [e3] at p'; exact p'.elim
        | _ => exact p'.elim
      | _ => rw [e1] at p; exact p.elim
/-- a list's item -/
def tGetD (K : Fg) : V → V → Hp → VK → Prop := fun o i H Q => ∃ a xs k z, o = .ref a ∧ i = .int k ∧ SqL K H a xs ∧ L2.atI xs k = some z ∧ Q z H
theorem pget_D : PGet X (tGetD X.K) := by
  intro pins s σ H x y v u Q I rx ry ⟨p, xs, i, z, ex, ey, hq, he, q⟩
  subst ex
  subst ey
  cases rx
  obtain ⟨t, rfl⟩ := ry
  obtain ⟨its, r, pl, hz⟩ := I.list hq
  obtain ⟨j, h1, h2, h3, h4, h5⟩ := atI_get he
  obtain ⟨w, ew, rw'⟩ := r.get h2
  have hl := r.length
  have hn := line63
  have fin : EP X pins σ Q w s := ⟨z, H, I, rw', q⟩
  by_cases h0 : 0 ≤ i
  · have hj : i.toNat = j := by
      rw [seqIndex_of h0 h5] at h1
      exact Option.some.inj h1
    exact wpAny_getItem_list pl.isList h0 (by omega) (by rw [hj]; simpa using ew) fin
  · have hj : (i + (its.toArray.size : Int)).toNat = j := by
      rw [seqIndex_neg (by omega) h4] at h1
      rw [List.size_toArray, ← hl]
      exact Option.some.inj h1
    exact wpAny_getItem_list_neg pl.isList (by omega) (by rw [List.size_toArray] <;> omega) (by omega) (by rw [hj]; simpa using ew) fin
theorem es_augs {op : Operator} {o i e : Expr} {tp : Pos} {fo fi f : Env → Store → R D} (hop : op = .Add ∨ op = .Sub ∨ op = .Mult) (hu : X.A.units + 64 < cLine) (hix : ixB i = true) (ho : EE X pn W o fo) (hi : EE X pn W i fi) (he : EE X pn W e f) :
    ES X pn W (.AugAssign (.Subscript o i tp) op e pos) (fun ρ S => (fo ρ S).stm ρ fun x S => (fi ρ S).stm ρ fun y S => match (match lstOf S x with | some _ => ixop x y S | none => none) with
      | some (.int n) => (f ρ S).stm ρ fun z S => match z with
        | .int m => match binI op n m S with
          | .ok w S => match setop x y w S with | some S => .nx ρ S | none => .bad
          | _ => .bad
        | _ => .bad
      | _ => .bad) := by
  refine ⟨fun pins s σ H Dn I ⟨ι, M, ρ, S, sr, sl, p⟩ => (ps_augS ho hi pget_D he (pip_D hop) (pset_D hu) (by intro ov iv new; cases i <;> first | rfl | cases hix)).run pins s σ H Dn I ?_⟩
  refine tS.stm sr sl p fun x S1 xv ι1 M1 H1 _ a1 sr1 sl1 r1 p1 => ?_
  refine tS.stm sr1 sl1 p1 fun y S2 yv ι2 M2 H2 _ a2 sr2 sl2 r2 p2 => ?_
  have r1' := Rep.adv a2 sr1.im _ _ r1
  cases e1 : lstOf S2 x with
  | none => rw [e1] at p2; exact p2.elim
  | some xs =>
    rw [e1] at p2
    simp only at p2
    cases e2 : ixop x y S2 with
    | none => rw [e2] at p2; exact p2.elim
    | some z =>
      rw [e2] at p2
      cases z with
      | int n =>
        simp only at p2
        obtain ⟨a, vs, rfl, h1, h2, h3⟩ := lst_of sr2 r1' e1
        have ed : ∃ k, y = .int k ∧ atI xs k = some (.int n) := by
          cases x with
          | lst ys =>
            cases e1
            cases y with
            | int k => exact ⟨k, rfl, e2⟩
            | _ => cases e2
          | ref m =>
            simp only [ixop, ixAny, dicOf, seqOf, e1] at e2
            cases e4 : S2[m]? with
            | none => simp only [lstOf, e4] at e1; cases e1
            | some o =>
              cases o with
              | lst ys =>
                simp only [e4] at e2
                cases y with
                | int k => exact ⟨k, rfl, e2⟩
                | _ => cases e2
              | dic _ _ => simp only [lstOf, e4] at e1; cases e1
              | lok _ _ => simp only [lstOf, e4] at e1; cases e1
          | _ => cases e1
        obtain ⟨k, rfl, ek⟩ := ed
        obtain rfl : yv = .int k := r2
        obtain ⟨w, e5, e6⟩ := atI_of h2 ek
        obtain rfl : w = .int n := e6
        refine ⟨a, vs, k, _, rfl, rfl, h1.sq, e5, ?_⟩
        refine tS.stm sr2 sl2 p2 fun z S3 zv ι3 M3 H3 _ a3 sr3 sl3 r3 p3 => ?_
        cases z with
        | int m =>
          obtain rfl : zv = .int m := r3
          simp only at p3
          cases e7 : binI op n m S3 with
          | ok w S4 =>
            rw [e7] at p3
            simp only at p3
            refine ⟨n, m, w, S3, S4, rfl, rfl, e7, fun es q eq => ?_⟩
            subst es
            subst eq
            cases e8 : setop x (.int k) (.int q) S4 with
            | none => rw [e8] at p3; exact p3.elim
            | some S5 =>
              rw [e8] at p3
              exact ⟨ι3, M3, S4, S5, x, .int k, .int q, sr3, Rep.adv a3 sr2.im _ _ r1', rfl, rfl, e8, fun H4 a4 sr4 => p3 σ ι3 M3 H4 a4 sr4 (sl3.adv a4 sr3.im)⟩
          | exc => rw [e7] at p3; exact p3.elim
          | bad => rw [e7] at p3; exact p3.elim
        | _ => exact p3.elim
      | _ => exact p2.elim
/-! ### loops -/
theorem es_while {c : Expr} {b : List Stmt} {fc : Env → Store → R Bool} {f : Env → Store → F} (hp : PassesOwn (model X.prog X.w) X.A X.env X.xe) (hc : EB X pn W c fc) (hb : ESs X pn W b f) : ES X pn W (.While c b [] pos) (fun ρ S => loopF fc f fuel ρ S) := by
  refine ⟨fun pins s σ H Dn I ⟨ι, M, ρ, S, sr, sl, p⟩ => (ps_while hp hc hb).run pins s σ H Dn I ?_⟩
  refine ⟨fun n σ H => ∃ ι M ρ S, SR X.K ι M H S ∧ SLt X.K X.mg pn ι M H ρ σ ∧ PostF X.K X.mg pn W Dn ι M H (loopF fc f n ρ S), ⟨fuel, ι, M, ρ, S, sr, sl, p⟩, ?_⟩
  rintro n σ H ⟨ι, M, ρ, S, sr, sl, p⟩
  cases n with
  | zero => exact p.elim
  | succ n =>
    refine tS.stm sr sl p fun d S' v ι' M' H' _ x sr' sl' r p' => ?_
    obtain rfl : d = v := r
    cases d with
    | false => exact PostF.nx_done p' sr' sl'
    | true =>
      rw [if_pos rfl] at p' ⊢
      refine ⟨fun σ H => ∃ ι M ρ S, SR X.K ι M H S ∧ SLt X.K X.mg pn ι M H ρ σ ∧ PostF X.K X.mg pn W Dn ι M H (loopF fc f n ρ S), fun σ2 H2 z => ⟨n, Nat.lt_succ_self n, z⟩, ι', M', ρ, S', sr', sl', ?_⟩
      cases e : f ρ S' with
      | nx ρ2 S2 => rw [e] at p'; exact fun σ2 ι2 M2 H2 x2 s2 l2 => ⟨ι2, M2, ρ2, S2, s2, l2, PostF.adv x2 p'⟩
      | ct ρ2 S2 => rw [e] at p'; exact fun σ2 ι2 M2 H2 x2 s2 l2 => ⟨ι2, M2, ρ2, S2, s2, l2, PostF.adv x2 p'⟩
      | bk => rw [e] at p'; exact p'
      | rt => rw [e] at p'; exact p'
      | exc => rw [e] at p'; exact p'
      | bad => rw [e] at p'; exact p'
theorem es_for {tg it : Expr} {b : List Stmt} {fi : Env → Store → R Src} {g : D → Env → Store → B} {f : Env → Store → F} {vs : List Nat} (hp : PassesOwn (model X.prog X.w) X.A X.env X.xe) (hc : X.calm = true) (hi : EI X pn W tg it fi) (hg : EG X pn vs tg g) (hb : ESs X pn W b f)
    (hs : ∀ x, foldedSetIterable it X.env x = pure x) :
    ES X pn W (.For tg it b [] pos) (fun ρ S => (fi ρ S).stm ρ fun src S => srcF (fun x ρ S => match g x ρ S with | .ok ρ S => f ρ S | .bad => .bad) src ρ S) := by
  refine ⟨fun pins s σ H Dn I ⟨ι, M, ρ, S, sr, sl, p⟩ => (ps_for hp hc hi hg hb hs).run pins s σ H Dn I ?_⟩
  refine tS.stm sr sl p fun src S1 J ι1 M1 H1 _ a1 sr1 sl1 r1 p1 => ?_
  generalize hF : (fun (x : Mp.D) (ρ : Env) (S : Store) => match g x ρ S with | .ok ρ S => f ρ S | .bad => F.bad) = G at p1
  -- one turn's body
  have body : ∀ {x : Mp.D} {v : V} {ι2 : List Addr} {M2 : Addr → Prop} {H2 : Hp} {ρ2 : Env} {S2 : Store} {σ2 : L2.St} {k : Env → Store → F} {N : L2.St → Hp → Prop}, SR X.K ι2 M2 H2 S2 → SLt X.K X.mg pn ι2 M2 H2 ρ2 σ2 → Rep X.K ι2 M2 H2 x v →
      PostF X.K X.mg pn W Dn ι2 M2 H2 ((G x ρ2 S2).turn k .nx) → (∀ σ3 ι3 M3 H3 ρ3 S3, Adv ι2 M2 H2 ι3 M3 H3 → SR X.K ι3 M3 H3 S3 → SLt X.K X.mg pn ι3 M3 H3 ρ3 σ3 → PostF X.K X.mg pn W Dn ι3 M3 H3 (k ρ3 S3) → N σ3 H3) →
      tT X.K X.mg pn vs g v σ2 H2 fun σ2 H2 => tS X.K X.mg pn W f { Dn with nx := N, ct := N, bk := Dn.nx } σ2 H2 := by
    intro x v ι2 M2 H2 ρ2 S2 σ2 k N sr2 sl2 r2 p2 hk
    refine ⟨ι2, M2, ρ2, S2, x, sr2, sl2, r2, ?_⟩
    rw [← hF] at p2
    simp only at p2
    cases e : g x ρ2 S2 with
    | bad => rw [e] at p2; exact p2.elim
    | ok ρ3 S3 =>
      rw [e] at p2
      simp only at p2
      intro σ3 ι3 M3 H3 _ x3 sr3 sl3
      refine ⟨ι3, M3, ρ3, S3, sr3, sl3, ?_⟩
      have p3 := PostF.adv x3 p2
      cases e4 : f ρ3 S3 with
      | nx ρ4 S4 => rw [e4] at p3; exact fun σ4 ι4 M4 H4 x4 s4 l4 => hk σ4 ι4 M4 H4 ρ4 S4 (x3.trans x4) s4 l4 (PostF.adv x4 p3)
      | ct ρ4 S4 => rw [e4] at p3; exact fun σ4 ι4 M4 H4 x4 s4 l4 => hk σ4 ι4 M4 H4 ρ4 S4 (x3.trans x4) s4 l4 (PostF.adv x4 p3)
      | bk => rw [e4] at p3; exact p3
      | rt => rw [e4] at p3; exact p3
      | exc => rw [e4] at p3; exact p3
      | bad => rw [e4] at p3; exact p3
  cases src with
  | items xs =>
    obtain ⟨ok, hlen⟩ := r1
    have p1 : PostF X.K X.mg pn W Dn ι1 M1 H1 (eachF G xs ρ S1) := p1
    refine ⟨fun i m σ H => i ≤ xs.length ∧ m = xs.length - i ∧ ∃ ι M ρ S, Adv ι1 M1 H1 ι M H ∧ SR X.K ι M H S ∧ SLt X.K X.mg pn ι M H ρ σ ∧ PostF X.K X.mg pn W Dn ι M H (eachF G (xs.drop i) ρ S), ⟨_, Nat.zero_le _, rfl, ι1, M1, ρ, S1, .refl, sr1, sl1, by rw [List.drop_zero]; exact p1⟩, ?_⟩
    rintro i m σ H ⟨hi, rfl, ι, M, ρ, S, x, sr, sl, p⟩
    obtain ⟨ok1, ok2, _⟩ := ok ι M H (x.w sr1.im) sr.mt sr.im
    by_cases he : i = xs.length
    · subst he
      rw [List.drop_length] at p
      exact .inl ⟨ok1 _ (Nat.le_refl _), PostF.nx_done p sr sl⟩
    · have hi' : i < xs.length := by omega
      refine .inr ⟨ok2 i hi', fun σ H => ∃ ι M ρ S, Adv ι1 M1 H1 ι M H ∧ SR X.K ι M H S ∧ SLt X.K X.mg pn ι M H ρ σ ∧ PostF X.K X.mg pn W Dn ι M H (eachF G (xs.drop (i + 1)) ρ S), fun σ H z => ⟨xs.length - (i + 1), by omega, by omega, rfl, z⟩, ?_⟩
      intro v H' hy
      have ed := List.getElem?_eq_getElem hi'
      obtain ⟨ax, srx, rx⟩ := lc_item ok (x.w sr1.im) sr ed hy
      rw [drop_step ed] at p
      exact body srx (sl.adv ax sr.im) rx (PostF.adv ax p) fun σ3 ι3 M3 H3 ρ3 S3 x3 s3 l3 p3 => ⟨ι3, M3, ρ3, S3, (x.trans ax).trans x3, s3, l3, p3⟩
  | live n =>
    obtain ⟨a, ha, rfl⟩ := r1
    simp only [srcF] at p1
    obtain ⟨o, e1, e2⟩ := sr1.get ha
    cases o with
    | dic _ _ => simp only [lstOf, e1] at p1; exact p1.elim
    | lok _ _ => simp only [lstOf, e1] at p1; exact p1.elim
    | lst xs =>
      simp only [lstOf, e1] at p1
      refine ⟨fun i m σ H => ∃ ι M ρ S, ι[n]? = some a ∧ SR X.K ι M H S ∧ SLt X.K X.mg pn ι M H ρ σ ∧ PostF X.K X.mg pn W Dn ι M H (liveF G n m i ρ S), ⟨_, ι1, M1, ρ, S1, ha, sr1, sl1, p1⟩, ?_⟩
      rintro i m σ H ⟨ι, M, ρ, S, ha, sr, sl, p⟩
      obtain ⟨o, e3, e4⟩ := sr.get ha
      cases o with
      | dic _ _ => cases m <;> (simp only [liveF, lstOf, e3] at p; exact p.elim)
      | lok _ _ => cases m <;> (simp only [liveF, lstOf, e3] at p; exact p.elim)
      | lst ys =>
        obtain ⟨vs', h1, h2, h3⟩ := e4
        have hl := h3.length
        by_cases hi : ys.length ≤ i
        · refine .inl ⟨⟨vs', .inl (.inl h1), by omega⟩, ?_⟩
          cases m with
          | zero =>
            simp only [liveF, lstOf, e3, if_pos hi] at p
            exact PostF.nx_done p sr sl
          | succ m =>
            simp only [liveF, lstOf, e3, List.getElem?_eq_none hi] at p
            exact PostF.nx_done p sr sl
        · have hi' : i < ys.length := by omega
          cases m with
          | zero =>
            simp only [liveF, lstOf, e3, if_neg hi] at p
            exact p.elim
          | succ m =>
            have ed := List.getElem?_eq_getElem hi'
            simp only [liveF, lstOf, e3, ed] at p
            obtain ⟨v0, g1, g2⟩ := RepL.get h3 ed
            refine .inr ⟨⟨vs', v0, .inl (.inl h1), g1⟩, fun σ H => ∃ ι M ρ S, ι[n]? = some a ∧ SR X.K ι M H S ∧ SLt X.K X.mg pn ι M H ρ σ ∧ PostF X.K X.mg pn W Dn ι M H (liveF G n m (i + 1) ρ S), fun σ H z => ⟨m, Nat.lt_succ_self m, z⟩, ?_⟩
            intro v H' hy
            obtain ⟨e5, e6⟩ := hy
            subst e5
            have e7 := e6 vs' (.inl (.inl h1))
            rw [g1] at e7
            cases e7
            exact body sr sl g2 p fun σ3 ι3 M3 H3 ρ3 S3 x3 s3 l3 p3 => ⟨ι3, M3, ρ3, S3, x3.get ha, s3, l3, p3⟩
end
end Mp
/-! Mp, part P: exceptions: several clauses, some with a name; own classes raised. -/
namespace Mp
open PySem PySem.Spec PyProof.Rows L2
/-- one clause: its class, the slot of its name, its suite -/
structure Hd where
  c : Value
  o : Option Nat
  ts : Addr → Value → Option Addr → TS
/-- what the clauses wish of an exception of the body -/
def wN (K : Fg) (Wout : WX) (Dn : Ends) : List Hd → WX
  | [] => Wout
  | hd :: r => fun cls d σ H => ∃ b, PySem.W.exmOne K cls hd.c = some b ∧
      (b = true → ∀ a, H a = none → match hd.o with
        | none => hd.ts a cls d Dn σ H
        | some i => hd.ts a cls d { nx := fun σ' H' => Dn.nx (σ'.set i none) H', rt := Dn.rt, bk := fun σ' H' => Dn.bk (σ'.set i none) H', ct := fun σ' H' => Dn.ct (σ'.set i none) H' } (σ.set i (some (.ref a))) H) ∧
      (b = false → wN K Wout Dn r cls d σ H)
def NmOk (X : Cx) (o : Option Nat) (n : Option Str) : Prop := match o, n with
  | none, none => True
  | some i, some n => X.N[i]? = some n ∧ X.env.kindOf n = some .local
  | _, _ => False
inductive HsOk (X : Cx) : List ExceptHandler → List Hd → Prop
  | nil : HsOk X [] []
  | cons {x : Str} {hd : Hd} {n : Option Str} {b₀ : Stmt} {suite : List Stmt} {np pos' : Pos} {hds : List ExceptHandler} {l : List Hd} (hc : Names X x hd.c) (hn : NmOk X hd.o n)
      (hsu : ∀ (a : Addr) (oe : Obj) (cls : Value) (d : Option Addr) (pn : Pn), Zc cls d oe → (∃ vs, oe.data = .fields vs) → PSs (X.suite a ((a, oe) :: pn)) (b₀ :: suite) (hd.ts a cls d)) (r : HsOk X hds l) :
      HsOk X (.ExceptHandler (some (.Name x np)) n (b₀ :: suite) pos' :: hds) (hd :: l)
section
variable {X : Cx} {body : List Stmt} {h₀ : ExceptHandler} {hds : List ExceptHandler} {l : List Hd} {pos : Pos} {tb : WX → TS} {Wout : WX}
theorem ps_tryN (hs : X.stack = X.env :: X.outer) (hf : X.env.frame = some X.env.locals) (hN : X.N.Nodup) (tk : Takes X Wout)
    (hb : ∀ (W : WX) (pn : Pn) (xe : Value → Shared → Prop), Takes (X.tr pn xe) W → PassesOwn (model X.prog X.w) X.A X.env xe → PSs (X.tr pn xe) body (tb W))
    (hh : HsOk X (h₀ :: hds) l) : PS X (.Try body (h₀ :: hds) [] [] pos) (fun Dn σ H => tb (wN X.K Wout Dn l) Dn σ H) := by
  refine ⟨fun pins s σ H Dn I h => ?_⟩
  have ok := I.ok; have hfr : X.A.frames = some (X.env :: X.outer) := by rw [ok.frames, hs]
  refine wpAny_Try_except (wpAny_mono ((hb (wN X.K Wout Dn l) (X.pn ++ pins) (fun e s₁ => wpAny (model X.prog X.w) X.A (noteFrame e X.env) (fun _ s₂ => wpAny (model X.prog X.w) X.A (setFlight e none) (fun _ s₃ =>
    wpAny (model X.prog X.w) X.A (handleBy e X.env (h₀ :: hds)) (SP X pins Dn) X.xe s₃) X.xe s₂) X.xe s₁) (fun u s' xx => ?_) PassesOwn.looking).run [] s σ H Dn (I.toTry _) h) (fun f s1 hsp => ?_) (fun e s1 he => he))
  · obtain ⟨a, B, sI, pins', σ', H', cls, d, rfl, J', nb, up, sky, na, os, ag, w⟩ := xx
    have J : Inv X pins σ' H' sI := J'.ofTry ok; have sky' : Sky B (X.env :: X.outer) a (Zc cls d) X.env.locals s'.heap := by rw [← hs]; exact sky
    show wpAny (model X.prog X.w) X.A (noteFrame (.ref a) X.env) _ _ _
    refine Sky.land Zc.steady hfr hf sky' fun h3 fl3 up3 => ?_
    have J3 : Inv X pins σ' H' { s' with heap := h3 } := J.landed nb fl3.1 (up.trans up3) os ag; obtain ⟨oe3, vs3, he3, hz3, hd3⟩ := fl3.there
    have notFr : ∀ {h : Heap} {o : Obj} {vs : Array Value}, h.FunFrames B (X.env :: X.outer) → h.get? a = some o → o.data = .fields vs → a ∉ frs (X.env :: X.outer) := fun {_ _ _} ff e dd hm => by
      obtain ⟨_, o', e', hnf⟩ := ff.mem hm; rw [e] at e'; cases e'; exact hnf _ dd
    have nfr := notFr fl3.2.2.1 he3 hd3; have nL : a ≠ X.env.locals := fun z => nfr (List.mem_filterMap.mpr ⟨X.env, List.mem_cons_self, by rw [hf, z]⟩)
    have nF : a ∉ X.fs := fun hm => by
      obtain ⟨e, he, q⟩ := List.mem_filterMap.mp hm; exact nfr (List.mem_filterMap.mpr ⟨e, List.mem_cons_of_mem _ he, q⟩)
    have S3 := J3.suite he3 hd3 na nL nF
    have go : ∀ {hds' : List ExceptHandler} {l' : List Hd}, HsOk X hds' l' → wN X.K Wout Dn l' cls d σ' H' → wpAny (model X.prog X.w) X.A (handleBy (.ref a) X.env hds') (SP X pins Dn) X.xe { s' with heap := h3 } := by
      intro hds' l' hk
      induction hk with
      | nil =>
        intro w
        refine wpAny_handleBy_nil ?_
        obtain ⟨k1, k2, k3, oe, vs, T, oT, ts', he, hz, hd, h1, hr⟩ := id fl3; unfold PySem.passOn
        refine wpAny_bind (wpAny_field he hd h1 ?_); rw [if_neg (show ¬ ((Value.ref T == Value.none) = true) from by simp)]
        have fin : wpAny (model X.prog X.w) X.A (setFlight (.ref a) X.env.frame) (fun _ s4 => wpAny (model X.prog X.w) X.A (throw (.ref a) : Sem Flow) (SP X pins Dn) X.xe s4) X.xe { s' with heap := h3 } := by
          rw [hf]; refine HandSPX.setFlight_upZ fl3 fun h4 hh4 up4 => wpAny_throw (tk _ _ ?_)
          exact ⟨a, B, sI, pins, σ', H', cls, d, rfl, J, nb, ((up.trans up3).trans up4), .inr (.inr (by rw [hs]; exact hh4)), na, os, ag, w⟩
        first | exact wpAny_bind (wpAny_pure (wpAny_bind fin)) | exact wpAny_bind fin
      | @cons x hd n b₀ suite np pos' hds2 l2 hc hnm hsu r ih =>
        intro w
        obtain ⟨b, hb1, hyes, hno⟩ := w
        obtain ⟨hc0, ho0, ts0⟩ := hd
        refine wpAny_handleBy_cons (codeAny_handlers_test ?_) (by intro q; cases q)
        have LT : PySem.W.Looks (model X.prog X.w) h3 (typeOf (.ref a)) cls := fun A Q E s k q => wpAny_typeOf_ref (k _ _ he3) (by rw [hz3.1]; exact q)
        have LM := PySem.W.exm_one (M := model X.prog X.w) (J3.kIn) LT hb1
        have test : ∀ {Q : Value → Shared → Prop} {E : Value → Shared → Prop}, Q hc0 { s' with heap := h3 } → wpAny (model X.prog X.w) (X.A.mark (some (.ref a))) (eval (.Name x np) X.env) Q E { s' with heap := h3 } := fun {Q E} q => by
          obtain ⟨hg, hdbg, hm | ⟨hm, hv, hnn⟩⟩ := hc
          · exact ld_glob (X := X.suite a ((a, oe3) :: (X.pn ++ pins))) S3 hg hm q hdbg
          · exact ld_blt (X := X.suite a ((a, oe3) :: (X.pn ++ pins))) S3 hg hm hv q hnn hdbg
        refine test (LM.here ?_)
        cases b with
        | false => exact ih (hno rfl)
        | true =>
          have hy := hyes rfl a na
          cases n with
          | none =>
            cases ho0 with
            | some i => exact hnm.elim
            | none =>
              refine codeAny_handlers_suite (HandSPX.lands_againZ fl3 fun h4 fl4 up4 => ?_)
              have J4 : Inv X pins σ' H' { s' with heap := h4 } := J.landed nb fl4.1 ((up.trans up3).trans up4) os ag; obtain ⟨oe4, vs4, he4, hz4, hd4⟩ := fl4.there
              have S4 := J4.suite he4 hd4 na nL nF
              refine wpAny_mono ((hsu a oe4 cls d (X.pn ++ pins) hz4 ⟨_, hd4⟩).run [] _ _ H' _ S4 hy) (fun f s6 hsp => ?_) (fun _ _ z => False.elim z)
              cases f with
              | ret u => obtain ⟨v6, σ6, H6, S6, r6, q6⟩ := hsp; exact ⟨_, _, _, S6.unsuite ok, r6, q6⟩
              | _ => obtain ⟨σ6, H6, S6, q6⟩ := hsp; exact ⟨_, _, S6.unsuite ok, q6⟩
          | some n =>
            cases ho0 with
            | none => exact hnm.elim
            | some i =>
              obtain ⟨hi, hln⟩ := hnm
              refine codeAny_handlers_suite_as (HandSPX.lands_againZ fl3 fun h4 fl4 up4 => ?_)
              have J4 : Inv X pins σ' H' { s' with heap := h4 } := J.landed nb fl4.1 ((up.trans up3).trans up4) os ag; obtain ⟨oe4, vs4, he4, hz4, hd4⟩ := fl4.there
              have S4 := J4.suite he4 hd4 na nL nF
              refine store_ok (X := X.suite a ((a, oe4) :: (X.pn ++ pins))) (v := .ref a) S4 hN hi (.inl hln) rfl (fun s5 S5 => ?_) (.inr hln)
              refine wpAny_mono ((hsu a oe4 cls d (X.pn ++ pins) hz4 ⟨_, hd4⟩).run [] s5 _ H' _ S5 hy) (fun f s6 hsp => ?_) (fun _ _ z => False.elim z)
              have end_ : ∀ {σ6 : L2.St} {H6 : Hp} {Q : Shared → Prop}, Inv (X.suite a ((a, oe4) :: (X.pn ++ pins))) [] σ6 H6 s6 → (∀ s7, Inv X pins (σ6.set i none) H6 s7 → Q s7) →
                  wpAny (model X.prog X.w) X.A (do bindName X.env n .none; unbindBehindTheSuite X.env n pos') (fun _ s7 => Q s7) X.xe s6 := fun {_ _ _} S6 hq => gone_ok (S6.unsuite ok) hN hi hln hq
              cases f with
              | ret u => obtain ⟨v6, σ6, H6, S6, r6, q6⟩ := hsp; exact end_ S6 fun s7 J7 => ⟨_, _, _, J7, r6, q6⟩
              | _ => obtain ⟨σ6, H6, S6, q6⟩ := hsp; exact end_ S6 fun s7 J7 => ⟨_, _, J7, q6⟩
    exact go hh w
  · cases f with
    | next => obtain ⟨σ', H', J', q⟩ := hsp; exact wpAny_execs_nil ⟨σ', H', J'.ofTry ok, q⟩
    | ret u => obtain ⟨v, σ', H', J', r, q⟩ := hsp; exact ⟨v, σ', H', J'.ofTry ok, r, q⟩
    | _ => obtain ⟨σ', H', J', q⟩ := hsp; exact ⟨σ', H', J'.ofTry ok, q⟩
end
end Mp
/-! Mp, part Q: own classes: their __init__, raise, what a suite reads, try. -/
namespace Mp
open PySem PySem.Spec PyProof.Rows L2
/-! ### the __init__ of an own class -/
/-- what is known of the class that the __init__s call -/
structure BaseC (K : Fg) (Wa : Addr) : Prop where
  sp : PySem.W.specialIn K (.ref Wa) "__getattribute__" = some (some (.builtin "type.__getattribute__"))
  rd : PySem.W.readsIn K Wa (.type "type") = true
  fc : PySem.W.findCls K (.ref Wa) (.type "type") "__init__" = some (.val (.builtin "ValueError.__init__"))
section
variable {X : Cx} {o e : Expr} {es : List Expr} {ta : TA} {p1 p2 pos : Pos} {x : Str} {Wa : Addr}
theorem pe_winit (B : BaseC X.K Wa) (hg : Gl X x) (hm : X.mg x = some (.ref Wa)) (hd : (x == ("__debug__" : Str)) = false) {pl : Sem Bool} (ha : PA X (e :: es) ta)
    (hc : eval (.Call (.Attribute (.Name x p1) "__init__" p2) (e :: es) [] pos) X.env = (do
      let ov ← eval (.Name x p1) X.env
      standAt p2.atName
      let (f, first) ← holding [ov] (getMethod ov "__init__" pl)
      callWith pos f first (backTo pos (starEach (e :: es) X.env)) (backToKw pos (keywordEach [] X.env))) := by rfl)
    (he : starEach (e :: es) X.env = (false, eval e X.env) :: starEach es X.env := by rfl) (hpl : (backTo pos (starEach es X.env)).any (·.1) = false := by rfl) :
    PE X (.Call (.Attribute (.Name x p1) "__init__" p2) (e :: es) [] pos) (tVeI X.K ta) := by
  refine ⟨fun pins s σ H Q I h => ?_⟩
  refine PySem.W.methodCall_KW (ld_glob I hg hm ?_ hd) hc
  refine PySem.W.method_cls I.kIn B.sp (PySem.W.cls_value I.kIn B.rd B.fc (by decide +kernel) ?_)
  show wpAny _ _ (callWith pos (Value.builtin "ValueError.__init__") [] (backTo pos (starEach (e :: es) X.env)) []) _ _ _
  refine PyProof.Rows.callWith_method1 (thn (ha.run pos pins _ σ H _ (I.tok _) h) fun us s1 ⟨vs, H1, I1, r1, a, C, ws, ev, hl, T, ea, q⟩ => ?_) he hpl
  subst ev; cases r1 with
  | @cons _ u0 _ ur ra rw' =>
    obtain rfl : u0 = Value.ref a := ra
    have hlen : ur.length ≤ sizeLine := by rw [← Paired.length rw', sizeLine_eq]; omega
    exact oinit_ok T I1 ea hlen fun s' J => ⟨.non, H1, J, rfl, q⟩
end
section
variable {P : Program} {w : World} {K : Fg} {mg : MG} {base : Heap}
/-- class X(..): def __init__(self, g): Base.__init__(self, 'm'); self.f = g -/
theorem init_ok {x qual : Str} {st : Stmt} {fI C Wa : Addr} {fd : FuncData} {self g b m f : Str} {j : Nat} {q1 q2 q3 q4 q5 q6 q7 q8 q9 q10 : Pos} (F : Fun K x qual st fI fd) (S : FnScope [self, g] [self, g] (defScope st))
    (hb : defBody st = [.Expr (.Call (.Attribute (.Name b q1) "__init__" q2) [.Name self q3, .Constant (.str m) j q4] [] q5) q6, .Assign [.Attribute (.Name self q7) f q8] (.Name g q9) q10])
    (hbg : glB (defScope st) b = true) (hs1 : visB (defScope st) self = true) (hs2 : visB (defScope st) g = true) (o1 : okName self = true) (o2 : okName g = true) (o3 : okName b = true)
    (hc : ∀ env : PySem.Env, ∃ pl : Sem Bool, eval (.Call (.Attribute (.Name b q1) "__init__" q2) [.Name self q3, .Constant (.str m) j q4] [] q5) env = (do
      let ov ← eval (.Name b q1) env
      standAt q2.atName
      let (f, first) ← holding [ov] (getMethod ov "__init__" pl)
      callWith q5 f first (backTo q5 (starEach [.Name self q3, .Constant (.str m) j q4] env)) (backToKw q5 (keywordEach [] env))))
    (B : BaseC K Wa) (T : OexC K C) (hm : mg b = some (.ref Wa)) : FnOk P w K mg base (L2.CX P w) 1 fI fd [self, g] (spI K C f) := by
  refine Fun.okX F S (fun vs H Q E ⟨a, x, e, _⟩ => by rw [e]; rfl) fun cdv A outer s H vs Q E hr hsp => ?_
  obtain ⟨a, xv, rfl, e1, e2, q⟩ := hsp
  rw [hb]
  have v1 : Vis (defScope st) self := by
    unfold visB at hs1; unfold Vis
    split at hs1 <;> first | exact .inl (by assumption) | exact .inr (.inl (by assumption)) | exact .inr (.inr (by assumption)) | cases hs1
  have v2 : Vis (defScope st) g := by
    unfold visB at hs2; unfold Vis
    split at hs2 <;> first | exact .inl (by assumption) | exact .inr (.inl (by assumption)) | exact .inr (.inr (by assumption)) | cases hs2
  obtain ⟨d1, d2, _⟩ := okName_of o1
  obtain ⟨d3, d4, _⟩ := okName_of o2
  obtain ⟨d5, _, _⟩ := okName_of o3
  have gl : (defScope st).names.lookup b = some .globalImplicit := by
    unfold glB at hbg
    split at hbg
    · assumption
    · cases hbg
  have pself : ∀ p, PE (cxOf (L2.CX P w) P w K mg base [self, g] qual (defScope st) fI cdv A outer s H E) (.Name self p) (tVar 0) := fun p => pe_var rfl v1 d1 d2
  have pg : ∀ p, PE (cxOf (L2.CX P w) P w K mg base [self, g] qual (defScope st) fI cdv A outer s H E) (.Name g p) (tVar 1) := fun p => pe_var rfl v2 d3 d4
  obtain ⟨pl, hc⟩ := hc (cxOf (L2.CX P w) P w K mg base [self, g] qual (defScope st) fI cdv A outer s H E).env
  refine ⟨_, pss_cons (ps_expr (pe_winit B gl hm d5 (pa_cons (pself _) (pa_cons pe_str pa_nil)) hc)) (pss_one (ps_ost (pself _) (pg _))), ?_⟩
  refine ⟨_, rfl, ?_⟩
  refine ⟨a, C, [_], rfl, by show 1 ≤ 1000; decide, T, e1, ?_⟩
  refine ⟨xv, rfl, .ref a, rfl, a, C, rfl, T, e2, .inl ⟨e1, fun dx h1 h2 => q dx h1 h2⟩⟩
end
/-! ### raise -/
section
variable {X : Cx} {pn : Pz} {W : WX} {kk : Nat} {Φ : Phi} {pos : Pos}
theorem es_raise {N : List Str} {tx : Tx} {calm : Bool} {sc : Scope} (k : CG kk Φ N tx calm sc pn W X) {c : Str} {e : Expr} {p p2 : Pos} {fa : Env → Store → R (List D)} (hcalm : calm = true) (h1 : glB sc c = true) (h2 : okName c = true) (h3 : tx.ini c = true) (h4 : plainB e = true) (ha : EA X pn W [e] fa) :
    ES X pn W (.Raise (some (.Call (.Name c p) [e] [] p2)) none pos) (fun ρ S => (fa ρ S).stm ρ fun xs S => match xs with | [x] => .exc c [fldN c] [x] ρ S | _ => .bad) := by
  obtain ⟨C, fI, fd, n1, n2, hm, T, iC, tI, F1, hb, hno⟩ := k.ini c h3
  obtain ⟨d1, _, _⟩ := okName_of h2
  have mk := pmk_oex (dvs := []) (pos := p2) (p := p) T iC tI F1 ((k.room hcalm).mono k.two) hb .nil passL (k.gl h1) hm ha d1 (star_of h4) rfl
  refine ⟨fun pins s σ H Dn I ⟨ι, M, ρ, S, sr, sl, q⟩ => (ps_raise (k.clm hcalm) k.tk mk).run pins s σ H Dn I ?_⟩
  refine tS.stm sr sl q fun ds S1 vs ι1 M1 H1 _ a1 sr1 sl1 r1 q1 => ?_
  match ds, r1, q1 with
  | [], _, q1 => exact q1.elim
  | _ :: _ :: _, _, q1 => exact q1.elim
  | [x], r1, q1 =>
    obtain ⟨v, r, rfl, g1, g2⟩ := r1
    obtain rfl : r = [] := g2
    refine ⟨by show 1 ≤ 1000; decide, fun a ha => ⟨a, v, rfl, upd_same, hno, fun dx hdx hne => ⟨rfl, dx, [(fldN c, v)], upd_same, ?_, ?_, ?_⟩⟩⟩
    · rw [upd_ne hne, upd_same]
    · rw [upd_ne hne] at hdx
      exact hdx
    · rw [upd_ne hne] at hdx
      have eH : upd (L2.del (upd (upd (upd H1 a (exo a C none)) dx (exd dx [(fldN c, v)])) a (exo a C (some dx))) a) dx (.xd [(fldN c, v)]) = upd H1 dx (.xd [(fldN c, v)]) := by
        funext b
        by_cases e1 : b = dx
        · rw [e1, upd_same, upd_same]
        · rw [upd_ne e1, upd_ne e1]
          by_cases e2 : b = a
          · rw [e2, del_same, ha]
          · rw [del_ne e2, upd_ne e2, upd_ne e1, upd_ne e2]
      rw [eH]
      have ad : Adv ι1 M1 H1 ι1 M1 (upd H1 dx (.xd [(fldN c, v)])) := Adv.new dx _ hdx sr1.mt
      exact q1 _ _ σ ι1 M1 _ ad (sr1.new hdx) (sl1.adv ad sr1.im) ⟨C, rfl, hm, .inr ⟨fldN c, x, dx, v, rfl, rfl, rfl, upd_same, fun z => sr1.mt dx z hdx, Rep.adv ad sr1.im _ _ g1⟩⟩
/-! ### what a suite reads -/
theorem ee_fld {N : List Str} {tx : Tx} {calm : Bool} {sc : Scope} (k : CG kk Φ N tx calm sc pn W X) {i : Nat} {x f : Str} {cs : List Str} {p : Pos} (hcalm : calm = false) (h1 : nameB N sc i x = true) (h2 : cs.all (fun c => tx.cls c && decide (fldN c = f)) = true) :
    EE X pn W (.Attribute (.Name x p) f pos) (fun ρ S => match ρ[i]? with | some (some d) => ofD (fldop d f cs) S | _ => .bad) := by
  obtain ⟨v1, v2, v3, v4⟩ := k.vis h1
  refine ⟨fun pins s σ H Q I ⟨ι, M, ρ, S, sr, sl, q⟩ => attr_of rfl ?_⟩
  simp only at q
  cases e1 : ρ[i]? with
  | none => rw [e1] at q; exact PostG.bad q
  | some o =>
    cases o with
    | none => rw [e1] at q; exact PostG.bad q
    | some d =>
      rw [e1] at q
      simp only at q
      cases d with
      | exc c fs vs =>
        match fs, vs, e1, q with
        | [g], [v], e1', q' =>
          simp only [fldop] at q'
          by_cases hc : cs.contains c = true ∧ g = f
          · rw [if_pos hc] at q'
            obtain ⟨hc, rfl⟩ := hc
            have hmem : c ∈ cs := List.contains_iff_mem.mp hc
            have h2c := List.all_eq_true.mp h2 c hmem
            rw [Bool.and_eq_true] at h2c
            have hfc : fldN c = g := of_decide_eq_true h2c.2
            obtain ⟨Ca, hm, T, hno⟩ := k.g.xf c h2c.1
            rw [hfc] at hno
            obtain ⟨a, cls, dd, eσ, hpn, Ca', rfl, hm', hx⟩ := sl.at_ i _ e1'
            rw [hm] at hm'
            cases hm'
            rcases hx with ⟨h, _⟩ | ⟨f', x', d', v', e2, e3, e4, e5, e6, e7⟩
            · cases h
            · cases e2
              cases e3
              refine thn ((pe_var v1 v2 v3 v4).run pins s σ H (fun y H1 => y = .ref a ∧ H1 = H) I ⟨_, eσ, rfl, rfl⟩) fun u s1 ⟨y, H1, I1, ry, ey, eH⟩ => ?_
              subst ey
              subst eH
              obtain rfl : u = Value.ref a := ry
              obtain ⟨oe, ho, hz, ws, hd⟩ := k.epn hcalm _ hpn
              obtain ⟨ha, _⟩ := I1.pin (a, oe) (List.mem_append_left _ ho)
              subst e4
              have hxd : ObjOk X.prog X.w H1 s1.heap d' (.xd [(g, v')]) := I1.hok d' _ e5
              obtain ⟨mA, hns, hr⟩ := hxd
              obtain ⟨od, hod, hl⟩ := lookIn_ns hns
              obtain ⟨u, hu, ru⟩ := RelO.some_of (v := v') (o := mA g) (by have z := hr g; rw [show List.lookup g [(g, v')] = some v' by simp [List.lookup]] at z; exact z)
              have J : PySem.W.InstAt s1.heap a oe Ca (some od) := ⟨ha, hz.1, by unfold PySem.W.notCls; rw [hd] <;> rfl, by rw [hz.2]; exact hod⟩
              exact HandSPX.exc_get I1.kIn J T.ga T.gg T.exC (PySem.W.findObj_own T.hdC hno rfl (by rw [hl, hu])) (handed_of ru) ⟨v', H1, I1.tok _, ru, PostG.done q' sr e7⟩
          · rw [if_neg hc] at q'
            exact PostG.bad q'
        | [], [], _, q' => exact PostG.bad q'
        | [], _ :: _, _, q' => exact PostG.bad q'
        | _ :: _ :: _, [], _, q' => exact PostG.bad q'
        | _ :: _ :: _, _ :: _, _, q' => exact PostG.bad q'
        | [_], [], _, q' => exact PostG.bad q'
        | [_], _ :: _ :: _, _, q' => exact PostG.bad q'
      | _ => exact PostG.bad q
end
/-! ### try -/
/-- the clauses, as functions -/
structure HR where
  c : Str
  o : Option Nat
  f : Env → Store → F
def hsF : List HR → Str → List Str → List D → Env → Store → F
  | [], c, fs, vs, ρ, S => .exc c fs vs ρ S
  | h :: hs, c, fs, vs, ρ, S =>
      if takesC c h.c then
        match h.o with
        | none => match h.f ρ S with
          | .exc .. => .bad
          | .nx ρ S => .nx (clr ρ) S
          | .bk ρ S => .bk (clr ρ) S
          | .ct ρ S => .ct (clr ρ) S
          | r => r
        | some i => match h.f (setN ρ i (.exc c fs vs)) S with
          | .exc .. => .bad
          | .nx ρ S => .nx (clr (ρ.set i none)) S
          | .bk ρ S => .bk (clr (ρ.set i none)) S
          | .ct ρ S => .ct (clr (ρ.set i none)) S
          | r => r
      else hsF hs c fs vs ρ S
section
variable {K : Fg} {mg : MG} {pn : Pz} {ι : List Addr} {M : Addr → Prop} {H : Hp} {ρ : Env} {σ : L2.St}
theorem SLt.noexc (h : SLt K mg pn ι M H ρ σ) : SLt K mg [] ι M H (clr ρ) σ := by
  refine ⟨by unfold clr; rw [List.length_map]; exact h.len, fun i d e => ?_⟩
  unfold clr at e
  rw [List.getElem?_map] at e
  cases q : ρ[i]? with
  | none => rw [q] at e; cases e
  | some o =>
    rw [q] at e
    cases o with
    | none => cases e
    | some d' =>
      have z := h.at_ i d' q
      cases d' with
      | exc _ _ _ => cases e
      | _ =>
        cases e
        exact z
theorem SLt.setNone (h : SLt K mg pn ι M H ρ σ) (i : Nat) : SLt K mg pn ι M H (ρ.set i none) (σ.set i none) := by
  refine ⟨by rw [List.length_set, List.length_set]; exact h.len, fun j d e => ?_⟩
  by_cases hj : i = j
  · subst hj
    by_cases hi : i < ρ.length
    · rw [List.getElem?_set_self hi] at e; cases e
    · rw [List.getElem?_eq_none (by rw [List.length_set]; omega)] at e; cases e
  · rw [List.getElem?_set_ne hj] at e
    rw [List.getElem?_set_ne hj]
    exact h.at_ j d e
theorem SLt.more (h : SLt K mg [] ι M H ρ σ) : SLt K mg pn ι M H ρ σ := by
  refine ⟨h.len, fun i d e => ?_⟩
  have z := h.at_ i d e
  cases d with
  | exc c fs vs =>
    obtain ⟨a, cls, dd, e1, e2, e3⟩ := z
    cases e2
  | _ => exact z
theorem SLt.setE (h : SLt K mg [] ι M H ρ σ) (i : Nat) {a : Addr} {cls : Value} {dd : Option Addr} {c : Str} {fs : List Str} {vs : List D} (x : XR K mg ι M H c fs vs cls dd) : SLt K mg [(a, cls, dd)] ι M H (Mp.setN ρ i (.exc c fs vs)) (σ.set i (some (.ref a))) := by
  refine ⟨by unfold Mp.setN; rw [List.length_set, List.length_set]; exact h.len, fun j d e => ?_⟩
  unfold Mp.setN at e
  by_cases hj : i = j
  · subst hj
    by_cases hi : i < ρ.length
    · rw [List.getElem?_set_self hi] at e
      cases e
      rw [List.getElem?_set_self (by rw [← h.len]; exact hi)]
      exact ⟨a, cls, dd, rfl, List.mem_singleton.mpr rfl, x⟩
    · rw [List.getElem?_eq_none (by rw [List.length_set]; omega)] at e
      cases e
  · rw [List.getElem?_set_ne hj] at e
    rw [List.getElem?_set_ne hj]
    exact (h.more (pn := [(a, cls, dd)])).at_ j d e
end
section
variable {X : Cx} {W : WX} {kk : Nat} {Φ : Phi} {pos : Pos}
inductive EHs (X : Cx) (tx : Tx) : List ExceptHandler → List HR → Prop
  | nil : EHs X tx [] []
  | cons {h : HR} {n : Option Str} {b₀ : Stmt} {suite : List Stmt} {np pos' : Pos} {hds : List ExceptHandler} {l : List HR} (hc : Gl X h.c) (hdb : (h.c == ("__debug__" : Str)) = false) (ht : tx.cls h.c = true) (hn : NmOk X h.o n)
      (hsu : ∀ (a : Addr) (oe : Obj) (cls : Value) (d : Option Addr) (pn : Pn), Zc cls d oe → (∃ vs, oe.data = .fields vs) → ESs (X.suite a ((a, oe) :: pn)) [(a, cls, d)] NoW (b₀ :: suite) h.f) (r : EHs X tx hds l) :
      EHs X tx (.ExceptHandler (some (.Name h.c np)) n (b₀ :: suite) pos' :: hds) (h :: l)
/-- the clauses by class -/
def hdOf (X : Cx) (Cl : Str → Value) (h : HR) : Hd := ⟨Cl h.c, h.o, fun a cls d => tS X.K X.mg [(a, cls, d)] NoW h.f⟩
theorem hs_ok {tx : Tx} {Cl : Str → Value} (hCl : ∀ c, tx.cls c = true → X.mg c = some (Cl c)) : ∀ {hds : List ExceptHandler} {l : List HR}, EHs X tx hds l → HsOk X hds (l.map (hdOf X Cl))
  | _, _, .nil => .nil
  | _, _, .cons hc hdb ht hn hsu r => .cons (hd := hdOf X Cl _) ⟨hc, hdb, .inl (hCl _ ht)⟩ hn hsu (hs_ok hCl r)
theorem hs_want {tx : Tx} {base : Heap} {Cl : Str → Value} (hCl : ∀ c, tx.cls c = true → X.mg c = some (Cl c)) (G : Gb X.prog X.w X.K X.mg X.base tx) {Dn : Ends} {σ : L2.St} {c : Str} {fs : List Str} {vs : List D} {cls : Value} {dd : Option Addr} (hcls : tx.cls c = true) :
    ∀ {hds : List ExceptHandler} {l : List HR}, EHs X tx hds l → ∀ {ι : List Addr} {M : Addr → Prop} {H : Hp} {ρ : Env} {S : Store}, SR X.K ι M H S → SLt X.K X.mg [] ι M H ρ σ → XR X.K X.mg ι M H c fs vs cls dd → PostF X.K X.mg [] W Dn ι M H (hsF l c fs vs ρ S) →
      wN X.K W Dn (l.map (hdOf X Cl)) cls dd σ H
  | _, _, .nil, ι, M, H, ρ, S, sr, sl, xr, p => p _ _ σ ι M H .refl sr sl xr
  | _, _, .cons (h := h) (l := l) hc hdb ht hn hsu r, ι, M, H, ρ, S, sr, sl, xr, p => by
    obtain ⟨Ca, Ca', m1, m2, hex⟩ := G.exm c h.c hcls ht
    obtain ⟨Cb, e1, m3, _⟩ := id xr
    rw [m1] at m3
    cases m3
    have m4 := hCl _ ht
    rw [m2] at m4
    refine ⟨takesC c h.c, ?_, fun hb a ha => ?_, fun hb => ?_⟩
    · show PySem.W.exmOne X.K cls (Cl h.c) = _
      rw [e1, ← Option.some.inj m4]
      exact hex
    · simp only [hsF, if_pos hb] at p
      cases ho : h.o with
      | none =>
        rw [ho] at p
        show match (hdOf X Cl h).o with | none => _ | some i => _
        rw [show (hdOf X Cl h).o = none from ho]
        refine ⟨ι, M, ρ, S, sr, sl.more, ?_⟩
        simp only at p
        cases q : h.f ρ S with
        | nx ρ2 S2 => rw [q] at p; exact fun σ' ι2 M2 H2 x2 s2 l2 => p _ ι2 M2 H2 x2 s2 l2.noexc
        | rt => rw [q] at p; exact p
        | bk => rw [q] at p; exact fun σ' ι2 M2 H2 x2 s2 l2 => p _ ι2 M2 H2 x2 s2 l2.noexc
        | ct => rw [q] at p; exact fun σ' ι2 M2 H2 x2 s2 l2 => p _ ι2 M2 H2 x2 s2 l2.noexc
        | exc => rw [q] at p; exact p.elim
        | bad => rw [q] at p; exact p.elim
      | some i =>
        rw [ho] at p
        show match (hdOf X Cl h).o with | none => _ | some i => _
        rw [show (hdOf X Cl h).o = some i from ho]
        refine ⟨ι, M, _, S, sr, sl.setE i xr, ?_⟩
        simp only at p
        cases q : h.f (setN ρ i (.exc c fs vs)) S with
        | nx ρ2 S2 => rw [q] at p; exact fun σ' ι2 M2 H2 x2 s2 l2 => p _ ι2 M2 H2 x2 s2 (l2.setNone i).noexc
        | rt => rw [q] at p; exact p
        | bk => rw [q] at p; exact fun σ' ι2 M2 H2 x2 s2 l2 => p _ ι2 M2 H2 x2 s2 (l2.setNone i).noexc
        | ct => rw [q] at p; exact fun σ' ι2 M2 H2 x2 s2 l2 => p _ ι2 M2 H2 x2 s2 (l2.setNone i).noexc
        | exc => rw [q] at p; exact p.elim
        | bad => rw [q] at p; exact p.elim
    · simp only [hsF, hb] at p
      exact hs_want hCl G (base := base) hcls r sr sl xr p
end
end Mp
/-! Mp, part R: try; stores exchanged; a comprehension stored; enumerate. -/
namespace Mp
open PySem PySem.Spec PyProof.Rows L2
section
variable {X : Cx} {W : WX} {kk : Nat} {Φ : Phi} {pos : Pos}
theorem es_tri {tx : Tx} {cs : List Str} (G : Gb X.prog X.w X.K X.mg X.base tx) (hs : X.stack = X.env :: X.outer) (hf : X.env.frame = some X.env.locals) (nd : X.N.Nodup) (tk : Takes X W) {body : List Stmt} {h₀ : ExceptHandler} {hds : List ExceptHandler} {l : List HR} {fb : Env → Store → F}
    (hb : ∀ (W : WX) (pn : Pn) (xe : Value → Shared → Prop), Takes (X.tr pn xe) W → PassesOwn (model X.prog X.w) X.A X.env xe → ESs (X.tr pn xe) [] W body fb) (hh : EHs X tx (h₀ :: hds) l) (hc : cs.all tx.cls = true) :
    ES X [] W (.Try body (h₀ :: hds) [] [] pos) (fun ρ S => match fb ρ S with | .exc c fs vs ρ S => (if cs.contains c then hsF l c fs vs ρ S else .bad) | r => r) := by
  have hCl : ∀ c, tx.cls c = true → X.mg c = some ((X.mg c).getD .none) := fun c h => by
    obtain ⟨Ca, _, m, _⟩ := G.exm c c h h
    rw [m]
    rfl
  refine ⟨fun pins s σ H Dn I ⟨ι, M, ρ, S, sr, sl, p⟩ => (ps_tryN (tb := fun W => tS X.K X.mg [] W fb) hs hf nd tk hb (hs_ok hCl hh)).run pins s σ H Dn I ⟨ι, M, ρ, S, sr, sl, ?_⟩⟩
  simp only at p
  cases e : fb ρ S with
  | exc c fs vs ρ2 S2 =>
    rw [e] at p
    simp only at p
    by_cases hcs : cs.contains c = true
    · rw [if_pos hcs] at p
      intro cls dd σ' ι2 M2 H2 x2 s2 l2 xr
      exact hs_want (base := X.base) hCl G (List.all_eq_true.mp hc c (List.contains_iff_mem.mp hcs)) hh s2 l2 xr (PostF.adv x2 p)
    · rw [if_neg hcs] at p
      exact p.elim
  | nx => rw [e] at p; exact p
  | rt => rw [e] at p; exact p
  | bk => rw [e] at p; exact p
  | ct => rw [e] at p; exact p
  | bad => rw [e] at p; exact p.elim
end
section
variable {X : Cx} {pn : Pz} {W : WX} {kk : Nat} {Φ : Phi} {pos : Pos}
/-! ### a, b = x, y with local names -/
theorem es_par2 {i j : Nat} {x y : Str} {a b : Expr} {fa : Env → Store → R (List D)} {px py pt pt2 : Pos} {kt k2 : Nat} (hc : X.calm = true) (nd : X.N.Nodup) (hi : X.N[i]? = some x) (hj : X.N[j]? = some y) (hij : i ≠ j)
    (hx : X.env.scope.names.lookup x = some .local) (hy : X.env.scope.names.lookup y = some .local) (ha : EA X pn W [a, b] fa) (hl : ∀ ρ S ds S', fa ρ S = .ok ds S' → ds.length = 2)
    (hw : swappedStores [.Tuple [.Name x px, .Name y py] kt pt] (.Tuple [a, b] k2 pt2) X.env = pure (some [x, y])) :
    ES X pn W (.Assign [.Tuple [.Name x px, .Name y py] kt pt] (.Tuple [a, b] k2 pt2) pos) (fun ρ S => (fa ρ S).stm ρ fun xs S => match xs with | [u, v] => .nx (setN (setN ρ i u) j v) S | _ => .bad) := by
  refine ⟨fun pins s σ H Dn I ⟨ι, M, ρ, S, sr, sl, p⟩ => (ps_par hc nd hi hj hij hx hy ha hw).run pins s σ H Dn I ?_⟩
  refine tS.stm sr sl p fun ds S1 vs ι1 M1 H1 e1 a1 sr1 sl1 r1 p1 => ?_
  match ds, hl _ _ _ _ e1, r1, p1 with
  | [u, v], _, r1, p1 =>
    obtain ⟨v1, r, rfl, g1, v2, r', rfl, g2, g3⟩ := r1
    obtain rfl : r' = [] := g3
    exact ⟨v1, v2, rfl, PostF.nx_done p1 sr1 ((sl1.setN i g1).setN j g2)⟩
theorem es_par3 {i j l : Nat} {x y z : Str} {a b c : Expr} {fa : Env → Store → R (List D)} {px py pz pt pt2 : Pos} {kt k2 : Nat} (hc : X.calm = true) (nd : X.N.Nodup) (hi : X.N[i]? = some x) (hj : X.N[j]? = some y) (hl : X.N[l]? = some z) (hij : i ≠ j) (hil : i ≠ l) (hjl : j ≠ l)
    (hx : X.env.scope.names.lookup x = some .local) (hy : X.env.scope.names.lookup y = some .local) (hz : X.env.scope.names.lookup z = some .local) (ha : EA X pn W [a, b, c] fa) (hn : ∀ ρ S ds S', fa ρ S = .ok ds S' → ds.length = 3)
    (hw : swappedStores [.Tuple [.Name x px, .Name y py, .Name z pz] kt pt] (.Tuple [a, b, c] k2 pt2) X.env = pure (some [x, y, z])) :
    ES X pn W (.Assign [.Tuple [.Name x px, .Name y py, .Name z pz] kt pt] (.Tuple [a, b, c] k2 pt2) pos) (fun ρ S => (fa ρ S).stm ρ fun xs S => match xs with | [u, v, w] => .nx (setN (setN (setN ρ i u) j v) l w) S | _ => .bad) := by
  refine ⟨fun pins s σ H Dn I ⟨ι, M, ρ, S, sr, sl, p⟩ => (ps_par3 hc nd hi hj hl hij hil hjl hx hy hz ha hw).run pins s σ H Dn I ?_⟩
  refine tS.stm sr sl p fun ds S1 vs ι1 M1 H1 e1 a1 sr1 sl1 r1 p1 => ?_
  match ds, hn _ _ _ _ e1, r1, p1 with
  | [u, v, w], _, r1, p1 =>
    obtain ⟨v1, r, rfl, g1, v2, r', rfl, g2, v3, r2, rfl, g3, g4⟩ := r1
    obtain rfl : r2 = [] := g4
    exact ⟨v1, v2, v3, rfl, PostF.nx_done p1 sr1 (((sl1.setN i g1).setN j g2).setN l g3)⟩
/-! ### comprehensions as expressions and stored -/
abbrev BlkG (X : Cx) (scope : Scope) (tvs : List Nat) (pn : Pz) (tg : Expr) (ft : D → Env → Store → B) : Prop := ∀ (s : Shared) (H : Hp) (C : Addr) (cl : List (Str × Addr)) (fp : List Addr), EG (X.blk s H scope (compEnvC scope cl C X.env) fp) pn tvs tg ft
abbrev BlkT (X : Cx) (scope : Scope) (pn : Pz) (ifs : List Expr) (fc : Env → Store → R Bool) : Prop := ∀ (s : Shared) (H : Hp) (C : Addr) (cl : List (Str × Addr)) (fp : List Addr), PTs (X.blk s H scope (compEnvC scope cl C X.env) fp) ifs (tB X.K X.mg pn NoW fc)
abbrev BlkE (X : Cx) (scope : Scope) (pn : Pz) (elt : Expr) (fe : Env → Store → R D) : Prop := ∀ (s : Shared) (H : Hp) (C : Addr) (cl : List (Str × Addr)) (fp : List Addr), EE (X.blk s H scope (compEnvC scope cl C X.env) fp) pn NoW elt fe
abbrev BlkI (X : Cx) (scope : Scope) (pn : Pz) (tg it : Expr) (fi : Env → Store → R Src) : Prop := ∀ (s : Shared) (H : Hp) (C : Addr) (cl : List (Str × Addr)) (fp : List Addr), EI (X.blk s H scope (compEnvC scope cl C X.env) fp) pn NoW tg it fi
def elR (fe : Env → Store → R D) : Env → Store → R (List D) := fun ρ S => (fe ρ S).bind fun x S => .ok [x] S
def clR (fi1 : Env → Store → R Src) (ft1 : D → Env → Store → B) (fc1 : Env → Store → R Bool) (fe : Env → Store → R D) (vs1 : List Nat) : Env → Store → R (List D) := fun ρ S => (fi1 ρ S).bind fun src S => srcR (fun x S => match ft1 x (Mp.wipe ρ vs1) S with
      | .ok ρ' S => (fc1 ρ' S).bind fun b S => if b then (fe ρ' S).bind fun y S => .ok [y] S else .ok [] S
      | .bad => .bad) src S
theorem ee_lc {elt tg iter : Expr} {ifs : List Expr} {scope : Scope} {own : List (Str × Nat)} {tvs : List Nat} {fi : Env → Store → R Src} {ft : D → Env → Store → B} {fc : Env → Store → R Bool} {fe : Env → Store → R D} {fz : Bool} (hc : X.calm = true) (nd : X.N.Nodup) (hi : EI X pn W tg iter fi) (ok : BlkOk X.N X.env.scope scope own) (hv : ∀ j ∈ tvs, j ∈ own.map (·.2))
    (hg : BlkG X scope tvs pn tg ft) (ht : BlkT X scope pn ifs fc) (he : BlkE X scope pn elt fe) (hs : ∀ x, foldedSetIterable iter X.env x = pure x) :
    EE X pn W (.ListComp elt [⟨tg, iter, ifs, 0⟩] scope pos) (lcR fi ft fc (elR fe) (own.map (·.2)) fz) :=
  ⟨fun pins s σ H Q I h => (pe_lc hc nd hi ok hg ht he hs).run pins s σ H Q I (lc_of hv h)⟩
theorem ee_lc2 {elt tg iter tg1 iter1 : Expr} {ifs ifs1 : List Expr} {scope : Scope} {own : List (Str × Nat)} {tvs tvs1 vs1 : List Nat} {fi fi1 : Env → Store → R Src} {ft ft1 : D → Env → Store → B} {fc fc1 : Env → Store → R Bool} {fe : Env → Store → R D} {fz : Bool} (hc : X.calm = true) (nd : X.N.Nodup) (hi : EI X pn W tg iter fi) (ok : BlkOk X.N X.env.scope scope own) (hv : ∀ j ∈ tvs, j ∈ own.map (·.2)) (hv1 : ∀ j ∈ tvs1, j ∈ vs1) (hv2 : ∀ j ∈ vs1, j ∈ own.map (·.2))
    (hg : BlkG X scope tvs pn tg ft) (ht : BlkT X scope pn ifs fc) (hi1 : BlkI X scope pn tg1 iter1 fi1) (hg1 : BlkG X scope tvs1 pn tg1 ft1) (ht1 : BlkT X scope pn ifs1 fc1) (he : BlkE X scope pn elt fe) (hs : ∀ x, foldedSetIterable iter X.env x = pure x) (hs1 : ∀ env x, foldedSetIterable iter1 env x = pure x) :
    EE X pn W (.ListComp elt [⟨tg, iter, ifs, 0⟩, ⟨tg1, iter1, ifs1, 0⟩] scope pos) (lcR fi ft fc (clR fi1 ft1 fc1 fe vs1) (own.map (·.2)) fz) :=
  ⟨fun pins s σ H Q I h => (pe_lc2 hc nd hi ok hv2 hg ht hi1 hg1 ht1 he hs hs1).run pins s σ H Q I (lc2_of hv hv1 h)⟩
theorem es_setLc {i : Nat} {y : Str} {py : Pos} {elt tg iter : Expr} {ifs : List Expr} {scope : Scope} {own : List (Str × Nat)} {p2 : Pos} {tvs : List Nat} {fi : Env → Store → R Src} {ft : D → Env → Store → B} {fc : Env → Store → R Bool} {fe : Env → Store → R D} {fz : Bool} (hc : X.calm = true) (nd : X.N.Nodup) (hy : X.N[i]? = some y) (hyl : X.env.scope.names.lookup y = some .local)
    (hsw : swapsWith (.ListComp elt [⟨tg, iter, ifs, 0⟩] scope p2) (some (.Name y py)) pos.line X.env = pure true) (hi : EI X pn W tg iter fi) (ok : BlkOk X.N X.env.scope scope own) (hv : ∀ j ∈ tvs, j ∈ own.map (·.2))
    (hg : BlkG X scope tvs pn tg ft) (ht : BlkT X scope pn ifs fc) (he : BlkE X scope pn elt fe) (hs : ∀ x, foldedSetIterable iter X.env x = pure x) :
    ES X pn W (.Assign [.Name y py] (.ListComp elt [⟨tg, iter, ifs, 0⟩] scope p2) pos) (fun ρ S => (lcR fi ft fc (elR fe) (own.map (·.2)) fz ρ S).stm ρ fun d S => .nx (setN ρ i d) S) := by
  have R := ps_setLc (pos := p2) (spos := pos) (g := tT X.K X.mg pn tvs ft) (te := tE X.K X.mg pn NoW fe) (tt := tB X.K X.mg pn NoW fc) (wi := @tG X.K X.mg pn W Src It (SrcRel X.K) fi) hc nd hy hyl hsw hi ok hg ht he hs
  refine ⟨fun pins s σ H Dn I ⟨ι, M, ρ, S, sr, sl, p⟩ => R.run pins s σ H Dn I ?_⟩
  refine lc_of hv (fz := fz) (tS.stm sr sl p fun d S' v ι' M' H' _ x sr' sl' r p' => ?_)
  exact PostF.nx_done p' sr' (sl'.setN i r)
theorem es_setLc2 {i : Nat} {y : Str} {py : Pos} {elt tg iter tg1 iter1 : Expr} {ifs ifs1 : List Expr} {scope : Scope} {own : List (Str × Nat)} {p2 : Pos} {tvs tvs1 vs1 : List Nat} {fi fi1 : Env → Store → R Src} {ft ft1 : D → Env → Store → B} {fc fc1 : Env → Store → R Bool} {fe : Env → Store → R D} {fz : Bool} (hc : X.calm = true) (nd : X.N.Nodup) (hy : X.N[i]? = some y) (hyl : X.env.scope.names.lookup y = some .local)
    (hsw : swapsWith (.ListComp elt [⟨tg, iter, ifs, 0⟩, ⟨tg1, iter1, ifs1, 0⟩] scope p2) (some (.Name y py)) pos.line X.env = pure true) (hi : EI X pn W tg iter fi) (ok : BlkOk X.N X.env.scope scope own) (hv : ∀ j ∈ tvs, j ∈ own.map (·.2)) (hv1 : ∀ j ∈ tvs1, j ∈ vs1) (hv2 : ∀ j ∈ vs1, j ∈ own.map (·.2))
    (hg : BlkG X scope tvs pn tg ft) (ht : BlkT X scope pn ifs fc) (hi1 : BlkI X scope pn tg1 iter1 fi1) (hg1 : BlkG X scope tvs1 pn tg1 ft1) (ht1 : BlkT X scope pn ifs1 fc1) (he : BlkE X scope pn elt fe) (hs : ∀ x, foldedSetIterable iter X.env x = pure x) (hs1 : ∀ env x, foldedSetIterable iter1 env x = pure x) :
    ES X pn W (.Assign [.Name y py] (.ListComp elt [⟨tg, iter, ifs, 0⟩, ⟨tg1, iter1, ifs1, 0⟩] scope p2) pos) (fun ρ S => (lcR fi ft fc (clR fi1 ft1 fc1 fe vs1) (own.map (·.2)) fz ρ S).stm ρ fun d S => .nx (setN ρ i d) S) := by
  have R := ps_setLc2 (pos := p2) (spos := pos) (g := tT X.K X.mg pn tvs ft) (g1 := tT X.K X.mg pn tvs1 ft1) (te := tE X.K X.mg pn NoW fe) (tt := tB X.K X.mg pn NoW fc) (tt1 := tB X.K X.mg pn NoW fc1) (wi := @tG X.K X.mg pn W Src It (SrcRel X.K) fi) (wi1 := @tG X.K X.mg pn NoW Src It (SrcRel X.K) fi1) hc nd hy hyl hsw hi ok hv2 hg ht hi1 hg1 ht1 he hs hs1
  refine ⟨fun pins s σ H Dn I ⟨ι, M, ρ, S, sr, sl, p⟩ => R.run pins s σ H Dn I ?_⟩
  refine lc2_of hv hv1 (fz := fz) (tS.stm sr sl p fun d S' v ι' M' H' _ x sr' sl' r p' => ?_)
  exact PostF.nx_done p' sr' (sl'.setN i r)
end
end Mp
/-! Mp, part S: enumerate of lists and tuples. -/
namespace Mp
open PySem PySem.Spec PyProof.Rows L2
theorem meets_enum1 {v : Value} {o : Obj} {H : Heap → Prop} (B : Begins v o H) :
    Meets (Builtin.«enumerate.__new__» ⟨[.type "enumerate", v], []⟩) (fun _ R s => H s.heap ∧
      R (.ok (.ret (.ref (s.heap.push o).objs.size))) { s with heap := (s.heap.push o).push { cls := .type "enumerate", data := .fields #[.none, .bool false, .ref s.heap.objs.size, rawInt 0, .none, .none] } }) :=
  .of_wp fun prog w A R s h => by
    obtain ⟨hp, g, d, tk, os⟩ := s; obtain ⟨h1, h⟩ := h
    have hsub := sub_enumerate
    have q1 : ∀ {A' : Around} {E : Value → Shared → Prop} {Q : Value → Shared → Prop}, Q (.ref hp.objs.size) ⟨hp.push o, g, d, tk, os⟩ → wpAny (model prog w) A' (pyIter v) Q E ⟨hp, g, d, tk, os⟩ :=
      fun q => B.iter prog w _ _ ⟨hp, g, d, tk, os⟩ _ h1 q
    wp_walk using q1
    refine wpAny_stack_any fun st => wpAny_pure ?_
    split
    · rename_i c _ _ _ _ _
      cases (c == Value.type "enumerate")
      · wp_walk using q1; exact ⟨_, rfl, h⟩
      · wp_walk using q1; exact ⟨_, rfl, h⟩
    · wp_walk using q1; exact ⟨_, rfl, h⟩
theorem enum_one {prog : Program} {w : World} {A : Around} {E : Value → Shared → Prop} {s : Shared} {v : Value} {o : Obj} {H : Heap → Prop} {Q : Value → Shared → Prop} (B : Begins v o H) (h1 : H s.heap)
    (h : ∀ h', IsEnum h' (s.heap.objs.size + 1) s.heap.objs.size 0 .none → h'.get? s.heap.objs.size = some o → h'.objs.size = s.heap.objs.size + 2 →
      (∀ b o, s.heap.get? b = some o → h'.get? b = some o) → Q (.ref (s.heap.objs.size + 1)) { s with heap := h' }) :
    wpAny (model prog w) A (call (.type "enumerate") [v]) Q E s := by
  refine callType_new F.called_enumerate (by decide) (F.typeCall_enumerate_1 _) (F.newCall_enumerate_1 _) (fun obj => F.args_object_init_2 obj _) F.entry_enumerate_new (meets_enum1 B) ⟨h1, ?_⟩
  have hz : (s.heap.push o).objs.size = s.heap.objs.size + 1 := Heap.size_push ..
  show _ ∧ _
  rw [hz]
  have he : IsEnum ((s.heap.push o).push { cls := .type "enumerate", data := .fields #[.none, .bool false, .ref s.heap.objs.size, rawInt 0, .none, .none] }) (s.heap.objs.size + 1) s.heap.objs.size 0 .none := by
    have z := Heap.get?_push_size (s.heap.push o) (o := { cls := .type "enumerate", data := .fields #[.none, .bool false, .ref s.heap.objs.size, rawInt 0, .none, .none] }) rfl
    rw [hz] at z; exact z
  refine ⟨⟨_, he, rfl⟩, h _ he (Heap.get?_push_of_some _ (Heap.get?_push_size _ B.free)) (by rw [Heap.size_push, hz]) fun b u x => Heap.get?_push_of_some _ (Heap.get?_push_of_some _ x)⟩
/-- the tuple at a, each item in a new pair -/
def IteT (K : Fg) (a : Addr) : It where
  go := fun i H => ∃ (xs : List V) (x : V), SqT K H a xs ∧ xs[i]? = some x
  yld := fun i H v H' => ∃ T x, v = .ref T ∧ H T = none ∧ H' = upd H T (.tup [.int (i : Nat), x]) ∧ ∀ xs, SqT K H a xs → xs[i]? = some x
  stop := fun i H => ∃ xs : List V, SqT K H a xs ∧ xs.length ≤ i
theorem turn_enumT {P : Program} {w : World} {K : Fg} {elts : List Expr} {kk : Nat} {tpos : Pos} (a e it : Addr) :
    Turn P w K (.Tuple elts kk tpos) (IteT K a) [e, it] e (fun i h => (∃ old, IsEnum h e it ((i : Nat) : Int) old) ∧ h.IsTupleIter it a i ∧ e ≠ it) where
  mem := by simp
  obj := fun i h st b hb => by
    obtain ⟨⟨old, he⟩, ⟨o, ho, hc, hd⟩, _⟩ := st; have e' : b = e ∨ b = it := by simpa using hb
    rcases e' with z | z
    · rw [z]; exact ⟨_, he, fun v q => by cases q⟩
    · rw [z]; exact ⟨o, ho, fun v q => by rw [hd] at q; exact nomatch q⟩
  keep := fun i h h' st k => let ⟨⟨old, he⟩, hi, hne⟩ := st; ⟨⟨old, k e (by simp) _ he⟩, hi.at fun o q => k it (List.mem_cons_of_mem _ (List.mem_singleton.mpr rfl)) o q, hne⟩
  item := by
    intro X hP hw hK hc i pins s σ H E I hf st hg; subst hP hw hK
    obtain ⟨⟨old, he⟩, hit, hne⟩ := st; obtain ⟨xs, x, hq, hx⟩ := hg; obtain ⟨its, rv, p, hz⟩ := I.tuple hq
    obtain ⟨u, hu, ru⟩ := rv.get hx; have hel : e < s.heap.objs.size := Heap.lt_size he
    have hil : it < s.heap.objs.size := by obtain ⟨_, q, _⟩ := hit; exact Heap.lt_size q
    have hal : a ≠ it := fun z => by
      obtain ⟨o1, g1, c1, _⟩ := p; obtain ⟨o2, g2, c2, _⟩ := hit
      rw [z, g2] at g1; cases g1; rw [c2] at c1; exact absurd c1 (by decide)
    have hae : a ≠ e := fun z => by
      obtain ⟨o1, g1, c1, _⟩ := p
      rw [z, he] at g1; cases g1; exact absurd (show Value.type "enumerate" = Value.type "tuple" from c1) (by decide)
    have DT := Draws.tuple (prog := X.prog) (w := X.w) (A := X.A.in1) (I.ok.hd hc) it a hal its.toArray
    refine wpAny_pyNext_enum_itemD DT he ⟨hit, p⟩ (by have := rv.length; have h3 := (List.getElem?_eq_some_iff.mp hx).1; rw [List.size_toArray]; omega) hne (by simp [hne, Ne.symm hae]) fun y h' tk hy ho hst' hT hsz hk => ?_
    obtain rfl : u = y := by
      rw [List.getElem?_toArray, hu] at hy; exact Option.some.inj hy
    obtain ⟨hit', _⟩ := hst'
    refine ⟨_, rfl, wpAny_letOwnedTupleGo_enum (s := { s with heap := h', toks := tk + 1 }) ho fun h'' he' sb => ?_⟩
    have hT2 : h''.get? s.heap.objs.size = some { cls := .type "tuple", data := .seq #[.int i tk, u] } := (sb.2 _ (Nat.ne_of_gt hel)).trans hT
    have new : ObjOk X.prog X.w (upd H s.heap.objs.size (.tup [.int (i : Nat), x])) h'' s.heap.objs.size (.tup [.int (i : Nat), x]) :=
      ⟨by show 2 ≤ sizeLine; decide, [.int i tk, u], .cons ⟨_, rfl⟩ (.cons ru .nil), ⟨_, hT2, rfl, _, rfl⟩⟩
    have I1 : Inv X pins σ (upd H s.heap.objs.size (.tup [.int (i : Nat), x])) { s with heap := h'', toks := tk + 1 } :=
      I.turnedNew (ch := [e, it]) (fun b ob hb q => (sb.2 b (fun z => hb (by simp [z]))).trans (hk b ob (fun z => hb (by simp [z])) (fun z => hb (by simp [z])) q)) hf (Nat.le_refl _) new
    refine ⟨.ref s.heap.objs.size, _, I1, rfl, ⟨_, x, rfl, I.hok.fresh (Nat.le_refl _), rfl, fun ys hy2 => by rw [I.tuple_inj hy2 hq]; exact hx⟩, ⟨⟨u, ?_⟩, hit'.at fun o q => (sb.2 it (Ne.symm hne)).trans q, hne⟩, fun b hb => ?_⟩
    · rw [show ((i + 1 : Nat) : Int) = (i : Int) + 1 by omega]; exact he'
    · have hb' : b < s.heap.objs.size := by
        have e' : b = e ∨ b = it := by simpa using hb
        rcases e' with z | z
        · rw [z]; exact hel
        · rw [z]; exact hil
      rw [upd_ne (Nat.ne_of_lt hb')]; exact (hf b hb).1
  done := by
    intro X hP hw hK hc i pins s σ H E I hf st hg; subst hP hw hK
    obtain ⟨⟨old, he⟩, hit, hne⟩ := st; obtain ⟨xs, hq, hx⟩ := hg; obtain ⟨its, rv, p, hz⟩ := I.tuple hq
    obtain ⟨f0, f1, f2, f3, f4, f5⟩ := hf it (by simp); have hl := rv.length
    have hal : a ≠ it := fun z => by
      obtain ⟨o1, g1, c1, _⟩ := p; obtain ⟨o2, g2, c2, _⟩ := hit
      rw [z, g2] at g1; cases g1; rw [c2] at c1; exact absurd c1 (by decide)
    have hT : s.TypeIs (.ref e) "enumerate" := ⟨_, he, rfl⟩
    unfold pyNext
    refine wpAny_bind (wpAny_attempt (wpAny_callSpecial?_slot (name := Str.ofString "__next__") hT F.slot_enumerate_next (wpAny_call_entry F.slot_enumerate_next hT F.entry_enumerate_next ?_ (F.args_enumerate_next_1 _))))
    show wpAny _ _ (field (.ref e) 2 >>= _) _ _ _
    refine wpAny_bind (wpAny_field he rfl (x := .ref it) rfl ?_)
    refine wpAny_bind (wpAny_nextOf_tuple_end (I.ok.hd hc) hit p (by simp; omega) fun h' x he' hx' => ?_)
    obtain ⟨o, ho, hc'⟩ := hx'
    refine wpAny_bind (wpAny_isInstance (T := "StopIteration") (b := true) ⟨o, ho, hc'⟩ isSubtype_stop ?_)
    exact wpAny_pure ⟨rfl, I.turned (t' := s.toks) (fun b o hb q => he' b o hb q) f0 f1 f3 f4 f5⟩
  self := fun A i s Q E st h => let ⟨⟨_, he⟩, _⟩ := st; wpAny_pyIter_enum he h
def iEnumT (K : Fg) (ta : TA) : TI := fun σ H R => ta σ H fun vs H1 => ∃ a xs, vs = [.ref a] ∧ SqT K H1 a xs ∧ R (IteT K a) H1
theorem pi_enumT {X : Cx} {e : Expr} {ta : TA} {p pos tpos : Pos} {elts : List Expr} {kk : Nat} (hg : Gl X "enumerate") (hm : X.mg "enumerate" = none) (ha : PA X [e] ta) (hs : starEach [e] X.env = [(false, eval e X.env)]) :
    PI X (.Tuple elts kk tpos) (.Call (.Name "enumerate" p) [e] [] pos) (iEnumT X.K ta) := by
  refine ⟨fun pins s σ H R I h => Call_ (ld_blt I hg hm boot_enumerate (PyProof.Rows.callWith_type1 (thn (ha.run pos pins s σ H _ I h) fun us s1 ⟨vs, H1, I1, r1, q1⟩ => ?_) hs rfl))⟩
  obtain ⟨a, xs, ex, hq, q⟩ := q1; subst ex
  cases r1 with
  | cons r rr =>
    cases rr; cases r
    obtain ⟨its, rv, p', hz⟩ := I1.tuple hq
    refine enum_one (begins_tuple a its.toArray) p' fun h' he hit hsz hk => wpAny_pyIter_enum he ?_
    have I2 : Inv X pins σ H1 { s1 with heap := h' } := I1.kept (t' := s1.toks) hk
    refine ⟨s1.heap.objs.size + 1, [s1.heap.objs.size + 1, s1.heap.objs.size], _, _, H1, rfl, I2, turn_enumT a (s1.heap.objs.size + 1) s1.heap.objs.size, ⟨⟨.none, he⟩, ⟨_, hit, rfl, rfl⟩, Nat.succ_ne_self _⟩, fun b hb => ?_, q⟩
    have e' : b = s1.heap.objs.size + 1 ∨ b = s1.heap.objs.size := by simpa using hb
    have hle : s1.heap.objs.size ≤ b := by
      rcases e' with z | z
      · rw [z]; exact Nat.le_add_right _ _
      · rw [z]; exact Nat.le_refl _
    exact I1.fpOk hle (I1.hok.fresh hle)
section
variable {K : Fg} {ι : List Addr} {M : Addr → Prop} {H : Hp}
theorem srcOk_enumT {a : Addr} {vs : List V} {xs : List D} (im : ∀ a ∈ ι, M a) (h : StT K H M a vs) (r : RepL K ι M H xs vs) : SrcOk K ι M H (enumL 0 xs) (IteT K a) := by
  intro ι' M' H' x mt' im'
  have h' := x.stT h
  have r' := RepL.advw x _ _ r
  have hl := r'.length
  rw [enumL_len]
  refine ⟨fun i hi => ⟨vs, h'.sq, by omega⟩, fun i hi => ⟨vs, vs[i]'(by omega), h'.sq, List.getElem?_eq_getElem _⟩, fun i y H2 d e hy => ?_⟩
  obtain ⟨T, z, rfl, hT, rfl, hz⟩ := hy
  obtain ⟨e', h1, rfl⟩ := enumL_get 0 xs i d e
  obtain ⟨d', e3, e4⟩ := RepL.back r' (hz vs h'.sq)
  rw [h1] at e3
  cases e3
  refine ⟨.inr ⟨T, _, hT, rfl⟩, pair_rep mt' im' hT ?_ e4⟩
  show V.int (i : Nat) = V.int ((0 + i : Nat) : Int)
  rw [Nat.zero_add]
end
section
variable {X : Cx} {pn : Pz} {W : WX} {kk : Nat} {Φ : Phi}
theorem ei_enum {N : List Str} {tx : Tx} {calm : Bool} {sc : Scope} (c : CG kk Φ N tx calm sc pn W X) {e : Expr} {f : Env → Store → R D} {p pos tpos : Pos} {elts : List Expr} {k : Nat} (h2 : glB sc "enumerate" = true) (hp : plainB e = true) (he : EE X pn W e f) :
    EI X pn W (.Tuple elts k tpos) (.Call (.Name "enumerate" p) [e] [] pos) (fun ρ S => (f ρ S).bind fun d S => match stillOf d with | some xs => .ok (.items (enumL 0 xs)) S | none => .bad) := by
  have ha : PA X [e] _ := pa_cons he pa_nil (star_of hp)
  refine ⟨fun pins s σ H Q I ⟨ι, M, ρ, S, sr, sl, p0⟩ => ?_⟩
  by_cases ht : ∃ xs S', f ρ S = .ok (.tup xs) S'
  · obtain ⟨xs0, S0, e0⟩ := ht
    refine (pi_enumT (c.gl h2) c.g.rng.2.1 ha (star_of hp)).run pins s σ H Q I ?_
    refine tG.ofE sr sl p0 fun d S1 x ι1 M1 H1 e1 a1 sr1 sl1 r1 p1 => ?_
    rw [e0] at e1
    cases e1
    obtain ⟨a, vs, rfl, h1, h2, h3⟩ := r1
    exact ⟨a, vs, rfl, h1.sq, p1 _ ι1 M1 H1 .refl sr1 ⟨srcOk_enumT sr1.im h1 h3, by rw [enumL_len]; exact h2⟩⟩
  · refine (pi_enum (c.gl h2) c.g.rng.2.1 ha (star_of hp)).run pins s σ H Q I ?_
    refine tG.ofE sr sl p0 fun d S1 x ι1 M1 H1 e1 a1 sr1 sl1 r1 p1 => ?_
    cases d with
    | tup xs => exact absurd ⟨xs, S1, e1⟩ ht
    | lst xs =>
      obtain ⟨a, vs, rfl, h1, h2, h3⟩ := r1
      exact ⟨a, vs, rfl, h1.sq, p1 _ ι1 M1 H1 .refl sr1 ⟨srcOk_enumL sr1.im h1 h3, by rw [enumL_len]; exact h2⟩⟩
    | _ => exact PostG.bad p1
end
end Mp
/-! a tuple turned round -/
namespace HT
open PySem PySem.Spec PyProof.Rows L2
section
variable {prog : Program} {w : World} {A : Around} {E : Value → Shared → Prop} {s : Shared}
theorem adjust_rev (n : Nat) : Builtin.Slice.sliceAdjust none none (-1) (n : Int) = ((n : Int) - 1, -1) := by
  unfold Builtin.Slice.sliceAdjust
  simp
theorem places_rev (n : Nat) : Builtin.Slice.slicePlaces ((n : Int) - 1) (-1) (-1) = n := by
  unfold Builtin.Slice.slicePlaces
  have h1 : ¬ ((-1 : Int) > 0) := by omega
  simp only [h1, if_false, Int.neg_neg, Int.ediv_one]
  split <;> omega
theorem fm_map {α β : Type} {f : α → Option β} {g : α → β} : ∀ {l : List α}, (∀ m ∈ l, f m = some (g m)) → l.filterMap f = l.map g
  | [], _ => rfl
  | a :: l, h => by
    rw [List.filterMap_cons, h a List.mem_cons_self, List.map_cons, fm_map fun m hm => h m (List.mem_cons_of_mem _ hm)]
theorem sliceApplied_rev {sl : Addr} {vl vu vs : Value} {n : Nat} {Q : Int × Int × Nat → Shared → Prop} (hs : s.heap.IsSliceOf sl vl vu vs) (pl : IsPart vl none) (pu : IsPart vu none) (ps : IsPart vs (some (-1)))
    (h : Q ((n : Int) - 1, -1, n) s) : wpAny (model prog w) A (Builtin.Slice.sliceApplied (.ref sl) (pure (n : Int))) Q E s := by
  obtain ⟨os, hos, hcs, hds⟩ := id hs
  unfold Builtin.Slice.sliceApplied Builtin.Slice.sliceFields
  refine wpAny_bind (wpAny_bind (wpAny_field hos hds (x := vl) rfl (wpAny_bind (wpAny_field hos hds (x := vu) rfl (wpAny_bind (wpAny_field hos hds (x := vs) rfl (wpAny_pure ?_)))))))
  refine wpAny_bind (slicePart_ ps ?_)
  show wpAny _ _ (if ((-1 : Int) == 0) = true then _ else _) _ _ s
  rw [if_neg (by decide)]
  refine wpAny_bind (slicePart_ pl (wpAny_bind (slicePart_ pu (wpAny_bind (wpAny_pure ?_)))))
  show wpAny _ _ (match Builtin.Slice.sliceAdjust none none (-1) (n : Int) with | (lo, hi) => pure (lo, (-1 : Int), Builtin.Slice.slicePlaces lo hi (-1))) _ _ s
  rw [adjust_rev n]
  show wpAny _ _ (pure ((n : Int) - 1, (-1 : Int), Builtin.Slice.slicePlaces ((n : Int) - 1) (-1) (-1))) _ _ s
  rw [places_rev]
  exact wpAny_pure h
theorem pick_rev (xs : Array Value) : ((List.range xs.size).filterMap fun (m : Nat) => xs[((xs.size : Int) - 1 + (m : Int) * (-1)).toNat]?).toArray = xs.toList.reverse.toArray := by
  congr 1
  have e : (List.range xs.size).filterMap (fun (m : Nat) => xs[((xs.size : Int) - 1 + (m : Int) * (-1)).toNat]?) = (List.range xs.size).map fun m => xs[xs.size - 1 - m]! := by
    refine fm_map fun m hm => ?_
    have hm := List.mem_range.mp hm
    have e1 : ((xs.size : Int) - 1 + (m : Int) * (-1)).toNat = xs.size - 1 - m := by omega
    rw [e1]
    have hlt : xs.size - 1 - m < xs.size := by omega
    rw [Array.getElem?_eq_getElem hlt, getElem!_pos xs _ hlt]
  rw [e]
  refine List.ext_getElem (by simp) fun i h1 h2 => ?_
  have hi : i < xs.size := by simpa using h1
  simp [show xs.size - 1 - i < xs.size by omega]
theorem getItem_tuple_rev {t sl : Addr} {items : Array Value} {vl vu vs : Value} {Q : Value → Shared → Prop} (ht : IsTup s.heap t items) (hs : s.heap.IsSliceOf sl vl vu vs) (pl : IsPart vl none) (pu : IsPart vu none) (ps : IsPart vs (some (-1)))
    (h : Q (.ref s.heap.objs.size) { s with heap := s.heap.push { cls := .type "tuple", data := .seq items.toList.reverse.toArray } })
    (hsz : items.size ≤ sizeLine) : wpAny (model prog w) A (getItem (.ref t) (.ref sl)) Q E s := by
  have htake : sizeOk (.seq items.toList.reverse.toArray) := by
    show items.toList.reverse.toArray.size ≤ sizeLine
    simpa using hsz
  obtain ⟨os, hos, hcs, hds⟩ := id hs
  have hTs : s.TypeIs (.ref sl) "slice" := ⟨os, hos, hcs⟩
  unfold getItem
  try with_reducible refine wpAny_holding ?_
  first | refine wpAny_bind (wpAny_pure ?_) | skip
  refine wpAny_bind (wpAny_sequenceKey ht.typeIs (by decide) ?_)
  refine wpAny_bind (wpAny_callSpecial?_slot (name := Str.ofString "__getitem__") ht.typeIs PyProof.Rows.slot_tuple_getitem
    (wpAny_call_entry PyProof.Rows.slot_tuple_getitem ht.typeIs entry_tuple_getitem ?_ (args_tuple_getitem _ _)))
  show wpAny _ _ (Builtin.Tuple.tupleItemsOf (.ref t) >>= _) _ _ s
  refine wpAny_bind (tupleItemsOf_ ht ?_)
  refine wpAny_bind (wpAny_typeOf hTs ?_)
  rw [if_pos (by decide)]
  refine wpAny_bind (sliceApplied_rev hs pl pu ps ?_)
  have hno : ¬ (((((items.size : Int) - 1) : Int) == 0 && (-1 : Int) == 1 && items.size == items.size) = true) := by
    intro q
    rw [Bool.and_eq_true, Bool.and_eq_true] at q
    exact absurd q.1.2 (by decide)
  show wpAny _ _ (if ((((items.size : Int) - 1) : Int) == 0 && (-1 : Int) == 1 && items.size == items.size) = true then _ else _) _ _ s
  rw [if_neg hno, pick_rev]
  first
    | exact wpAny_bind (m := Builtin.Tuple.tupleExact _) (wpAny_newObj_type (wpAny_pure ⟨_, rfl, wpAny_pure h⟩) htake)
    | exact wpAny_bind (m := Builtin.Tuple.tupleExact _) (wpAny_newObj_type (wpAny_bind (wpAny_pure (wpAny_pure ⟨_, rfl, wpAny_pure h⟩))) htake)
    | exact wpAny_bind (wpAny_bind (m := Builtin.Tuple.tupleExact _) (wpAny_newObj_type (wpAny_pure (wpAny_pure ⟨_, rfl, wpAny_pure h⟩)) htake))
    | exact wpAny_bind (wpAny_bind (m := Builtin.Tuple.tupleExact _) (wpAny_newObj_type (wpAny_pure ⟨_, rfl, wpAny_pure h⟩) htake))
end
end HT
namespace L2
open PySem PySem.Spec PyProof.Rows
def tRevT (K : PySem.W.Frag) (te : TE) : TE := fun σ H Q => te σ H fun x H1 => ∃ a xs, x = .ref a ∧ ((SqL K H1 a xs ∧ ∀ p, H1 p = none → Q (.ref p) (upd H1 p (.lst xs.reverse))) ∨ (SqT K H1 a xs ∧ ∀ p, H1 p = none → Q (.ref p) (upd H1 p (.tup xs.reverse))))
section
variable {X : Cx}
theorem pe_revT {e : Expr} {te : TE} {k : Nat} {p1 p2 p3 pos : Pos} (he : PE X e te) : PE X (.Subscript e (.Slice none none (some (.UnaryOp .USub (.Constant (.int 1) k p1) p2)) p3) pos) (tRevT X.K te) := by
  refine ⟨fun pins s σ H Q I h => ?_⟩
  refine Subscript_ (thn (he.run pins s σ H _ I h) fun v s1 ⟨x, H1, I1, r1, q1⟩ => ?_)
  obtain ⟨a, xs, ex, hx⟩ := q1
  subst ex
  cases r1
  have hst : PO X (some (.UnaryOp .USub (.Constant (.int 1) k p1) p2)) (tPart (tUn (rU fun i => .int (-i)) (tC (.int 1)))) := po_some (pe_un un_neg pe_int)
  refine wpAny_Slice (thn (po_none.run pins s1 σ H1 (fun o H2 => o = none ∧ H2 = H1) I1 ⟨rfl, rfl⟩) fun vl s2 ⟨l, H2, I2, pl, el, e2⟩ => ?_)
  subst el e2
  refine thn (po_none.run pins s2 σ H2 (fun o H3 => o = none ∧ H3 = H2) I2 ⟨rfl, rfl⟩) fun vu s3 ⟨u, H3, I3, pu, eu, e3⟩ => ?_
  subst eu e3
  refine thn (hst.run pins s3 σ H3 (fun o H4 => o = some (-1) ∧ H4 = H3) I3 ⟨1, rfl, -1, rfl, rfl, rfl⟩) fun vs s4 ⟨o, H4, I4, ps, eo, e4⟩ => ?_
  subst eo e4
  have I5 : Inv X pins σ H4 { s4 with heap := s4.heap.push { cls := .type "slice", data := .fields #[vl, vu, vs] } } := I4.kept (t' := s4.toks) fun b ob q => Heap.get?_push_of_some _ q
  show wpAny (model X.prog X.w) X.A (subscriptTail e (.Slice none none (some (.UnaryOp .USub (.Constant (.int 1) k p1) p2)) p3) (.ref a) (.ref s4.heap.objs.size)) (EP X pins σ Q) X.xe { s4 with heap := s4.heap.push { cls := .type "slice", data := .fields #[vl, vu, vs] } }
  rcases hx with ⟨hx, q⟩ | ⟨hx, q⟩
  · obtain ⟨its, r, ht, hz⟩ := I5.list hx
    have hlen := r.length
    refine tail_any (ops := [.ref a, .ref s4.heap.objs.size]) ht.isList.typeIs (PySem.slot_list_getitem.lookup) ?_ (by with_unfolding_all rfl)
    refine wpAny_getItem_list_slice ht.isList (Heap.IsSliceOf.new _ vl vu vs) pl pu ps (by decide) ?_ (by rw [List.size_toArray]; omega)
    rw [PySem.W.krv_pick]
    refine ⟨.ref _, _, I5.laid (t' := s4.toks) (o := .lst xs.reverse) (fun b ob q => Heap.get?_push_of_some _ q) (Nat.le_refl _) ?_, rfl, q _ (I5.hok.fresh (Nat.le_refl _))⟩
    exact ⟨by rw [List.length_reverse]; exact hz, _, 0, r.reverse, Heap.get?_push_size _ rfl⟩
  · obtain ⟨its, r, ht, hz⟩ := I5.tuple hx
    have hlen := r.length
    refine tail_any (ops := [.ref a, .ref s4.heap.objs.size]) ht.typeIs (PyProof.Rows.slot_tuple_getitem.lookup) ?_ (by with_unfolding_all rfl)
    refine HT.getItem_tuple_rev ht (Heap.IsSliceOf.new _ vl vu vs) pl pu ps ?_ (by rw [List.size_toArray]; omega)
    refine ⟨.ref _, _, I5.laid (t' := s4.toks) (o := .tup xs.reverse) (fun b ob q => Heap.get?_push_of_some _ q) (Nat.le_refl _) ?_, rfl, q _ (I5.hok.fresh (Nat.le_refl _))⟩
    exact ⟨by rw [List.length_reverse]; exact hz, _, r.reverse, IsTup.new _ _⟩
end
end L2
/-! Mp, part S3: a written dict of one entry; it stands empty while its value is made. -/
namespace Mp
open PySem PySem.Spec PyProof.Rows L2
section
variable {K : Fg} {ι ι' : List Addr} {M M' : Addr → Prop} {H : Hp} {p : Addr} {kv0 : List (Key × V)} {ho : HO}
theorem StT.updK (hp : H p = some (.dK kv0)) (hn : ∀ a, M' a → M a ∨ a = p) {a : Addr} {vs : List V} (h : StT K H M a vs) : StT K (upd H p ho) M' a vs := by
  rcases h with ⟨h | ⟨o, h⟩, h2⟩ | h
  · have ne : a ≠ p := fun e => by rw [e, hp] at h; cases h
    exact .inl ⟨.inl (by rw [upd_ne ne]; exact h), fun z => (hn a z).elim h2 ne⟩
  · have ne : a ≠ p := fun e => by rw [e, hp] at h; cases h
    exact .inl ⟨.inr ⟨o, by rw [upd_ne ne]; exact h⟩, fun z => (hn a z).elim h2 ne⟩
  · exact .inr h
theorem StL.updK (hp : H p = some (.dK kv0)) (hn : ∀ a, M' a → M a ∨ a = p) {a : Addr} {vs : List V} (h : StL K H M a vs) : StL K (upd H p ho) M' a vs := by
  refine h.mono fun h h2 => ?_
  rcases h with h | ⟨o, h⟩
  · have ne : a ≠ p := fun e => by rw [e, hp] at h; cases h
    exact ⟨.inl (by rw [upd_ne ne]; exact h), fun z => (hn a z).elim h2 ne⟩
  · have ne : a ≠ p := fun e => by rw [e, hp] at h; cases h
    exact ⟨.inr ⟨o, by rw [upd_ne ne]; exact h⟩, fun z => (hn a z).elim h2 ne⟩
mutual
theorem Rep.updK (hp : H p = some (.dK kv0)) (hn : ∀ a, M' a → M a ∨ a = p) (hi : ∃ r, ι' = ι ++ r) : ∀ (d : D) (v : V), Rep K ι M H d v → Rep K ι' M' (upd H p ho) d v
  | .non, v, h => h
  | .bl _, v, h => h
  | .int _, v, h => h
  | .str _, v, h => h
  | .ty _, v, h => h
  | .tup xs, v, h => by
    obtain ⟨a, vs, e, h1, h2, h3⟩ := h
    exact ⟨a, vs, e, h1.updK hp hn, h2, RepL.updK hp hn hi xs vs h3⟩
  | .lst xs, v, h => by
    obtain ⟨a, vs, e, h1, h2, h3⟩ := h
    exact ⟨a, vs, e, h1.updK hp hn, h2, RepL.updK hp hn hi xs vs h3⟩
  | .dic ks ds, v, h => by
    obtain ⟨a, o, kvs, e, h1, h3, h4⟩ := h
    have ne : a ≠ p := fun e => by rw [e, hp] at h1; cases h1.1
    exact ⟨a, o, kvs, e, ⟨by rw [upd_ne ne]; exact h1.1, fun z => (hn a z).elim h1.2 ne⟩, h3, RepL.updK hp hn hi ds _ h4⟩
  | .ref n, v, h => by
    obtain ⟨a, e, h1⟩ := h
    obtain ⟨r, er⟩ := hi
    refine ⟨a, e, ?_⟩
    rw [er, List.getElem?_append_left (List.getElem?_eq_some_iff.mp h1).1]
    exact h1
  | .exc .., v, h => h.elim
theorem RepL.updK (hp : H p = some (.dK kv0)) (hn : ∀ a, M' a → M a ∨ a = p) (hi : ∃ r, ι' = ι ++ r) : ∀ (ds : List D) (vs : List V), RepL K ι M H ds vs → RepL K ι' M' (upd H p ho) ds vs
  | [], vs, h => h
  | d :: ds, vs, h => by
    obtain ⟨v, r, e, h1, h2⟩ := h
    exact ⟨v, r, e, Rep.updK hp hn hi d v h1, RepL.updK hp hn hi ds r h2⟩
end
theorem ORep.updK (hp : H p = some (.dK kv0)) (hn : ∀ a, M' a → M a ∨ a = p) (hi : ∃ r, ι' = ι ++ r) {o : O} {a : Addr} (ne : a ≠ p) (h : ORep K ι M H o a) : ORep K ι' M' (upd H p ho) o a := by
  cases o with
  | lst xs =>
    obtain ⟨vs, h1, h2, h3⟩ := h
    exact ⟨vs, by rw [upd_ne ne]; exact h1, h2, RepL.updK hp hn hi _ _ h3⟩
  | dic ks ds =>
    obtain ⟨kvs, h1, h2, h3⟩ := h
    exact ⟨kvs, by rw [upd_ne ne]; exact h1, h2, RepL.updK hp hn hi _ _ h3⟩
  | lok ks ds =>
    obtain ⟨o, kvs, h1, h2, h3⟩ := h
    exact ⟨o, kvs, by rw [upd_ne ne]; exact h1, h2, RepL.updK hp hn hi _ _ h3⟩
/-- the empty dict, set aside, becomes a thing that nobody may change -/
theorem SR.updK {S : Store} (s : SR K ι M H S) (hp : H p = some (.dK kv0)) (nm : ¬ M p) : SR K ι M (upd H p ho) S where
  len := s.len
  nd := s.nd
  im := s.im
  mt := fun a h => by
    have ne : a ≠ p := fun e => nm (e ▸ h)
    rw [upd_ne ne]
    exact s.mt a h
  obj := fun n o a h1 h2 => ORep.updK hp (fun _ z => .inl z) ⟨[], by simp⟩ (fun e => nm (e ▸ s.im a (List.mem_of_getElem? h2))) (s.obj n o a h1 h2)
/-- or it joins the store -/
theorem SR.growK {S : Store} (s : SR K ι M H S) (hp : H p = some (.dK kv0)) (nm : ¬ M p) {o : O} (new : ORep K (ι ++ [p]) (fun a => M a ∨ a = p) (upd H p ho) o p) : SR K (ι ++ [p]) (fun a => M a ∨ a = p) (upd H p ho) (S ++ [o]) where
  len := by rw [List.length_append, List.length_append, s.len]; rfl
  nd := by
    rw [List.nodup_append]
    refine ⟨s.nd, by simp, fun a ha b hb e => ?_⟩
    rw [List.mem_singleton.mp hb] at e
    exact nm (e ▸ s.im a ha)
  im := fun a h => by
    rcases List.mem_append.mp h with h | h
    · exact .inl (s.im a h)
    · exact .inr (List.mem_singleton.mp h)
  mt := fun a h => by
    by_cases e : a = p
    · rw [e, upd_same]; simp
    · rw [upd_ne e]
      exact s.mt a (h.elim id fun z => absurd z e)
  obj := fun n u a h1 h2 => by
    by_cases hn : n < S.length
    · rw [List.getElem?_append_left hn] at h1
      rw [List.getElem?_append_left (by rw [s.len]; exact hn)] at h2
      exact ORep.updK hp (fun _ z => z) ⟨[p], rfl⟩ (fun e => nm (e ▸ s.im a (List.mem_of_getElem? h2))) (s.obj n u a h1 h2)
    · have hz : n = S.length := by
        have := (List.getElem?_eq_some_iff.mp h1).1
        rw [List.length_append, List.length_singleton] at this
        omega
      subst hz
      rw [List.getElem?_append_right (Nat.le_refl _), Nat.sub_self] at h1
      rw [List.getElem?_append_right (by rw [s.len]; exact Nat.le_refl _), s.len, Nat.sub_self] at h2
      obtain rfl : o = u := by simpa using h1
      obtain rfl : p = a := by simpa using h2
      exact new
/-- a new thing at a place that was free, whatever stood there between -/
theorem Adv.over {H0 : Hp} {ι0 : List Addr} {M0 : Addr → Prop} (h0 : H0 p = none) {o0 : HO} (x : Adv ι0 M0 (upd H0 p o0) ι M H) {ι1 : List Addr} {M1 : Addr → Prop} (hi : ∃ r, ι1 = ι ++ r) (mm : ∀ a, M a → M1 a) (hn : ∀ a, M1 a → M a ∨ a = p) (hm : ∀ a ∈ ι1, a ∈ ι ∨ a = p) :
    Adv ι0 M0 H0 ι1 M1 (upd H p ho) where
  pre := by
    obtain ⟨r, e⟩ := x.pre
    obtain ⟨q, e'⟩ := hi
    exact ⟨r ++ q, by rw [e', e, List.append_assoc]⟩
  mm := fun a h => mm a (x.mm a h)
  keep := fun a o h hn => by
    have ne : a ≠ p := fun e => by rw [e, h0] at h; cases h
    rw [upd_ne ne]
    exact x.keep a o (by rw [upd_ne ne]; exact h) hn
  fresh := fun a h => by
    by_cases e : a = p
    · exact .inr (e ▸ h0)
    · rcases hn a h with z | z
      · rcases x.fresh a z with z | z
        · exact .inl z
        · rw [upd_ne e] at z
          exact .inr z
      · exact absurd z e
  dom := fun a h => by
    by_cases e : a = p
    · rw [e, upd_same]; simp
    · rw [upd_ne e]
      exact x.dom a (by rw [upd_ne e]; exact h)
  newi := fun a h => by
    by_cases e : a = p
    · exact .inr (e ▸ h0)
    · rcases hm a h with z | z
      · rcases x.newi a z with z | z
        · exact .inl z
        · rw [upd_ne e] at z
          exact .inr z
      · exact absurd z e
  frzk := fun a o u h => by
    have ne : a ≠ p := fun e => by rw [e, h0] at h; cases h
    rw [upd_ne ne]
    exact x.frzk a o u (by rw [upd_ne ne]; exact h)
end
section
variable {X : Cx} {pn : Pz} {W : WX} {Φ : Phi}
theorem ee_dic1 (fz : Bool) {k : Key} {c : Const} {kn : Nat} {kp : Pos} {ve : Expr} {e : E} {pos : Pos} (hk : constB (keyD k) c = true) (he : EE X pn W ve (evE Φ e)) :
    EE X pn W (.Dict [some (.Constant c kn kp)] [ve] pos) (evE Φ (.dic fz [k] (.cons e .nil))) := by
  have ev : evE Φ (.dic fz [k] (.cons e .nil)) = fun ρ S => (evE Φ e ρ S).bind fun x S => if fz then .ok (.dic [k] [x]) S else .ok (.ref S.length) (S ++ [.dic [k] [x]]) := by
    funext ρ S
    simp only [evE, evEs]
    cases evE Φ e ρ S with
    | ok d S' => exact if_pos (e := R.bad) (⟨rfl, by show 1 ≤ 15; omega, by simp⟩ : [d].length = [k].length ∧ [d].length ≤ 15 ∧ [k].Nodup)
    | exc => rfl
    | bad => rfl
  rw [ev]
  refine ⟨fun pins s σ H Q I ⟨ι, M, ρ, S, sr, sl, p⟩ => ?_⟩
  have p : PostE X.K X.mg W σ ι M H ((evE Φ e ρ S).bind fun x S => if fz then .ok (.dic [k] [x]) S else .ok (.ref S.length) (S ++ [.dic [k] [x]])) Q := p
  have run : ∀ (Q2 : V → Hp → Prop), (∀ q ι1 M1 H1 d S1 v, H q = none → evE Φ e ρ S = .ok d S1 → Adv ι M (upd H q (.dK [])) ι1 M1 H1 → SR X.K ι1 M1 H1 S1 → Rep X.K ι1 M1 H1 d v → Q2 (.ref q) (upd H1 q (.dK [(k, v)]))) →
      wpAny (model X.prog X.w) X.A (eval (.Dict [some (.Constant c kn kp)] [ve] pos) X.env) (EP X pins σ Q2) X.xe s := fun Q2 hQ => by
    refine (pe_disp (pps_cons (ee_k (W := W) (pn := pn) hk) he pps_nil) rfl rfl (fun z => by cases z) (by show 1 ≤ 15; omega)).run pins s σ H Q2 I fun q hq => ?_
    have x0 := Adv.new (ι := ι) q (.dK []) hq sr.mt
    refine ⟨ι, M, ρ, S, sr.new hq, sl.adv x0 sr.im, fun kv ι1 M1 H1 x1 sr1 rk => ?_⟩
    have ek : kv = kV k := by cases k <;> exact rk
    refine ⟨ι1, M1, ρ, S, sr1, (sl.adv x0 sr.im).adv x1 sr.im, ?_⟩
    have nq : q ∉ ι := fun z => sr.mt q (sr.im q z) hq
    cases er : evE Φ e ρ S with
    | ok d S1 =>
      intro v ι2 M2 H2 x2 sr2 rv
      have x12 := x1.trans x2
      exact ⟨x12.keep q _ upd_same nq, [(k, v)], by rw [ek]; rfl, by show 1 ≤ 15; omega, hQ q ι2 M2 H2 d S1 v hq er x12 sr2 rv⟩
    | exc cc fs vs S1 =>
      intro cls dd ι2 M2 H2 x2 sr2 xr
      rw [er] at p
      exact p cls dd ι2 M2 H2 (x0.trans (x1.trans x2)) sr2 xr
    | bad =>
      rw [er] at p
      exact p.bad
  have nM : ∀ {q ι1 M1 H1}, H q = none → Adv ι M (upd H q (.dK [])) ι1 M1 H1 → ¬ M1 q := fun hq x z => (x.fresh _ z).elim (fun z => sr.mt _ z hq) fun z => by rw [upd_same] at z; cases z
  have at_ : ∀ {q ι1 M1 H1}, H q = none → Adv ι M (upd H q (.dK [])) ι1 M1 H1 → H1 q = some (.dK []) := fun hq x => x.keep _ _ upd_same fun z => sr.mt _ (sr.im _ z) hq
  cases fz with
  | false =>
    refine run Q fun q ι1 M1 H1 d S1 v hq er x1 sr1 rv => ?_
    rw [er] at p
    have p : PostE X.K X.mg W σ ι M H (.ok (.ref S1.length) (S1 ++ [.dic [k] [d]])) Q := p
    have hp := at_ hq x1
    have x3 : Adv ι M H (ι1 ++ [q]) (fun a => M1 a ∨ a = q) (upd H1 q (.dK [(k, v)])) := Adv.over hq x1 ⟨[q], rfl⟩ (fun _ h => .inl h) (fun _ h => h) (fun a h => by simpa using h)
    refine p _ _ _ _ x3 (sr1.growK hp (nM hq x1) ⟨[(k, v)], upd_same, rfl, RepL.one (Rep.updK hp (fun _ h => h) ⟨[q], rfl⟩ _ _ rv)⟩) ⟨q, rfl, ?_⟩
    rw [List.getElem?_append_right (by rw [sr1.len]; exact Nat.le_refl _), sr1.len, Nat.sub_self]
    rfl
  | true =>
    refine thn (run (fun w H' => ∃ q ι1 M1 H1 d S1 v, H q = none ∧ evE Φ e ρ S = .ok d S1 ∧ Adv ι M (upd H q (.dK [])) ι1 M1 H1 ∧ SR X.K ι1 M1 H1 S1 ∧ Rep X.K ι1 M1 H1 d v ∧ w = .ref q ∧ H' = upd H1 q (.dK [(k, v)])) fun q ι1 M1 H1 d S1 v h1 h2 h3 h4 h5 => ⟨q, ι1, M1, H1, d, S1, v, h1, h2, h3, h4, h5, rfl, rfl⟩) fun w s1 ⟨x, H', I1, r, q, ι1, M1, H1, d, S1, v, hq, er, x1, sr1, rv, ex, eH⟩ => ?_
    subst ex
    subst eH
    obtain ⟨od, I2⟩ := I1.lock (u := .dK [(k, v)]) upd_same True.intro
    have eu : upd (upd H1 q (.dK [(k, v)])) q (.frz od (.dK [(k, v)])) = upd H1 q (.frz od (.dK [(k, v)])) := by
      funext b
      by_cases e : b = q
      · rw [e, upd_same, upd_same]
      · rw [upd_ne e, upd_ne e, upd_ne e]
    rw [eu] at I2
    rw [er] at p
    have p : PostE X.K X.mg W σ ι M H (.ok (.dic [k] [d]) S1) Q := p
    have hp := at_ hq x1
    exact ⟨.ref q, _, I2, r, p _ _ _ _ (Adv.over hq x1 ⟨[], by simp⟩ (fun _ h => h) (fun _ h => .inl h) (fun a h => .inl h)) (sr1.updK hp (nM hq x1))
      ⟨q, od, [(k, v)], rfl, ⟨upd_same, nM hq x1⟩, rfl, RepL.one (Rep.updK hp (fun _ h => .inl h) ⟨[], by simp⟩ _ _ rv)⟩⟩
end
end Mp
/-! Mp, part T: an expression that matches its tree reads as its tree evaluates. -/
namespace Mp
open PySem PySem.Spec PyProof.Rows L2
theorem ownOf_snd (N : List Str) (vs : List Nat) : (ownOf N vs).map (·.2) = vs := by
  unfold ownOf
  rw [List.map_map]
  exact List.map_id' vs
theorem subB_ok {a b : List Nat} (h : subB a b = true) : ∀ j ∈ a, j ∈ b := by
  intro j hj
  have z := List.all_eq_true.mp h j hj
  obtain ⟨k, hk, e⟩ := List.any_eq_true.mp z
  rw [of_decide_eq_true e]
  exact hk
theorem blkB_ok {N : List Str} {sc scope : Scope} {vs : List Nat} (h : blkB N sc scope vs = true) : BlkOk N sc scope (ownOf N vs) := by
  unfold blkB at h
  simp only [Bool.and_eq_true] at h
  obtain ⟨⟨⟨⟨h1, h2⟩, h3⟩, h4⟩, h5⟩ := h
  refine ⟨of_decide_eq_true h1, fun y hy => of_decide_eq_true (List.all_eq_true.mp h2 y hy), fun p hp => ?_, fun y hy e => ?_, fun y hy e => ?_⟩
  · unfold ownOf at hp
    obtain ⟨i, hi, rfl⟩ := List.mem_map.mp hp
    have hlt := of_decide_eq_true (List.all_eq_true.mp h3 i hi)
    show N[i]? = some (N.getD i _)
    rw [List.getD_eq_getElem?_getD, List.getElem?_eq_getElem hlt]
    rfl
  · have z := List.all_eq_true.mp h4 y hy
    simp only [Bool.or_eq_true, Bool.not_eq_true', decide_eq_false_iff_not, decide_eq_true_eq] at z
    rcases z with (z | z) | z
    · exact absurd e z
    · exact .inl z
    · exact .inr z
  · have z := List.all_eq_true.mp h5 y hy
    simp only [Bool.or_eq_true, Bool.not_eq_true', Bool.or_eq_false_iff, decide_eq_false_iff_not] at z
    rcases z with (z | z) | z
    · exact absurd e (by rintro (e | e); exact z.1 e; exact z.2 e)
    · obtain ⟨p, hp, e2⟩ := List.any_eq_true.mp z
      refine .inl ?_
      rw [← of_decide_eq_true e2]
      exact List.mem_map_of_mem hp
    · refine .inr fun hm => ?_
      have : N.any (fun n => decide (n = y.1)) = true := List.any_eq_true.mpr ⟨y.1, hm, by simp⟩
      rw [this] at z
      cases z
section
variable {X : Cx} {pn : Pz} {W : WX} {kk : Nat} {Φ : Phi} {N : List Str} {tx : Tx} {calm : Bool} {sc : Scope}
theorem Gb.blk {P : Program} {w : World} {K : Fg} {mg : MG} {base : Heap} (g : Gb P w K mg base tx) (scope : Scope) : Gb P w K mg base (tx.blk sc scope) := ⟨g.blt, g.ty, g.gc, g.exm, g.xf, g.rng⟩
theorem takes_no : Takes X NoW := fun _ _ x => by
  obtain ⟨_, _, _, _, _, _, _, _, _, _, _, _, _, _, _, _, z⟩ := x
  exact z.elim
theorem CG.blk (c : CG kk Φ N tx calm sc pn W X) (hcalm : calm = true) (scope : Scope) (s : Shared) (H : Hp) (C : Addr) (cl : List (Str × Addr)) (fp : List Addr) :
    CG kk Φ N (tx.blk sc scope) calm (relS scope sc) pn NoW (X.blk s H scope (compEnvC scope cl C X.env) fp) where
  epn := fun h => by rw [hcalm] at h; cases h
  pn0 := c.pn0
  g := c.g.blk scope
  eN := c.eN
  nd := c.nd
  esc := by
    show relabel scope X.env = relS scope sc
    rw [← c.esc]
    rfl
  sto := fun x h => by
    have h : (decide (scope.names.lookup x = some .cell) || decide ((L2.relS scope sc).names.lookup x = some .local)) = true := h
    rw [Bool.or_eq_true, decide_eq_true_eq, decide_eq_true_eq] at h
    rcases h with h | h
    · left
      show (scope.names.lookup x == some .cell) = true
      rw [h]
      rfl
    · right
      show (relabel scope X.env).names.lookup x = _
      rw [← h, ← c.esc]
      rfl
  clm := c.clm
  hu := c.hu
  tk := takes_no
  room := c.room
  two := c.two
  ini := c.ini
  fns := c.fns
theorem mE_plain {e : E} {e' : Expr} (h : mE tx N calm sc e e' = true) : plainB e' = true := by
  cases e' <;> first | rfl | (exfalso; cases e <;> cases h)
theorem star_all {env : PySem.Env} : ∀ {es : List Expr}, (∀ e ∈ es, plainB e = true) → (assignEach es env).length = es.length ∧ (assignEach es env).findIdx? (·.1) = none
  | [], _ => ⟨rfl, rfl⟩
  | e :: es, h => by
    have h1 := h e (List.mem_cons_self ..)
    obtain ⟨i1, i2⟩ := star_all (env := env) (es := es) fun e he => h e (List.mem_cons_of_mem _ he)
    have e1 : assignEach (e :: es) env = (false, assign e env) :: assignEach es env := by cases e <;> first | rfl | cases h1
    rw [e1]
    refine ⟨by rw [List.length_cons, List.length_cons, i1], ?_⟩
    rw [List.findIdx?_cons, i2]
    rfl
theorem assign_cons {env : PySem.Env} {e : Expr} {es : List Expr} (h : plainB e = true) : (assignEach (e :: es) env).map (·.2) = assign e env :: (assignEach es env).map (·.2) := by cases e <;> first | rfl | cases h
/-- what a list of expressions is good for -/
structure EsOk (X : Cx) (pn : Pz) (W : WX) (Φ : Phi) (es : Es) (es' : List Expr) : Prop where
  ea : EA X pn W es' (evEs Φ es)
  len : ∀ ρ S ds S', evEs Φ es ρ S = .ok ds S' → ds.length = es'.length
  ek : ∀ kws : List Keyword, kws.map (·.value) = es' → EK X pn W kws (evEs Φ es)
  and_ : es' ≠ [] → ∀ pos, EE X pn W (.BoolOp .And es' pos) (evAnd Φ es) ∧ PW X (.BoolOp .And es' pos) (tB X.K X.mg pn W fun ρ S => testR (evAnd Φ es ρ S))
  or_ : es' ≠ [] → ∀ pos, EE X pn W (.BoolOp .Or es' pos) (evOr Φ es) ∧ PW X (.BoolOp .Or es' pos) (tB X.K X.mg pn W fun ρ S => testR (evOr Φ es ρ S))
theorem dup {e : Expr} {f : Env → Store → R D} (q : EE X pn W e f) (h : ∀ whole, isTrue e X.env whole = (do let v ← whole; standAt e.pos; holding [v] (truthy v))) : EE X pn W e f ∧ EB X pn W e (fun ρ S => testR (f ρ S)) := ⟨q, EB.of q h⟩
theorem ee_gk (c : CG kk Φ N tx calm sc pn W X) {x : Str} {d : D} {pos : Pos} (h2 : glB sc x = true) (h3 : okName x = true) (h4 : tx.gc x d = true) : EE X pn W (.Name x pos) (fun _ S => .ok d S) := by
  obtain ⟨u, v, hm, r, hr⟩ := c.g.gc x d h4
  exact ⟨fun pins s σ H Q I ⟨ι, M, ρ, S, sr, sl, p⟩ => (pe_glob (c.gl h2) hm r (okName_of h3).1).run pins s σ H Q I (PostG.done p sr (hr _ _ _))⟩
theorem ee_dic0 (fz : Bool) {pos : Pos} : EE X pn W (.Dict [] [] pos) (evE Φ (.dic fz [] .nil)) := by
  have e : evE Φ (.dic fz [] .nil) = fun _ S => if fz then .ok (.dic [] []) S else .ok (.ref S.length) (S ++ [.dic [] []]) := by
    funext ρ S
    exact if_pos (e := R.bad) (⟨rfl, Nat.zero_le _, .nil⟩ : ([] : List D).length = ([] : List Key).length ∧ ([] : List D).length ≤ 15 ∧ ([] : List Key).Nodup)
  rw [e]
  refine ⟨fun pins s σ H Q I ⟨ι, M, ρ, S, sr, sl, p⟩ => ?_⟩
  cases fz with
  | false => exact pe_dnewK.run pins s σ H Q I fun a ha => PostG.dicR (kvs := []) p sr rfl .nil ha
  | true =>
    refine thn (pe_dnewK.run pins s σ H (fun v H' => ∃ a, H a = none ∧ v = .ref a ∧ H' = upd H a (.dK [])) I fun a ha => ⟨a, ha, rfl, rfl⟩) fun v s1 ⟨x, H1, I1, r, a, ha, ex, eH⟩ => ?_
    subst ex
    subst eH
    obtain ⟨od, I2⟩ := I1.lock (u := .dK []) upd_same True.intro
    have eu : upd (upd H a (.dK [])) a (.frz od (.dK [])) = upd H a (.frz od (.dK [])) := by
      funext b
      by_cases e : b = a
      · rw [e, upd_same, upd_same]
      · rw [upd_ne e, upd_ne e, upd_ne e]
    rw [eu] at I2
    exact ⟨.ref a, _, I2, r, PostG.dicF (kvs := []) p sr rfl .nil ha od⟩
/-- a dict of the store becomes locked, or is one again -/
theorem SR.toLok {K : Fg} {ι : List Addr} {M : Addr → Prop} {H : Hp} {S : Store} (sr : SR K ι M H S) {n : Nat} {a : Addr} {ho : HO} {o : O} (hn : ι[n]? = some a) (new : ORep K ι M (upd H a ho) o a) : SR K ι M (upd H a ho) (S.set n o) where
  len := by rw [List.length_set]; exact sr.len
  nd := sr.nd
  im := sr.im
  mt := fun b h => by
    by_cases e : b = a
    · rw [e, upd_same]; simp
    · rw [upd_ne e]; exact sr.mt b h
  obj := fun m u b h1 h2 => by
    by_cases e : m = n
    · subst e
      rw [hn] at h2
      cases h2
      rw [List.getElem?_set_self (by rw [← sr.len]; exact (List.getElem?_eq_some_iff.mp hn).1)] at h1
      cases h1
      exact new
    · rw [List.getElem?_set_ne (Ne.symm e)] at h1
      exact (sr.obj m u b h1 h2).updM (sr.im a (List.mem_of_getElem? hn)) fun z => by
        subst z
        exact e (SR.write.nodup_ixA sr.nd h2 hn)
theorem Adv.under {ι ι' : List Addr} {M M' : Addr → Prop} {H H' : Hp} {a : Addr} {od : Obj} {u : HO} (x : Adv ι M (upd H a (.frz od u)) ι' M' H') (ha : a ∈ ι) (h : H a = some u) (hf : ∀ o' u', H a ≠ some (.frz o' u')) : Adv ι M H ι' M' (upd H' a u) where
  pre := x.pre
  mm := x.mm
  keep := fun b o e hn => by
    have ne : b ≠ a := fun z => hn (by rw [z]; exact ha)
    rw [upd_ne ne]
    exact x.keep b o (by rw [upd_ne ne]; exact e) hn
  fresh := fun b e => (x.fresh b e).elim .inl fun z => by
    by_cases ne : b = a
    · rw [ne, upd_same] at z; cases z
    · rw [upd_ne ne] at z; exact .inr z
  dom := fun b e => by
    by_cases ne : b = a
    · rw [ne, upd_same]; simp
    · rw [upd_ne ne]; exact x.dom b (by rw [upd_ne ne]; exact e)
  newi := fun b e => (x.newi b e).elim .inl fun z => by
    by_cases ne : b = a
    · rw [ne, upd_same] at z; cases z
    · rw [upd_ne ne] at z; exact .inr z
  frzk := fun b o v e => by
    have ne : b ≠ a := fun z => hf o v (by rw [← z]; exact e)
    rw [upd_ne ne]
    exact x.frzk b o v (by rw [upd_ne ne]; exact e)
theorem ee_lockd {e : Expr} {f : Env → Store → R D} (i : Nat) (he : EE X pn W e f) : EE X pn W e (fun ρ S => lockR ρ[i]? (f ρ) S) := by
  refine ⟨fun pins s σ H Q I ⟨ι, M, ρ, S, sr, sl, p⟩ => ?_⟩
  have plain : PostE X.K X.mg W σ ι M H (f ρ S) Q → wpAny (model X.prog X.w) X.A (eval e X.env) (EP X pins σ Q) X.xe s := fun q => he.run pins s σ H Q I ⟨ι, M, ρ, S, sr, sl, q⟩
  have p' : PostE X.K X.mg W σ ι M H (lockR ρ[i]? (f ρ) S) Q := p
  unfold lockR at p'
  split at p'
  · rename_i n e1
    split at p'
    · rename_i ks vs e2
      obtain ⟨v, g1, a, rfl, g2⟩ := sl.at_ i _ e1
      obtain ⟨kvs, g3, g4, g5⟩ := sr.obj n _ a e2 g2
      have hm := sr.im a (List.mem_of_getElem? g2)
      refine (pe_lock he).run pins s σ H Q I ⟨a, .dK kvs, g3, True.intro, fun od => ?_⟩
      refine ⟨ι, M, ρ, S.set n (.lok ks vs), sr.toLok g2 ⟨od, kvs, upd_same, g4, RepL.updM hm _ _ g5⟩, sl.updM hm, ?_⟩
      revert p'
      cases f ρ (S.set n (.lok ks vs)) with
      | bad => exact fun p' => p'.elim
      | exc c fs vs S => exact fun p' => p'.elim
      | ok d S1 =>
        intro p' v ι' M' H' x sr' rd
        have hz : H' a = some (.frz od (.dK kvs)) := x.frzk _ _ _ upd_same
        refine ⟨hz, ?_⟩
        have p' : PostE X.K X.mg W σ ι M H (match S1[n]? with | some (.lok ks vs) => .ok d (S1.set n (.dic ks vs)) | _ => .bad) Q := p'
        split at p'
        · rename_i ks' vs' e3
          obtain ⟨o', kvs', k1, k2, k3⟩ := sr'.obj n _ a e3 (x.get g2)
          rw [hz] at k1
          cases k1
          have hm' := x.mm a hm
          exact p' v ι' M' _ (x.under (List.mem_of_getElem? g2) g3 (fun _ _ z => by rw [g3] at z; cases z)) (sr'.toLok (x.get g2) ⟨kvs, upd_same, k2, RepL.updM hm' _ _ k3⟩) (Rep.updM hm' _ _ rd)
        · exact p'.elim
    · exact plain p'
  · exact plain p'
theorem prg_of {N : List Str} {tx : Tx} {calm : Bool} {sc : Scope} (c : CG kk Φ N tx calm sc pn W X) {es : Es} {as : List Expr} {p pos : Pos} (h2 : glB sc "range" = true) (hl : as.length = 1 ∨ as.length = 2) (hm : mEs tx N calm sc es as = true) (r : EsOk X pn W Φ es as) :
    PRg X (.Call (.Name "range" p) as [] pos) (fun σ H Q => tL X.K X.mg pn W (evEs Φ es) σ H fun vs H1 => (∃ n, vs = [.int n] ∧ Q 0 n H1) ∨ ∃ i j, vs = [.int i, .int j] ∧ Q i j H1) := by
  intro pins s σ H Q I h
  have hg : Gl X "range" := c.gl h2
  match as, hl, hm, r with
  | [], hl, _, _ => simp at hl
  | _ :: _ :: _ :: _, hl, _, _ => simp at hl
  | [a], _, hm, r =>
    obtain ⟨pa, _⟩ := plain1 hm
    refine Call_ (ld_blt I hg c.g.rng.1 boot_range (PyProof.Rows.callWith_type1 (thn (r.ea.run pos pins _ σ H _ I h) fun us s1 ⟨vs, H1, I1, r1, q1⟩ => ?_) (star_of pa) rfl))
    rcases q1 with ⟨n, rfl, q⟩ | ⟨i, j, rfl, q⟩
    · obtain ⟨u, rfl, ru⟩ := r1.one
      obtain ⟨t, rfl⟩ := ru
      exact call_range_1 ⟨_, 0, n, _, _, _, H1, rfl, IsRange.new _ _ _ _ _ _ _, I1.kept fun b u e => Heap.get?_push_of_some _ e, q⟩
    · obtain ⟨u, us', rfl, ru, rr⟩ : ∃ u us', us = u :: us' ∧ RelV (.int i) u ∧ Vals [.int j] us' := by
        cases r1 with
        | cons p q => exact ⟨_, _, rfl, p, q⟩
      obtain ⟨u2, rfl, ru2⟩ := rr.one
      obtain ⟨t, rfl⟩ := ru
      obtain ⟨t', rfl⟩ := ru2
      exact call_range_2 ⟨_, i, j, _, _, _, H1, rfl, IsRange.new _ _ _ _ _ _ _, I1.kept fun b u e => Heap.get?_push_of_some _ e, q⟩
  | [a, b], _, hm, r =>
    obtain ⟨pa, E1, hm1⟩ := plain1 hm
    obtain ⟨pb, _⟩ := plain1 hm1
    refine Call_ (ld_blt I hg c.g.rng.1 boot_range (PyProof.Rows.callWith_type1 (thn (r.ea.run pos pins _ σ H _ I h) fun us s1 ⟨vs, H1, I1, r1, q1⟩ => ?_) (star_of pa) (by rw [star_of pb]; rfl)))
    rcases q1 with ⟨n, rfl, q⟩ | ⟨i, j, rfl, q⟩
    · obtain ⟨u, rfl, ru⟩ := r1.one
      obtain ⟨t, rfl⟩ := ru
      exact call_range_1 ⟨_, 0, n, _, _, _, H1, rfl, IsRange.new _ _ _ _ _ _ _, I1.kept fun b u e => Heap.get?_push_of_some _ e, q⟩
    · obtain ⟨u, us', rfl, ru, rr⟩ : ∃ u us', us = u :: us' ∧ RelV (.int i) u ∧ Vals [.int j] us' := by
        cases r1 with
        | cons p q => exact ⟨_, _, rfl, p, q⟩
      obtain ⟨u2, rfl, ru2⟩ := rr.one
      obtain ⟨t, rfl⟩ := ru
      obtain ⟨t', rfl⟩ := ru2
      exact call_range_2 ⟨_, i, j, _, _, _, H1, rfl, IsRange.new _ _ _ _ _ _ _, I1.kept fun b u e => Heap.get?_push_of_some _ e, q⟩
theorem rg_rep {K : Fg} {ι : List Addr} {M : Addr → Prop} {H : Hp} (a b : Int) : RepL K ι M H (rngL a (b - a).toNat) (rgV a b) := by
  unfold rngL rgV
  generalize List.range (b - a).toNat = l
  induction l with
  | nil => exact .nil
  | cons i l ih => exact .cons rfl ih
theorem ee_lrng {N : List Str} {tx : Tx} {calm : Bool} {sc : Scope} (c : CG kk Φ N tx calm sc pn W X) (fz : Bool) {es : Es} {as : List Expr} {p p2 p3 p4 : Pos} (h0 : calm = true) (h1 : glB sc "list" = true) (hb : tx.blt .list = true) (h2 : glB sc "range" = true) (hl : as.length = 1 ∨ as.length = 2) (hm : mEs tx N calm sc es as = true) (r : EsOk X pn W Φ es as) :
    EE X pn W (.Call (.Name "list" p) [.Call (.Name "range" p2) as [] p3] [] p4) (fun ρ S => (evEs Φ es ρ S).bind fun xs S => match rngOf xs with | some l => Mp.alloc fz l S | none => .bad) := by
  have hm0 : X.mg "list" = none := by
    rcases c.g.blt .list hb with z | z
    · exact z.1
    · cases z.1
  refine ⟨fun pins s σ H Q I ⟨ι, M, ρ, S, sr, sl, p0⟩ => (pe_listRg (c.clm h0) (c.gl h1) hm0 (prg_of c h2 hl hm r) rfl).run pins s σ H Q I ?_⟩
  refine tG.ofE sr sl p0 fun ds S1 vs ι1 M1 H1 e1 a1 sr1 sl1 r1 p1 => ?_
  have ln := r.len _ _ _ _ e1
  have fin : ∀ {lo hi : Int} {l : List D}, rngOf ds = some l → l = rngL lo (hi - lo).toNat → RgOk lo hi → RgOk lo hi ∧ ∀ q, H1 q = none → Q (.ref q) (upd H1 q (.lst (rgV lo hi))) := fun {lo hi l} e el ok => by
    rw [e] at p1
    subst el
    refine ⟨ok, fun q hq => PostG.alloc p1 sr1 (rg_rep lo hi) ?_ hq⟩
    rw [rngL_len]
    obtain ⟨_, _, _, _, b5⟩ := ok
    exact b5
  match ds, ln, r1 with
  | [], ln, _ => rw [← ln] at hl; simp at hl
  | _ :: _ :: _ :: _, ln, _ => rw [← ln] at hl; simp at hl
  | [d], ln, r1 =>
    obtain ⟨v, r', rfl, g1, g2⟩ := r1
    obtain rfl : r' = [] := g2
    cases d with
    | int j =>
      obtain rfl : v = .int j := g1
      by_cases q : -(2 ^ 62) ≤ j ∧ j ≤ (line : Int)
      · have hle : j ≤ 16777216 := q.2
        exact .inl ⟨j, rfl, fin (l := rngL 0 j.toNat) (by simp only [rngOf, if_pos q]) (by rw [Int.sub_zero]) ⟨by omega, by omega, q.1, by omega, by omega⟩⟩
      · simp only [rngOf, if_neg q] at p1
        exact PostG.bad p1
    | _ => exact PostG.bad p1
  | [d, e], ln, r1 =>
    obtain ⟨v, r', rfl, g1, v2, r2, rfl, g2, g3⟩ := r1
    obtain rfl : r2 = [] := g3
    cases d with
    | int i =>
      cases e with
      | int j =>
        obtain rfl : v = .int i := g1
        obtain rfl : v2 = .int j := g2
        by_cases q : -(2 ^ 62) ≤ i ∧ i < 2 ^ 62 ∧ -(2 ^ 62) ≤ j ∧ j < 2 ^ 62 ∧ j - i ≤ (line : Int)
        · have hle : j - i ≤ 16777216 := q.2.2.2.2
          exact .inr ⟨i, j, rfl, fin (l := rngL i (j - i).toNat) (by simp only [rngOf, if_pos q]) rfl ⟨q.1, q.2.1, q.2.2.1, q.2.2.2.1, by omega⟩⟩
        · simp only [rngOf, if_neg q] at p1
          exact PostG.bad p1
      | _ => exact PostG.bad p1
    | _ => exact PostG.bad p1
theorem es_nil : EsOk X pn W Φ .nil [] where
  ea := ea_nil
  len := fun ρ S ds S' e => by cases e; rfl
  ek := fun kws h => by
    cases kws with
    | nil => exact ek_nil
    | cons _ _ => cases h
  and_ := fun h => absurd rfl h
  or_ := fun h => absurd rfl h
theorem es_cons {e : E} {es : Es} {e' : Expr} {es' : List Expr} (hp : plainB e' = true) (h : EE X pn W e' (evE Φ e) ∧ EB X pn W e' (fun ρ S => testR (evE Φ e ρ S))) (hn : es' = [] ↔ es = .nil) (r : EsOk X pn W Φ es es') : EsOk X pn W Φ (.cons e es) (e' :: es') where
  ea := ea_cons hp h.1 r.ea
  len := fun ρ S ds S' eq => by
    have eq : (evE Φ e ρ S).bind (fun x S => (evEs Φ es ρ S).bind fun xs S => R.ok (x :: xs) S) = .ok ds S' := eq
    cases q : evE Φ e ρ S with
    | bad => rw [q] at eq; cases eq
    | exc => rw [q] at eq; cases eq
    | ok x S1 =>
      rw [q, R.bind_ok] at eq
      cases q2 : evEs Φ es ρ S1 with
      | bad => rw [q2] at eq; cases eq
      | exc => rw [q2] at eq; cases eq
      | ok xs S2 =>
        rw [q2] at eq
        cases eq
        rw [List.length_cons, List.length_cons, r.len _ _ _ _ q2]
  ek := fun kws hk => by
    cases kws with
    | nil => cases hk
    | cons k kws =>
      obtain ⟨nm, v, p⟩ := k
      simp only [List.map_cons] at hk
      obtain ⟨e1, e2⟩ := List.cons.inj hk
      have e1 : v = e' := e1
      subst e1
      exact ek_cons h.1 (r.ek kws e2)
  and_ := fun _ pos => by
    cases es with
    | nil =>
      obtain rfl : es' = [] := hn.mpr rfl
      exact ⟨ee_one h.1, pw_and1 h.2⟩
    | cons e2 es2 =>
      cases es' with
      | nil => exact absurd (hn.mp rfl) (by simp)
      | cons e2' es2' =>
        obtain ⟨a1, a2⟩ := r.and_ (by simp) pos
        exact ⟨ee_and h.1 a1, ew_and h.2 a2⟩
  or_ := fun _ pos => by
    cases es with
    | nil =>
      obtain rfl : es' = [] := hn.mpr rfl
      exact ⟨ee_one h.1, pw_or1 h.2⟩
    | cons e2 es2 =>
      cases es' with
      | nil => exact absurd (hn.mp rfl) (by simp)
      | cons e2' es2' =>
        obtain ⟨a1, a2⟩ := r.or_ (by simp) pos
        exact ⟨ee_or h.1 a1, ew_or h.2 a2⟩
theorem ee_rev {fz : Bool} {a i : Expr} {f : Env → Store → R D} {pos : Pos} (hi : revB i = true) (ha : EE X pn W a f) : EE X pn W (.Subscript a i pos) (fun ρ S => (f ρ S).bind fun x S => revop fz x S) := by
  unfold revB at hi
  split at hi
  · obtain rfl := of_decide_eq_true hi
    refine ⟨fun pins s σ H Q I ⟨ι, M, ρ, S, sr, sl, p⟩ => (pe_revT ha).run pins s σ H Q I ?_⟩
    refine tG.of sr sl p fun d S1 x ι1 M1 H1 a1 sr1 sl1 r1 p1 => ?_
    have lists : PostE X.K X.mg W σ ι1 M1 H1 (revAny fz d S1) Q → ∃ a xs, x = .ref a ∧ ((SqL X.K H1 a xs ∧ ∀ p, H1 p = none → Q (.ref p) (upd H1 p (.lst xs.reverse))) ∨ (SqT X.K H1 a xs ∧ ∀ p, H1 p = none → Q (.ref p) (upd H1 p (.tup xs.reverse)))) := by
      intro p1
      unfold revAny at p1
      cases e : lstOf S1 d with
      | none => rw [e] at p1; exact PostG.bad p1
      | some xs =>
        rw [e] at p1
        obtain ⟨b, vs, rfl, h1, h2, h3⟩ := lst_of sr1 r1 e
        exact ⟨b, vs, rfl, .inl ⟨h1.sq, fun p hp => PostG.alloc p1 sr1 h2.reverse (by rw [List.length_reverse]; exact h3) hp⟩⟩
    cases d with
    | tup xs =>
      obtain ⟨b, vs, e1, e2, e3, e4⟩ := r1
      exact ⟨b, vs, e1, .inr ⟨e2.sq, fun p hp => PostG.tup p1 sr1 e4.reverse (by rw [List.length_reverse]; exact e3) hp⟩⟩
    | _ => exact lists p1
  · cases hi
theorem fold_plain {it : Expr} {env : PySem.Env} (h : notSetB it = true) : ∀ x, foldedSetIterable it env x = pure x := by
  intro x
  cases it <;> first | rfl | cases h
theorem pts_0 : PTs X [] (tB X.K X.mg pn W fun _ S => .ok true S) := ⟨fun pins s σ H Q I ⟨ι, M, ρ, S, sr, sl, p⟩ => pts_nil.run pins s σ H Q I (PostG.done p sr rfl)⟩
theorem pts_1 {c : Expr} {f : Env → Store → R D} (h : EB X pn W c (fun ρ S => testR (f ρ S))) : PTs X [c] (tB X.K X.mg pn W fun ρ S => (testR (f ρ S)).bind fun b S => if b then .ok true S else .ok false S) := by
  have e : (fun (ρ : Env) (S : Store) => (testR (f ρ S)).bind fun b S => if b then R.ok true S else .ok false S) = fun ρ S => testR (f ρ S) := by
    funext ρ S
    cases testR (f ρ S) with
    | ok b S1 => cases b <;> rfl
    | exc => rfl
    | bad => rfl
  rw [e]
  exact pts_one h
theorem mEs_nil_iff {es : Es} {es' : List Expr} (h : mEs tx N calm sc es es' = true) : es' = [] ↔ es = .nil := by
  cases es with
  | nil =>
    cases es' with
    | nil => simp
    | cons _ _ => cases h
  | cons _ _ =>
    cases es' with
    | nil => cases h
    | cons _ _ => simp
theorem glB_eq {x : Str} {y : Str} (h : decide (x = y) = true) (g : glB sc x = true) : x = y ∧ glB sc y = true := by
  have e := of_decide_eq_true h
  rw [← e]
  exact ⟨rfl, g⟩
end
/-- a target that matches -/
structure TsOk (X : Cx) (pn : Pz) (Φ : Phi) (ts : Ts) (es : List Expr) : Prop where
  g : EGs X pn ts.vars es (evTs Φ ts)
  pl : ∀ e ∈ es, plainB e = true
  len : ∀ xs ρ S ρ' S', evTs Φ ts xs ρ S = .ok ρ' S' → xs.length = es.length
variable {kk : Nat} {Φ : Phi}
mutual
theorem both : ∀ (e : E) {X : Cx} {pn : Pz} {W : WX} {N : List Str} {tx : Tx} {calm : Bool} {sc : Scope} {e' : Expr}, CG kk Φ N tx calm sc pn W X → mE tx N calm sc e e' = true → EE X pn W e' (evE Φ e) ∧ EB X pn W e' (fun ρ S => testR (evE Φ e ρ S))
  | .v i, X, pn, W, N, tx, calm, sc, e', c, h => by
    simp only [mE] at h
    split at h
    · exact ⟨ee_v c h, EB.of (ee_v c h) fun _ => rfl⟩
    · cases h
  | .k d, X, pn, W, N, tx, calm, sc, e', c, h => by
    simp only [mE] at h
    split at h
    · exact ⟨ee_k h, EB.of (ee_k h) fun _ => rfl⟩
    · cases h
  | .kty n, X, pn, W, N, tx, calm, sc, e', c, h => by
    simp only [mE] at h
    split at h
    · simp only [Bool.and_eq_true] at h
      obtain ⟨⟨⟨h1, h2⟩, h3⟩, h4⟩ := h
      exact ⟨ee_ty c (of_decide_eq_true h1) h2 h3 h4, EB.of (ee_ty c (of_decide_eq_true h1) h2 h3 h4) fun _ => rfl⟩
    · cases h
  | .tup es, X, pn, W, N, tx, calm, sc, e', c, h => by
    simp only [mE] at h
    split at h
    · exact dup (ee_tup (alls es c h).ea) fun _ => rfl
    · cases h
  | .lst fz es, X, pn, W, N, tx, calm, sc, e', c, h => by
    simp only [mE] at h
    split at h
    · exact dup (ee_lst fz (alls es c h).ea) fun _ => rfl
    · cases h
  | .bin op fz a b, X, pn, W, N, tx, calm, sc, e', c, h => by
    simp only [mE] at h
    split at h
    · simp only [Bool.and_eq_true] at h
      obtain ⟨⟨h1, h2⟩, h3⟩ := h
      obtain rfl := of_decide_eq_true h1
      exact dup (ee_bin (op := op) fz (both a c h2).1 (both b c h3).1) fun _ => rfl
    · cases h
  | .neg a, X, pn, W, N, tx, calm, sc, e', c, h => by
    simp only [mE] at h
    split at h
    · exact dup (ee_neg (both a c h).1) fun _ => rfl
    · cases h
  | .bnot a, X, pn, W, N, tx, calm, sc, e', c, h => by
    simp only [mE] at h
    split at h
    · exact ⟨ee_not (both a c h).1, eb_not (both a c h).2⟩
    · cases h
  | .band es, X, pn, W, N, tx, calm, sc, e', c, h => by
    simp only [mE] at h
    split at h
    · by_cases hn : es = .nil
      · subst hn
        exact ⟨⟨fun pins s σ H Q I ⟨ι, M, ρ, S, sr, sl, p⟩ => PostG.bad p⟩, ⟨fun pins s σ H Q I ⟨ι, M, ρ, S, sr, sl, p⟩ => PostG.bad p⟩⟩
      · obtain ⟨a1, a2⟩ := (alls es c h).and_ (fun z => hn ((mEs_nil_iff h).mp z)) _
        exact ⟨a1, a2.pt⟩
    · cases h
  | .bor es, X, pn, W, N, tx, calm, sc, e', c, h => by
    simp only [mE] at h
    split at h
    · by_cases hn : es = .nil
      · subst hn
        exact ⟨⟨fun pins s σ H Q I ⟨ι, M, ρ, S, sr, sl, p⟩ => PostG.bad p⟩, ⟨fun pins s σ H Q I ⟨ι, M, ρ, S, sr, sl, p⟩ => PostG.bad p⟩⟩
      · obtain ⟨a1, a2⟩ := (alls es c h).or_ (fun z => hn ((mEs_nil_iff h).mp z)) _
        exact ⟨a1, a2.pt⟩
    · cases h
  | .cmp op a b, X, pn, W, N, tx, calm, sc, e', c, h => by
    simp only [mE] at h
    split at h
    · simp only [Bool.and_eq_true] at h
      obtain ⟨⟨⟨h1, h2⟩, h3⟩, h4⟩ := h
      obtain rfl := of_decide_eq_true h1
      exact ⟨ee_cmp c (by simpa using h4) (both a c h2).1 (both b c h3).1, eb_cmp c (by simpa using h4) (both a c h2).1 (both b c h3).1⟩
    · cases h
  | .chain op1 op2 a b d, X, pn, W, N, tx, calm, sc, e', c, h => by
    simp only [mE] at h
    split at h
    · simp only [Bool.and_eq_true] at h
      obtain ⟨⟨⟨⟨⟨h1, h2⟩, h3⟩, h4⟩, h5⟩, h6⟩ := h
      obtain rfl := of_decide_eq_true h1
      obtain rfl := of_decide_eq_true h2
      exact ⟨ee_chain c (by simpa using h6) (both a c h3).1 (both b c h4).1 (both d c h5).1, eb_chain c (by simpa using h6) (both a c h3).1 (both b c h4).1 (both d c h5).1⟩
    · cases h
  | .ife d a b, X, pn, W, N, tx, calm, sc, e', c, h => by
    simp only [mE] at h
    split at h
    · simp only [Bool.and_eq_true] at h
      obtain ⟨⟨h1, h2⟩, h3⟩ := h
      exact ⟨ee_ife (both d c h1).2 (both a c h2).1 (both b c h3).1, eb_ife (both d c h1).2 (both a c h2).2 (both b c h3).2⟩
    · cases h
  | .call f es ks kes, X, pn, W, N, tx, calm, sc, e', c, h => by
    simp only [mE] at h
    split at h
    · simp only [Bool.and_eq_true] at h
      obtain ⟨⟨⟨⟨⟨⟨⟨h0, h1⟩, h2⟩, h3⟩, h4⟩, h5⟩, h6⟩, h7⟩ := h
      exact dup (ee_call c h0 (of_decide_eq_true h1) h2 h3 h4 h5 h6 (alls es c h5).ea ((alls kes c h7).ek _ rfl) (fun e ρ S => by
        obtain rfl := (mEs_nil_iff h5).mp e
        rfl)) fun _ => rfl
    · cases h
  | .blt b fz es, X, pn, W, N, tx, calm, sc, e', c, h => by
    simp only [mE] at h
    split at h
    · simp only [Bool.and_eq_true] at h
      obtain ⟨⟨⟨⟨⟨h0, h1⟩, h2⟩, h3⟩, h4⟩, h5⟩ := h
      obtain ⟨pa, E1, hm1⟩ := plain1 h5
      exact dup (ee_blt (b := b) c fz h0 (of_decide_eq_true h1) h2 h3 h4 (star_of pa) (plain_any _ hm1) (alls es c h5).ea) fun _ => rfl
    · cases h
  | .meth m o es, X, pn, W, N, tx, calm, sc, e', c, h => by
    simp only [mE] at h
    split at h
    · simp only [Bool.and_eq_true] at h
      obtain ⟨⟨⟨⟨⟨⟨h0, h1⟩, h2⟩, h3⟩, h4⟩, h5⟩, h6⟩ := h
      exact dup (ee_meth h0 (of_decide_eq_true h1) h2 h3 h5 (of_decide_eq_true h6) (both o c h4).1 (alls es c h5).ea) fun _ => rfl
    · cases h
  | .ix a i, X, pn, W, N, tx, calm, sc, e', c, h => by
    simp only [mE] at h
    split at h
    · simp only [Bool.and_eq_true] at h
      obtain ⟨⟨h1, h2⟩, h3⟩ := h
      exact dup (ee_ix c h1 (both a c h2).1 (both i c h3).1) fun _ => rfl
    · cases h
  | .sl fz a lo hi, X, pn, W, N, tx, calm, sc, e', c, h => by
    simp only [mE] at h
    split at h
    · simp only [Bool.and_eq_true] at h
      obtain ⟨⟨h1, h2⟩, h3⟩ := h
      exact dup (ee_sl (fz := fz) (both a c h1).1 (part_ok lo c h2) (part_ok hi c h3)) fun _ => rfl
    · cases h
  | .rev fz a, X, pn, W, N, tx, calm, sc, e', c, h => by
    simp only [mE] at h
    split at h
    · simp only [Bool.and_eq_true] at h
      exact dup (ee_rev (fz := fz) h.1 (both a c h.2).1) fun _ => rfl
    · cases h
  | .fld i f cs, X, pn, W, N, tx, calm, sc, e', c, h => by
    simp only [mE] at h
    split at h
    · simp only [Bool.and_eq_true] at h
      obtain ⟨⟨⟨h0, h1⟩, h2⟩, h3⟩ := h
      obtain rfl := of_decide_eq_true h1
      exact dup (ee_fld c (by simpa using h0) h2 h3) fun _ => rfl
    · cases h
  | .lrng fz es, X, pn, W, N, tx, calm, sc, e', c, h => by
    simp only [mE] at h
    split at h
    · simp only [Bool.and_eq_true] at h
      obtain ⟨⟨⟨⟨⟨⟨⟨h0, h1⟩, h2⟩, hb⟩, h3⟩, h4⟩, h5⟩, h6⟩ := h
      obtain ⟨rfl, g1⟩ := glB_eq h1 h2
      obtain ⟨rfl, g2⟩ := glB_eq h3 h4
      exact dup (ee_lrng c fz h0 g1 hb g2 (of_decide_eq_true h5) h6 (alls es c h6)) fun _ => rfl
    · cases h
  | .dic fz ks .nil, X, pn, W, N, tx, calm, sc, e', c, h => by
    simp only [mE] at h
    split at h
    · simp only [Bool.and_eq_true] at h
      obtain ⟨h1, h2⟩ := h
      simp only [mEs] at h2
      split at h2
      · unfold dkB at h1
        split at h1
        · exact dup (ee_dic0 fz) fun _ => rfl
        · contradiction
        · cases h1
      · cases h2
    · cases h
  | .dic fz ks (.cons e1 .nil), X, pn, W, N, tx, calm, sc, e', c, h => by
    simp only [mE] at h
    split at h
    · simp only [Bool.and_eq_true] at h
      obtain ⟨h1, h2⟩ := h
      simp only [mEs] at h2
      split at h2
      · simp only [Bool.and_eq_true] at h2
        obtain ⟨⟨_, h3⟩, h4⟩ := h2
        split at h4
        · unfold dkB at h1
          split at h1
          · contradiction
          · exact dup (ee_dic1 fz h1 (both e1 c h3).1) fun _ => rfl
          · cases h1
        · cases h4
      · cases h2
    · cases h
  | .dic fz ks (.cons e1 (.cons e2 es)), X, pn, W, N, tx, calm, sc, e', c, h => by
    simp only [mE] at h
    split at h
    · simp only [Bool.and_eq_true] at h
      have h1 := h.1
      unfold dkB at h1
      split at h1
      · contradiction
      · simp at *
      · cases h1
    · cases h
  | .lockd i e, X, pn, W, N, tx, calm, sc, e', c, h => by
    simp only [mE] at h
    rw [Bool.and_eq_true] at h
    refine dup (ee_lockd i (both e c h.2).1) fun _ => ?_
    cases e' <;> first | rfl | cases h.1
  | .gk x d, X, pn, W, N, tx, calm, sc, e', c, h => by
    simp only [mE] at h
    split at h
    · simp only [Bool.and_eq_true] at h
      obtain ⟨⟨⟨h1, h2⟩, h3⟩, h4⟩ := h
      obtain rfl := of_decide_eq_true h1
      exact dup (ee_gk c h2 h3 h4) fun _ => rfl
    · cases h
  | .comp fz vs t it cond (.elt e), X, pn, W, N, tx, calm, sc, e', c, h => by
    simp only [mE] at h
    split at h
    · simp only [Bool.and_eq_true] at h
      obtain ⟨⟨⟨⟨⟨⟨⟨h0, h1⟩, h2⟩, h3⟩, h4⟩, h5⟩, h6⟩, h7⟩ := h
      simp only [mCl] at h7
      split at h7
      · have ok := blkB_ok h1
        rw [← c.eN, ← c.esc] at ok
        refine dup (EE.eq (ee_lc (fz := fz) (c.clm h0) (by rw [c.eN]; exact c.nd) (isrc it c h4) ok (fun j hj => by rw [ownOf_snd]; exact subB_ok h2 j hj) (fun s H C cl fp => tgt t (c.blk h0 _ s H C cl fp) h5) (fun s H C cl fp => tests cond (c.blk h0 _ s H C cl fp) h6) (fun s H C cl fp => (both e (c.blk h0 _ s H C cl fp) h7).1) (fold_plain h3)) ?_) fun _ => rfl
        rw [ownOf_snd]
        rfl
      · cases h7
    · cases h
  | .comp fz vs t it cond (.each vs1 t1 it1 cond1 e), X, pn, W, N, tx, calm, sc, e', c, h => by
    simp only [mE] at h
    split at h
    · simp only [Bool.and_eq_true] at h
      obtain ⟨⟨⟨⟨⟨⟨⟨h0, h1⟩, h2⟩, h3⟩, h4⟩, h5⟩, h6⟩, h7⟩ := h
      simp only [mCl] at h7
      split at h7
      · simp only [Bool.and_eq_true] at h7
        obtain ⟨⟨⟨⟨⟨⟨k1, k2⟩, k3⟩, k4⟩, k5⟩, k6⟩, k7⟩ := h7
        have ok := blkB_ok h1
        rw [← c.eN, ← c.esc] at ok
        refine dup (EE.eq (ee_lc2 (fz := fz) (c.clm h0) (by rw [c.eN]; exact c.nd) (isrc it c h4) ok (fun j hj => by rw [ownOf_snd]; exact subB_ok h2 j hj) (subB_ok k2) (fun j hj => by rw [ownOf_snd]; exact subB_ok k1 j hj) (fun s H C cl fp => tgt t (c.blk h0 _ s H C cl fp) h5) (fun s H C cl fp => tests cond (c.blk h0 _ s H C cl fp) h6)
          (fun s H C cl fp => isrc it1 (c.blk h0 _ s H C cl fp) k4) (fun s H C cl fp => tgt t1 (c.blk h0 _ s H C cl fp) k5) (fun s H C cl fp => tests cond1 (c.blk h0 _ s H C cl fp) k6) (fun s H C cl fp => (both e (c.blk h0 _ s H C cl fp) k7).1) (fold_plain h3) (fun env => fold_plain k3)) ?_) fun _ => rfl
        rw [ownOf_snd]
        rfl
      · cases h7
    · cases h
theorem alls : ∀ (es : Es) {X : Cx} {pn : Pz} {W : WX} {N : List Str} {tx : Tx} {calm : Bool} {sc : Scope} {es' : List Expr}, CG kk Φ N tx calm sc pn W X → mEs tx N calm sc es es' = true → EsOk X pn W Φ es es'
  | .nil, X, pn, W, N, tx, calm, sc, es', c, h => by
    simp only [mEs] at h
    split at h
    · exact es_nil
    · cases h
  | .cons e es, X, pn, W, N, tx, calm, sc, es', c, h => by
    simp only [mEs] at h
    split at h
    · simp only [Bool.and_eq_true] at h
      exact es_cons h.1.1 (both e c h.1.2) (mEs_nil_iff h.2) (alls es c h.2)
    · cases h
theorem part_ok : ∀ (es : Es) {X : Cx} {pn : Pz} {W : WX} {N : List Str} {tx : Tx} {calm : Bool} {sc : Scope} {o : Option Expr}, CG kk Φ N tx calm sc pn W X → mEs tx N calm sc es o.toList = true →
    (o = none ∧ ∀ ρ S, evEs Φ es ρ S = .ok [] S) ∨ ∃ e' g, o = some e' ∧ EE X pn W e' g ∧ ∀ ρ S, evEs Φ es ρ S = (g ρ S).bind fun x S => .ok [x] S
  | .nil, X, pn, W, N, tx, calm, sc, o, c, h => by
    cases o with
    | none => exact .inl ⟨rfl, fun ρ S => rfl⟩
    | some _ => cases h
  | .cons e .nil, X, pn, W, N, tx, calm, sc, o, c, h => by
    cases o with
    | none => cases h
    | some e' =>
      simp only [Option.toList, mEs, Bool.and_eq_true] at h
      exact .inr ⟨e', evE Φ e, rfl, (both e c h.1.2).1, fun ρ S => rfl⟩
  | .cons e (.cons _ _), X, pn, W, N, tx, calm, sc, o, c, h => by
    cases o with
    | none => cases h
    | some e' =>
      simp only [Option.toList, mEs, Bool.and_eq_true] at h
      cases h.2
theorem tests : ∀ (es : Es) {X : Cx} {pn : Pz} {W : WX} {N : List Str} {tx : Tx} {calm : Bool} {sc : Scope} {es' : List Expr}, CG kk Φ N tx calm sc pn W X → mCs tx N calm sc es es' = true → PTs X es' (tB X.K X.mg pn W (evConds Φ es))
  | .nil, X, pn, W, N, tx, calm, sc, es', c, h => by
    simp only [mCs] at h
    split at h
    · exact pts_0
    · cases h
  | .cons e .nil, X, pn, W, N, tx, calm, sc, es', c, h => by
    simp only [mCs] at h
    split at h
    · exact pts_1 (both e c h).2
    · cases h
  | .cons e (.cons _ _), X, pn, W, N, tx, calm, sc, es', c, h => by
    simp only [mCs] at h
    cases h
theorem isrc : ∀ (it : I) {X : Cx} {pn : Pz} {W : WX} {N : List Str} {tx : Tx} {calm : Bool} {sc : Scope} {tg e' : Expr}, CG kk Φ N tx calm sc pn W X → mI tx N calm sc it tg e' = true → EI X pn W tg e' (evI Φ it)
  | .e e, X, pn, W, N, tx, calm, sc, tg, e', c, h => by
    simp only [mI] at h
    exact ei_e (both e c h).1
  | .rng es, X, pn, W, N, tx, calm, sc, tg, e', c, h => by
    simp only [mI] at h
    split at h
    · simp only [Bool.and_eq_true] at h
      obtain ⟨⟨⟨h1, h2⟩, h3⟩, h4⟩ := h
      obtain ⟨rfl, g⟩ := glB_eq h1 h2
      exact ei_rng c g h4 (of_decide_eq_true h3) (alls es c h4).ea (alls es c h4).len
    · cases h
  | .enum e, X, pn, W, N, tx, calm, sc, tg, e', c, h => by
    simp only [mI] at h
    split at h
    · simp only [Bool.and_eq_true] at h
      obtain ⟨⟨⟨⟨h1, h2⟩, h3⟩, h4⟩, h5⟩ := h
      obtain ⟨rfl, g⟩ := glB_eq h1 h2
      unfold isTupB at h3
      split at h3
      · exact ei_enum c g h4 (both e c h5).1
      · cases h3
    · cases h
  | .zip a b, X, pn, W, N, tx, calm, sc, tg, e', c, h => by
    simp only [mI] at h
    split at h
    · simp only [Bool.and_eq_true] at h
      obtain ⟨⟨⟨⟨⟨⟨h1, h2⟩, h3⟩, h4⟩, h5⟩, h6⟩, h7⟩ := h
      obtain ⟨rfl, g⟩ := glB_eq h1 h2
      unfold isTupB at h3
      split at h3
      · exact ei_zip c g h4 h5 (both a c h6).1 (both b c h7).1
      · cases h3
    · cases h
  | .revd e, X, pn, W, N, tx, calm, sc, tg, e', c, h => by
    simp only [mI] at h
    split at h
    · simp only [Bool.and_eq_true] at h
      obtain ⟨⟨⟨h1, h2⟩, h3⟩, h4⟩ := h
      obtain ⟨rfl, g⟩ := glB_eq h1 h2
      exact ei_rev c g h3 (both e c h4).1
    · cases h
theorem tgt : ∀ (t : T) {X : Cx} {pn : Pz} {W : WX} {N : List Str} {tx : Tx} {calm : Bool} {sc : Scope} {e' : Expr}, CG kk Φ N tx calm sc pn W X → mT tx N calm sc t e' = true → EG X pn t.vars e' (evT Φ t)
  | .n i, X, pn, W, N, tx, calm, sc, e', c, h => by
    simp only [mT] at h
    split at h
    · simp only [Bool.and_eq_true] at h
      obtain ⟨⟨h1, h2⟩, h3⟩ := h
      refine eg_n (by rw [c.eN]; exact c.nd) (by rw [c.eN]; exact of_decide_eq_true h1) ⟨?_, c.sto _ h3⟩
      unfold locB at h2
      unfold L2.Loc
      rw [c.esc]
      split at h2 <;> first | exact .inl (by assumption) | exact .inr (by assumption) | cases h2
    · cases h
  | .t ts, X, pn, W, N, tx, calm, sc, e', c, h => by
    simp only [mT] at h
    split at h
    · simp only [Bool.and_eq_true] at h
      have r := tgts ts c h.2
      obtain ⟨n1, n2⟩ := star_all (env := X.env) r.pl
      exact eg_t (c.clm h.1) n1 n2 r.len r.g
    · cases h
  | .s o i, X, pn, W, N, tx, calm, sc, e', c, h => by
    simp only [mT] at h
    split at h
    · simp only [Bool.and_eq_true] at h
      exact eg_s c.hu h.1.1 (both o c h.1.2).1 (both i c h.2).1
    · cases h
theorem tgts : ∀ (ts : Ts) {X : Cx} {pn : Pz} {W : WX} {N : List Str} {tx : Tx} {calm : Bool} {sc : Scope} {es : List Expr}, CG kk Φ N tx calm sc pn W X → mTs tx N calm sc ts es = true → TsOk X pn Φ ts es
  | .nil, X, pn, W, N, tx, calm, sc, es, c, h => by
    simp only [mTs] at h
    split at h
    · refine ⟨egs_nil, by simp, fun xs ρ S ρ' S' e => ?_⟩
      cases xs with
      | nil => rfl
      | cons _ _ => cases e
    · cases h
  | .cons t ts, X, pn, W, N, tx, calm, sc, es, c, h => by
    simp only [mTs] at h
    split at h
    · simp only [Bool.and_eq_true] at h
      have r := tgts ts c h.2
      refine ⟨egs_cons (assign_cons h.1.1) (tgt t c h.1.2) r.g, fun e he => ?_, fun xs ρ S ρ' S' e => ?_⟩
      · rcases List.mem_cons.mp he with z | z
        · rw [z]; exact h.1.1
        · exact r.pl e z
      · cases xs with
        | nil => cases e
        | cons x xs =>
          have e : (match evT Φ t x ρ S with | .ok ρ S => evTs Φ ts xs ρ S | .bad => B.bad) = .ok ρ' S' := e
          cases q : evT Φ t x ρ S with
          | bad => rw [q] at e; cases e
          | ok ρ1 S1 =>
            rw [q] at e
            rw [List.length_cons, List.length_cons, r.len _ _ _ _ _ e]
    · cases h
end
end Mp
/-! Mp, part U: a statement that matches its tree reads as its tree runs. -/
namespace Mp
open PySem PySem.Spec PyProof.Rows L2
/-! ### stores exchanged -/
def swNames (sc : Scope) (line : Nat) (ts : List Expr) : List Str := ts.filterMap fun
  | .Name id pos => if sc.names.lookup id == some .local && pos.line == line then some id else none
  | _ => none
def swNo (sc : Scope) (ts vs : List Expr) : Bool :=
  !(ts.length == 2 || ts.length == 3) || vs.length != ts.length || (swNames sc ((ts.head?.map (·.pos.line)).getD 0) ts).length != ts.length || vs.all (foldedForSure 8)
theorem sw_no {env : PySem.Env} {ts vs : List Expr} {k k2 : Nat} {p p2 : Pos} (h : swNo env.scope ts vs = true) : swappedStores [.Tuple ts k p] (.Tuple vs k2 p2) env = pure none := by
  unfold swNo at h
  unfold swappedStores
  simp only [pure_bind]
  by_cases h1 : (!(ts.length == 2 || ts.length == 3) || vs.length != ts.length || env.blockKind != .function) = true
  · rw [if_pos h1]
  · rw [if_neg h1]
    simp only [Bool.or_eq_true, not_or, Bool.not_eq_true] at h1
    obtain ⟨⟨h1, h2⟩, h3⟩ := h1
    rw [h1, h2] at h
    simp only [Bool.false_or, Bool.or_eq_true] at h
    split
    · rfl
    · show (if ((swNames env.scope ((ts.head?.map (·.pos.line)).getD 0) ts).length != ts.length || (swNames env.scope ((ts.head?.map (·.pos.line)).getD 0) ts).eraseDups.length != (swNames env.scope ((ts.head?.map (·.pos.line)).getD 0) ts).length) = true then pure none else
        if vs.all (foldedForSure 8) = true then pure none else _) = _
      rcases h with h | h
      · rw [h, Bool.true_or, if_pos rfl]
      · split
        · rfl
        · first | rfl | rw [if_pos h]
theorem sw_yes2 {env : PySem.Env} {x y : Str} {a b : Expr} {px py pt pt2 : Pos} {kt k2 : Nat} (hk : env.scope.kind = .function) (hx : env.scope.names.lookup x = some .local) (hy : env.scope.names.lookup y = some .local) (hl : py.line = px.line) (hne : x ≠ y) (p1 : plainB a = true) (p2 : plainB b = true)
    (f : [a, b].all (foldedForSure 8) = false) (c : [a, b].all (constantsAlone 8) = false) : swappedStores [.Tuple [.Name x px, .Name y py] kt pt] (.Tuple [a, b] k2 pt2) env = pure (some [x, y]) := by
  have bk : env.blockKind = .function := by unfold PySem.Env.blockKind; rw [hk]; rfl
  have ns : ([a, b].any fun | .Starred .. => true | _ => false) = false := by
    have s1 : ∀ e : Expr, plainB e = true → (match e with | .Starred .. => true | _ => false) = false := by intro e h; cases e <;> first | rfl | cases h
    simp only [List.any_cons, List.any_nil, s1 a p1, s1 b p2]
    rfl
  have nm : swNames env.scope px.line [.Name x px, .Name y py] = [x, y] := by
    unfold swNames
    simp [hx, hy, hl]
  have dd : ([x, y] : List Str).eraseDups = [x, y] := by
    have e : (y == x) = false := by simpa using Ne.symm hne
    simp [List.eraseDups_cons, List.filter, e]
  unfold swappedStores
  simp only [pure_bind]
  rw [if_neg (by rw [bk]; simp)]
  refine (if_neg ?h).trans ?_
  case h => exact fun z => Bool.false_ne_true (ns.symm.trans z)
  show (if ((swNames env.scope px.line [.Name x px, .Name y py]).length != 2 || (swNames env.scope px.line [.Name x px, .Name y py]).eraseDups.length != (swNames env.scope px.line [.Name x px, .Name y py]).length) = true then pure none else
        if [a, b].all (foldedForSure 8) = true then pure none else if [a, b].all (constantsAlone 8) = true then _ else pure (some (swNames env.scope px.line [.Name x px, .Name y py]))) = _
  rw [nm, dd, f, c]
  rfl
theorem sw_yes3 {env : PySem.Env} {x y z : Str} {a b d : Expr} {px py pz pt pt2 : Pos} {kt k2 : Nat} (hk : env.scope.kind = .function) (hx : env.scope.names.lookup x = some .local) (hy : env.scope.names.lookup y = some .local) (hz : env.scope.names.lookup z = some .local) (hl : py.line = px.line) (hl2 : pz.line = px.line) (hne : x ≠ y) (hne2 : x ≠ z) (hne3 : y ≠ z)
    (p1 : plainB a = true) (p2 : plainB b = true) (p3 : plainB d = true)
    (f : [a, b, d].all (foldedForSure 8) = false) (c : [a, b, d].all (constantsAlone 8) = false) : swappedStores [.Tuple [.Name x px, .Name y py, .Name z pz] kt pt] (.Tuple [a, b, d] k2 pt2) env = pure (some [x, y, z]) := by
  have bk : env.blockKind = .function := by unfold PySem.Env.blockKind; rw [hk]; rfl
  have ns : ([a, b, d].any fun | .Starred .. => true | _ => false) = false := by
    have s1 : ∀ e : Expr, plainB e = true → (match e with | .Starred .. => true | _ => false) = false := by intro e h; cases e <;> first | rfl | cases h
    simp only [List.any_cons, List.any_nil, s1 a p1, s1 b p2, s1 d p3]
    rfl
  have nm : swNames env.scope px.line [.Name x px, .Name y py, .Name z pz] = [x, y, z] := by
    unfold swNames
    simp [hx, hy, hz, hl, hl2]
  have dd : ([x, y, z] : List Str).eraseDups = [x, y, z] := by
    have e1 : (y == x) = false := by simpa using Ne.symm hne
    have e2 : (z == x) = false := by simpa using Ne.symm hne2
    have e3 : (z == y) = false := by simpa using Ne.symm hne3
    simp [List.eraseDups_cons, List.filter, e1, e2, e3]
  unfold swappedStores
  simp only [pure_bind]
  rw [if_neg (by rw [bk]; simp)]
  refine (if_neg ?h).trans ?_
  case h => exact fun z => Bool.false_ne_true (ns.symm.trans z)
  show (if ((swNames env.scope px.line [.Name x px, .Name y py, .Name z pz]).length != 3 || (swNames env.scope px.line [.Name x px, .Name y py, .Name z pz]).eraseDups.length != (swNames env.scope px.line [.Name x px, .Name y py, .Name z pz]).length) = true then pure none else
        if [a, b, d].all (foldedForSure 8) = true then pure none else if [a, b, d].all (constantsAlone 8) = true then _ else pure (some (swNames env.scope px.line [.Name x px, .Name y py, .Name z pz]))) = _
  rw [nm, dd, f, c]
  rfl
/-! ### the text against the trees -/
def opB : Operator → Bool | .Add => true | .Sub => true | .Mult => true | _ => false
def noCompB : Expr → Bool | .ListComp .. => false | .SetComp .. => false | .DictComp .. => false | _ => true
def locS (sc : Scope) (x : Str) : Bool := decide (sc.names.lookup x = some .local)
def isLck : E → Bool | .lockd _ _ => true | _ => false
/-- a comprehension that is stored by itself -/
def exchB (sc : Scope) (tg e : Expr) : Bool := match tg, e with
  | .Name y py, .ListComp _ _ scope p => locS sc y && py.line == p.line && !(scope.names.any fun (n, k) => n == y && (k == .local || k == .cell))
  | _, _ => false
def tup2B : Expr → Expr → Bool | .Tuple .., .Tuple .. => true | _, _ => false
def parB (sc : Scope) (tg e : Expr) : Bool := match tg, e with
  | .Tuple [.Name x px, .Name y py] _ _, .Tuple [a, b] _ _ => locS sc x && locS sc y && decide (py.line = px.line) && decide (x ≠ y) && !([a, b].all (foldedForSure 8)) && !([a, b].all (constantsAlone 8))
  | .Tuple [.Name x px, .Name y py, .Name z pz] _ _, .Tuple [a, b, d] _ _ => locS sc x && locS sc y && locS sc z && decide (py.line = px.line) && decide (pz.line = px.line) && decide (x ≠ y) && decide (x ≠ z) && decide (y ≠ z) && !([a, b, d].all (foldedForSure 8)) && !([a, b, d].all (constantsAlone 8))
  | _, _ => false
def plainAsgB (sc : Scope) (tg e : Expr) : Bool := match tg, e with
  | .Tuple ts _ _, .Tuple vs _ _ => swNo sc ts vs
  | .List .., _ => false
  | _, _ => true
mutual
def mS : Tx → List Str → Bool → Scope → S → Stmt → Bool
  | tx, N, calm, sc, .asg t e, st => match st with | .Assign [tg] e' _ => plainB tg && mT tx N calm sc t tg && mE tx N calm sc e e' && (if exchB sc tg e' then calm && !isLck e else if parB sc tg e' then calm else plainAsgB sc tg e') | _ => false
  | tx, N, calm, sc, .aug i op _ e, st => match st with | .AugAssign (.Name x _) op' e' _ => decide (op = op') && opB op && decide (N[i]? = some x) && locB sc x && tx.st x && mE tx N calm sc e e' | _ => false
  | tx, N, calm, sc, .augs o i op e, st => match st with | .AugAssign (.Subscript o' i' _) op' e' _ => decide (op = op') && opB op && ixB i' && mE tx N calm sc o o' && mE tx N calm sc i i' && mE tx N calm sc e e' | _ => false
  | tx, N, calm, sc, .ex e, st => match st with | .Expr e' _ => noCompB e' && mE tx N calm sc e e' | _ => false
  | tx, N, calm, sc, .ret e, st => match st with | .Return (some e') _ => mE tx N calm sc e e' | _ => false
  | tx, N, calm, sc, .retN, st => match st with | .Return none _ => true | _ => false
  | tx, N, calm, sc, .ife c a b, st => match st with | .If c' a' b' _ => mE tx N calm sc c c' && mSs tx N calm sc a a' && mSs tx N calm sc b b' | _ => false
  | tx, N, calm, sc, .each t it b, st => match st with | .For tg it' b' [] _ => calm && notSetB it' && mI tx N calm sc it tg it' && mT tx N calm sc t tg && mSs tx N calm sc b b' | _ => false
  | tx, N, calm, sc, .loop c b, st => match st with | .While c' b' [] _ => calm && mE tx N calm sc c c' && mSs tx N calm sc b b' | _ => false
  | tx, N, calm, sc, .brk, st => match st with | .Break _ => true | _ => false
  | tx, N, calm, sc, .cnt, st => match st with | .Continue _ => true | _ => false
  | tx, N, calm, sc, .pass, st => match st with | .Pass _ => true | _ => false
  | tx, N, calm, sc, .raise c es, st => match st with | .Raise (some (.Call (.Name x _) [e'] [] _)) none _ => calm && decide (x = c) && glB sc x && okName x && tx.ini x && plainB e' && mEs tx N calm sc es [e'] | _ => false
  | tx, N, calm, sc, .tri b cs hs, st => match st with | .Try b' (h :: hs') [] [] _ => calm && cs.all tx.cls && mSs tx N calm sc b b' && mHs tx N sc hs (h :: hs') | _ => false
def mSs : Tx → List Str → Bool → Scope → Ss → List Stmt → Bool
  | tx, N, calm, sc, .nil, sts => match sts with | [] => true | _ => false
  | tx, N, calm, sc, .cons s ss, sts => match sts with | st :: sts => mS tx N calm sc s st && mSs tx N calm sc ss sts | [] => false
def mHs : Tx → List Str → Scope → Hs → List ExceptHandler → Bool
  | tx, N, sc, .nil, hs' => match hs' with | [] => true | _ => false
  | tx, N, sc, .cons c i b hs, hs' => match hs' with
    | .ExceptHandler (some (.Name x _)) n (b₀ :: suite) _ :: r => decide (x = c) && glB sc x && okName x && tx.cls x && (match i, n with | none, none => true | some i, some n => decide (N[i]? = some n) && locS sc n | _, _ => false) && mSs tx N false sc b (b₀ :: suite) && mHs tx N sc hs r
    | _ => false
end
/-- a statement's context -/
structure CS (k : Nat) (Φ : Phi) (N : List Str) (tx : Tx) (calm : Bool) (sc : Scope) (pn : Pz) (W : WX) (X : Cx) : Prop where
  cg : CG k Φ N tx calm sc pn W X
  own : calm = true → PassesOwn (model X.prog X.w) X.A X.env X.xe
  hs : X.stack = X.env :: X.outer
  hf : X.env.frame = some X.env.locals
  fk : sc.kind = .function
section
variable {X : Cx} {pn : Pz} {W : WX} {kk : Nat} {Φ : Phi} {N : List Str} {tx : Tx} {calm : Bool} {sc : Scope}
theorem CS.tr (c : CS kk Φ N tx calm sc pn W X) (hcalm : calm = true) {W' : WX} {pm : Pn} {xe : Value → Shared → Prop} (tk : Takes (X.tr pm xe) W') (own : PassesOwn (model X.prog X.w) X.A X.env xe) : CS kk Φ N tx calm sc [] W' (X.tr pm xe) where
  cg := ⟨(fun h => by rw [hcalm] at h; cases h), fun _ => rfl, c.cg.g, c.cg.eN, c.cg.nd, c.cg.esc, c.cg.sto, c.cg.clm, c.cg.hu, tk, c.cg.room, c.cg.two, c.cg.ini, c.cg.fns⟩
  own := fun _ => own
  hs := c.hs
  hf := c.hf
  fk := c.fk
theorem CS.suite (c : CS kk Φ N tx calm sc pn W X) {a : Addr} {oe : Obj} {cls : Value} {d : Option Addr} {pm : Pn} (hz : Zc cls d oe) (hd : ∃ vs, oe.data = .fields vs) : CS kk Φ N tx false sc [(a, cls, d)] NoW (X.suite a ((a, oe) :: pm)) where
  cg := ⟨(fun _ p hp => by
      obtain rfl := List.mem_singleton.mp hp
      exact ⟨oe, List.mem_cons_self .., hz, hd⟩), (fun h => by cases h), c.cg.g, c.cg.eN, c.cg.nd, c.cg.esc, c.cg.sto, (fun h => by cases h), c.cg.hu, takes_no, (fun h => by cases h), c.cg.two, c.cg.ini, c.cg.fns⟩
  own := fun h => by cases h
  hs := c.hs
  hf := c.hf
  fk := c.fk
def hrs (Φ : Phi) : Hs → List HR
  | .nil => []
  | .cons c i b hs => ⟨c, i, evSs Φ b⟩ :: hrs Φ hs
theorem evHs_eq (Φ : Phi) : ∀ (hs : Hs) (c : Str) (fs : List Str) (vs : List D) (ρ : Env) (S : Store), evHs Φ hs c fs vs ρ S = hsF (hrs Φ hs) c fs vs ρ S
  | .nil, c, fs, vs, ρ, S => rfl
  | .cons c' i b hs, c, fs, vs, ρ, S => by
    show (if takesC c c' = true then _ else evHs Φ hs c fs vs ρ S) = if takesC c c' = true then _ else hsF (hrs Φ hs) c fs vs ρ S
    rw [evHs_eq Φ hs] <;> rfl
theorem ES.eq {st : Stmt} {f g : Env → Store → F} (h : ES X pn W st f) (e : f = g) : ES X pn W st g := e ▸ h
theorem opB_ok {op : Operator} (h : opB op = true) : op = .Add ∨ op = .Sub ∨ op = .Mult := by cases op <;> first | exact .inl rfl | exact .inr (.inl rfl) | exact .inr (.inr rfl) | cases h
theorem stOk_of (c : CG kk Φ N tx calm sc pn W X) {x : Str} (h2 : locB sc x = true) (h3 : tx.st x = true) : StOk X x := by
  refine ⟨?_, c.sto _ h3⟩
  unfold locB at h2
  unfold L2.Loc
  rw [c.esc]
  split at h2 <;> first | exact .inl (by assumption) | exact .inr (by assumption) | cases h2
/-- an assignment whose stores are not exchanged -/
theorem es_plain (c : CG kk Φ N tx calm sc pn W X) {t : T} {e : E} {tg e' : Expr} {pos : Pos} (hp : plainB tg = true) (ht : EG X pn t.vars tg (evT Φ t)) (he : EE X pn W e' (evE Φ e)) (h1 : exchB sc tg e' = false) (h2 : plainAsgB sc tg e' = true) (h3 : mE tx N calm sc e e' = true) : ES X pn W (.Assign [tg] e' pos) (evS Φ (.asg t e)) := by
  have hw : swappedStores [tg] e' X.env = pure none := by
    have two : ∀ {ts vs : List Expr} {k k2 : Nat} {p p2 : Pos}, tg = .Tuple ts k p → e' = .Tuple vs k2 p2 → swappedStores [tg] e' X.env = pure none := by
      intro ts vs k k2 p p2 e1 e2
      subst e1
      subst e2
      exact sw_no (by rw [c.esc]; exact h2)
    cases tg with
    | Tuple ts k p => cases e' with
      | Tuple vs k2 p2 => exact two rfl rfl
      | _ => rfl
    | List ts p => cases h2
    | _ => rfl
  have hs : swapsWithSole [tg] e' pos.line X.env = pure false := by
    show swapsWith e' (some tg) pos.line X.env = pure false
    cases e' with
    | ListComp elt gens scope p =>
      cases tg with
      | Name y py =>
        show (pure (X.env.blockKind == .function && X.env.kindOf y == some .local && py.line == p.line && !(scope.names.any fun (n, k) => n == y && (k == .local || k == .cell))) : Sem Bool) = pure false
        have e1 : (locS sc y && py.line == p.line && !(scope.names.any fun (n, k) => n == y && (k == .local || k == .cell))) = false := h1
        have e2 : (X.env.kindOf y == some .local) = locS sc y := by
          unfold PySem.Env.kindOf locS
          rw [c.esc]
          by_cases q : sc.names.lookup y = some .local
          · rw [q]; rfl
          · rw [decide_eq_false q]
            exact beq_eq_false_iff_ne.mpr q
        rw [e2]
        cases hb : (X.env.blockKind == .function) with
        | true => rw [Bool.true_and, e1]
        | false => rfl
      | _ => rfl
    | SetComp _ _ _ _ => exfalso; cases e <;> cases h3
    | DictComp _ _ _ _ _ => exfalso; cases e <;> cases h3
    | _ => rfl
  exact es_asg he ht hs hw (assign_cons hp)
end
end Mp
/-! Mp, part V: the statements' master theorem. -/
namespace Mp
open PySem PySem.Spec PyProof.Rows L2
section
variable {X : Cx} {pn : Pz} {W : WX} {kk : Nat} {Φ : Phi} {N : List Str} {tx : Tx} {calm : Bool} {sc : Scope}
theorem two_le : (2 : Nat) ≤ line := by decide
theorem three_le : (3 : Nat) ≤ line := by decide
theorem locS_ok {X : Cx} (c : CG kk Φ N tx calm sc pn W X) {x : Str} (h : locS sc x = true) : X.env.scope.names.lookup x = some .local := by
  rw [c.esc]
  exact of_decide_eq_true h
theorem ix_ne {i j : Nat} {x y : Str} (h1 : N[i]? = some x) (h2 : N[j]? = some y) (hne : x ≠ y) : i ≠ j := fun e => hne (by rw [e, h2] at h1; exact (Option.some.inj h1).symm)
theorem es_parX (c : CS kk Φ N tx calm sc pn W X) (hcalm : calm = true) {t : T} {e : E} {tg e' : Expr} {pos : Pos} (ht : mT tx N calm sc t tg = true) (he : mE tx N calm sc e e' = true) (hp : parB sc tg e' = true) : ES X pn W (.Assign [tg] e' pos) (evS Φ (.asg t e)) := by
  have g := c.cg
  have fk : X.env.scope.kind = .function := by rw [g.esc]; exact c.fk
  unfold parB at hp
  split at hp
  · rename_i x px y py kt pt a b k2 pt2
    simp only [Bool.and_eq_true, decide_eq_true_eq, Bool.not_eq_true'] at hp
    obtain ⟨⟨⟨⟨⟨p1, p2⟩, p3⟩, p4⟩, p5⟩, p6⟩ := hp
    cases e with
    | tup es =>
      have hes : mEs tx N calm sc es [a, b] = true := by simpa only [mE] using he
      have r := alls (Φ := Φ) es g hes
      obtain ⟨pa, E1, hm1⟩ := plain1 hes
      obtain ⟨pb, _⟩ := plain1 hm1
      cases t with
      | t ts =>
        cases ts with
        | nil => simp only [mT, mTs, Bool.and_eq_true] at ht; exact absurd ht.2 (by decide)
        | cons t1 ts =>
          cases ts with
          | nil => simp only [mT, mTs, Bool.and_eq_true] at ht; exact absurd ht.2.2 (by decide)
          | cons t2 ts =>
            cases ts with
            | cons _ _ => simp only [mT, mTs, Bool.and_eq_true] at ht; exact absurd ht.2.2.2 (by decide)
            | nil =>
              simp only [mT, mTs, Bool.and_eq_true] at ht
              obtain ⟨_, ⟨_, h1⟩, ⟨_, h2⟩, _⟩ := ht
              cases t1 with
              | n i =>
                cases t2 with
                | n j =>
                  simp only [mT, Bool.and_eq_true, decide_eq_true_eq] at h1 h2
                  have hi : X.N[i]? = some x := by rw [g.eN]; exact h1.1.1
                  have hj : X.N[j]? = some y := by rw [g.eN]; exact h2.1.1
                  refine ES.eq (es_par2 (g.clm hcalm) (by rw [g.eN]; exact g.nd) hi hj (ix_ne hi hj p4) (locS_ok g p1) (locS_ok g p2) r.ea r.len (sw_yes2 fk (locS_ok g p1) (locS_ok g p2) p3 p4 pa pb p5 p6)) ?_
                  funext ρ S
                  show (evEs Φ es ρ S).stm ρ _ = ((evEs Φ es ρ S).bind fun xs S => if xs.length ≤ line then .ok (.tup xs) S else .bad).stm ρ fun d S => match evT Φ (.t (.cons (.n i) (.cons (.n j) .nil))) d ρ S with | .ok ρ S => F.nx ρ S | .bad => F.bad
                  cases q : evEs Φ es ρ S with
                  | bad => rfl
                  | exc => rfl
                  | ok ds S1 =>
                    match ds, r.len _ _ _ _ q with
                    | [u, v], _ =>
                      show F.nx (setN (setN ρ i u) j v) S1 = R.stm (if [u, v].length ≤ line then R.ok (Mp.D.tup [u, v]) S1 else R.bad) ρ _
                      rw [if_pos (show [u, v].length ≤ line from two_le)]
                      rfl
                | _ => simp only [mT] at h2; first | exact absurd h2 (by decide) | cases h2
              | _ => simp only [mT] at h1; first | exact absurd h1 (by decide) | cases h1
      | _ => simp only [mT] at ht; first | exact absurd ht (by decide) | cases ht
    | _ => simp only [mE] at he; first | exact absurd he (by decide) | cases he
  · rename_i x px y py z pz kt pt a b d k2 pt2
    simp only [Bool.and_eq_true, decide_eq_true_eq, Bool.not_eq_true'] at hp
    obtain ⟨⟨⟨⟨⟨⟨⟨⟨⟨p1, p2⟩, p3⟩, p4⟩, p5⟩, p6⟩, p7⟩, p8⟩, p9⟩, p10⟩ := hp
    cases e with
    | tup es =>
      have hes : mEs tx N calm sc es [a, b, d] = true := by simpa only [mE] using he
      have r := alls (Φ := Φ) es g hes
      obtain ⟨pa, E1, hm1⟩ := plain1 hes
      obtain ⟨pb, E2, hm2⟩ := plain1 hm1
      obtain ⟨pd, _⟩ := plain1 hm2
      cases t with
      | t ts =>
        cases ts with
        | nil => simp only [mT, mTs, Bool.and_eq_true] at ht; exact absurd ht.2 (by decide)
        | cons t1 ts =>
          cases ts with
          | nil => simp only [mT, mTs, Bool.and_eq_true] at ht; exact absurd ht.2.2 (by decide)
          | cons t2 ts =>
            cases ts with
            | nil => simp only [mT, mTs, Bool.and_eq_true] at ht; exact absurd ht.2.2.2 (by decide)
            | cons t3 ts =>
              cases ts with
              | cons _ _ => simp only [mT, mTs, Bool.and_eq_true] at ht; exact absurd ht.2.2.2.2 (by decide)
              | nil =>
                simp only [mT, mTs, Bool.and_eq_true] at ht
                obtain ⟨_, ⟨_, h1⟩, ⟨_, h2⟩, ⟨_, h3⟩, _⟩ := ht
                cases t1 with
                | n i =>
                  cases t2 with
                  | n j =>
                    cases t3 with
                    | n l =>
                      simp only [mT, Bool.and_eq_true, decide_eq_true_eq] at h1 h2 h3
                      have hi : X.N[i]? = some x := by rw [g.eN]; exact h1.1.1
                      have hj : X.N[j]? = some y := by rw [g.eN]; exact h2.1.1
                      have hl : X.N[l]? = some z := by rw [g.eN]; exact h3.1.1
                      refine ES.eq (es_par3 (g.clm hcalm) (by rw [g.eN]; exact g.nd) hi hj hl (ix_ne hi hj p6) (ix_ne hi hl p7) (ix_ne hj hl p8) (locS_ok g p1) (locS_ok g p2) (locS_ok g p3) r.ea r.len
                        (sw_yes3 fk (locS_ok g p1) (locS_ok g p2) (locS_ok g p3) p4 p5 p6 p7 p8 pa pb pd p9 p10)) ?_
                      funext ρ S
                      show (evEs Φ es ρ S).stm ρ _ = ((evEs Φ es ρ S).bind fun xs S => if xs.length ≤ line then .ok (.tup xs) S else .bad).stm ρ fun d S => match evT Φ (.t (.cons (.n i) (.cons (.n j) (.cons (.n l) .nil)))) d ρ S with | .ok ρ S => F.nx ρ S | .bad => F.bad
                      cases q : evEs Φ es ρ S with
                      | bad => rfl
                      | exc => rfl
                      | ok ds S1 =>
                        match ds, r.len _ _ _ _ q with
                        | [u, v, w], _ =>
                          show F.nx (setN (setN (setN ρ i u) j v) l w) S1 = R.stm (if [u, v, w].length ≤ line then R.ok (Mp.D.tup [u, v, w]) S1 else R.bad) ρ _
                          rw [if_pos (show [u, v, w].length ≤ line from three_le)]
                          rfl
                    | _ => simp only [mT] at h3; first | exact absurd h3 (by decide) | cases h3
                  | _ => simp only [mT] at h2; first | exact absurd h2 (by decide) | cases h2
                | _ => simp only [mT] at h1; first | exact absurd h1 (by decide) | cases h1
      | _ => simp only [mT] at ht; first | exact absurd ht (by decide) | cases ht
    | _ => simp only [mE] at he; first | exact absurd he (by decide) | cases he
  · cases hp
/-- name = [..] -/
theorem es_exch (c : CS kk Φ N tx calm sc pn W X) (h0 : calm = true) {t : T} {e : E} {tg e' : Expr} {pos : Pos} (ht : mT tx N calm sc t tg = true) (he : mE tx N calm sc e e' = true) (hp : exchB sc tg e' = true) (hk : isLck e = false) : ES X pn W (.Assign [tg] e' pos) (evS Φ (.asg t e)) := by
  have g := c.cg
  have fk : X.env.scope.kind = .function := by rw [g.esc]; exact c.fk
  unfold exchB at hp
  split at hp
  · rename_i y py elt gens scope p
    have hsw : swapsWith (.ListComp elt gens scope p) (some (.Name y py)) pos.line X.env = pure true := by
      show (pure (X.env.blockKind == .function && X.env.kindOf y == some .local && py.line == p.line && !(scope.names.any fun (n, k) => n == y && (k == .local || k == .cell))) : Sem Bool) = pure true
      have hp' := hp
      simp only [Bool.and_eq_true] at hp'
      have e1 : (X.env.blockKind == .function) = true := by unfold PySem.Env.blockKind; rw [fk]; rfl
      have e2 : (X.env.kindOf y == some .local) = true := by
        unfold PySem.Env.kindOf
        rw [locS_ok g hp'.1.1]
        rfl
      rw [e1, e2, hp'.1.2]
      rw [show (!(scope.names.any fun (n, k) => n == y && (k == .local || k == .cell))) = true from hp'.2]
      rfl
    simp only [Bool.and_eq_true] at hp
    have hyl := locS_ok g hp.1.1
    cases t with
    | n i =>
      simp only [mT, Bool.and_eq_true, decide_eq_true_eq] at ht
      have hy : X.N[i]? = some y := by rw [g.eN]; exact ht.1.1
      cases e with
      | comp fz vs t it cond rest =>
        simp only [mE] at he
        split at he
        · rename_i heq
          cases heq
          simp only [Bool.and_eq_true] at he
          obtain ⟨⟨⟨⟨⟨⟨⟨_, h1⟩, h2⟩, h3⟩, h4⟩, h5⟩, h6⟩, h7⟩ := he
          have ok := blkB_ok h1
          rw [← g.eN, ← g.esc] at ok
          cases rest with
          | elt e =>
            simp only [mCl] at h7
            split at h7
            · refine ES.eq (es_setLc (fz := fz) (g.clm h0) (by rw [g.eN]; exact g.nd) hy hyl hsw (isrc it g h4) ok (fun j hj => by rw [ownOf_snd]; exact subB_ok h2 j hj) (fun s H C cl fp => tgt t (g.blk h0 _ s H C cl fp) h5) (fun s H C cl fp => tests cond (g.blk h0 _ s H C cl fp) h6) (fun s H C cl fp => (both e (g.blk h0 _ s H C cl fp) h7).1) (fold_plain h3)) ?_
              rw [ownOf_snd]
              rfl
            · cases h7
          | each vs1 t1 it1 cond1 e =>
            simp only [mCl] at h7
            split at h7
            · simp only [Bool.and_eq_true] at h7
              obtain ⟨⟨⟨⟨⟨⟨k1, k2⟩, k3⟩, k4⟩, k5⟩, k6⟩, k7⟩ := h7
              refine ES.eq (es_setLc2 (fz := fz) (g.clm h0) (by rw [g.eN]; exact g.nd) hy hyl hsw (isrc it g h4) ok (fun j hj => by rw [ownOf_snd]; exact subB_ok h2 j hj) (subB_ok k2) (fun j hj => by rw [ownOf_snd]; exact subB_ok k1 j hj) (fun s H C cl fp => tgt t (g.blk h0 _ s H C cl fp) h5) (fun s H C cl fp => tests cond (g.blk h0 _ s H C cl fp) h6)
                (fun s H C cl fp => isrc it1 (g.blk h0 _ s H C cl fp) k4) (fun s H C cl fp => tgt t1 (g.blk h0 _ s H C cl fp) k5) (fun s H C cl fp => tests cond1 (g.blk h0 _ s H C cl fp) k6) (fun s H C cl fp => (both e (g.blk h0 _ s H C cl fp) k7).1) (fold_plain h3) (fun env => fold_plain k3)) ?_
              rw [ownOf_snd]
              rfl
            · cases h7
        · cases he
      | lockd i e => cases hk
      | _ => simp only [mE] at he; first | exact absurd he (by decide) | cases he
    | _ => simp only [mT] at ht; first | exact absurd ht (by decide) | cases ht
  · cases hp
end
variable {kk : Nat} {Φ : Phi}
mutual
theorem sone : ∀ (s : S) {X : Cx} {pn : Pz} {W : WX} {N : List Str} {tx : Tx} {calm : Bool} {sc : Scope} {st : Stmt}, CS kk Φ N tx calm sc pn W X → mS tx N calm sc s st = true → ES X pn W st (evS Φ s)
  | .asg t e, X, pn, W, N, tx, calm, sc, st, c, h => by
    simp only [mS] at h
    split at h
    · simp only [Bool.and_eq_true] at h
      obtain ⟨⟨⟨h1, h2⟩, h3⟩, h4⟩ := h
      split at h4
      · rename_i q
        simp only [Bool.and_eq_true, Bool.not_eq_true'] at h4
        exact es_exch c h4.1 h2 h3 q h4.2
      · rename_i q1
        split at h4
        · rename_i q
          exact es_parX c h4 h2 h3 q
        · exact es_plain c.cg h1 (tgt t c.cg h2) (both e c.cg h3).1 (by simpa using q1) h4 h3
    · cases h
  | .aug i op fz e, X, pn, W, N, tx, calm, sc, st, c, h => by
    simp only [mS] at h
    split at h
    · simp only [Bool.and_eq_true, decide_eq_true_eq] at h
      obtain ⟨⟨⟨⟨⟨h1, h2⟩, h3⟩, h4⟩, h5⟩, h6⟩ := h
      subst h1
      exact es_aug (opB_ok h2) (by rw [c.cg.eN]; exact c.cg.nd) (by rw [c.cg.eN]; exact h3) (stOk_of c.cg h4 h5) (both e c.cg h6).1
    · cases h
  | .augs o i op e, X, pn, W, N, tx, calm, sc, st, c, h => by
    simp only [mS] at h
    split at h
    · simp only [Bool.and_eq_true, decide_eq_true_eq] at h
      obtain ⟨⟨⟨⟨⟨h1, h2⟩, h3⟩, h4⟩, h5⟩, h6⟩ := h
      subst h1
      exact es_augs (opB_ok h2) c.cg.hu h3 (both o c.cg h4).1 (both i c.cg h5).1 (both e c.cg h6).1
    · cases h
  | .ex e, X, pn, W, N, tx, calm, sc, st, c, h => by
    simp only [mS] at h
    split at h
    · rename_i e' _
      simp only [Bool.and_eq_true] at h
      refine es_ex (both e c.cg h.2).1 ?_
      have h1 := h.1
      cases e' <;> first | rfl | cases h1
    · cases h
  | .ret e, X, pn, W, N, tx, calm, sc, st, c, h => by
    simp only [mS] at h
    split at h
    · exact es_ret (both e c.cg h).1
    · cases h
  | .retN, X, pn, W, N, tx, calm, sc, st, c, h => by
    simp only [mS] at h
    split at h
    · exact es_retN
    · cases h
  | .ife d a b, X, pn, W, N, tx, calm, sc, st, c, h => by
    simp only [mS] at h
    split at h
    · simp only [Bool.and_eq_true] at h
      exact es_if (both d c.cg h.1.1).2 (sall a c h.1.2) (sall b c h.2)
    · cases h
  | .each t it b, X, pn, W, N, tx, calm, sc, st, c, h => by
    simp only [mS] at h
    split at h
    · simp only [Bool.and_eq_true] at h
      obtain ⟨⟨⟨⟨h1, h2⟩, h3⟩, h4⟩, h5⟩ := h
      exact es_for (c.own h1) (c.cg.clm h1) (isrc it c.cg h3) (tgt t c.cg h4) (sall b c h5) (fold_plain h2)
    · cases h
  | .loop d b, X, pn, W, N, tx, calm, sc, st, c, h => by
    simp only [mS] at h
    split at h
    · simp only [Bool.and_eq_true] at h
      exact es_while (c.own h.1.1) (both d c.cg h.1.2).2 (sall b c h.2)
    · cases h
  | .brk, X, pn, W, N, tx, calm, sc, st, c, h => by
    simp only [mS] at h
    split at h
    · exact es_brk
    · cases h
  | .cnt, X, pn, W, N, tx, calm, sc, st, c, h => by
    simp only [mS] at h
    split at h
    · exact es_cnt
    · cases h
  | .pass, X, pn, W, N, tx, calm, sc, st, c, h => by
    simp only [mS] at h
    split at h
    · exact es_pass
    · cases h
  | .raise d es, X, pn, W, N, tx, calm, sc, st, c, h => by
    simp only [mS] at h
    split at h
    · simp only [Bool.and_eq_true, decide_eq_true_eq] at h
      obtain ⟨⟨⟨⟨⟨⟨h0, h1⟩, h2⟩, h3⟩, h4⟩, h5⟩, h6⟩ := h
      subst h1
      exact es_raise c.cg h0 h2 h3 h4 h5 (alls es c.cg h6).ea
    · cases h
  | .tri b cs hs, X, pn, W, N, tx, calm, sc, st, c, h => by
    simp only [mS] at h
    split at h
    · simp only [Bool.and_eq_true] at h
      obtain ⟨⟨⟨h0, h1⟩, h2⟩, h3⟩ := h
      have hpn := c.cg.pn0 h0
      subst hpn
      refine ES.eq (es_tri (cs := cs) c.cg.g c.hs c.hf (by rw [c.cg.eN]; exact c.cg.nd) c.cg.tk (fun W pm xe tk own => sall b (c.tr h0 tk own) h2) (hall hs c h3) h1) ?_
      funext ρ S
      show (match evSs Φ b ρ S with | .exc c fs vs ρ S => (if cs.contains c then hsF (hrs Φ hs) c fs vs ρ S else .bad) | r => r) = (match evSs Φ b ρ S with | .exc c fs vs ρ S => (if cs.contains c then evHs Φ hs c fs vs ρ S else .bad) | r => r)
      cases evSs Φ b ρ S with
      | exc c fs vs ρ S =>
        simp only
        rw [evHs_eq]
      | _ => rfl
    · cases h
theorem sall : ∀ (ss : Ss) {X : Cx} {pn : Pz} {W : WX} {N : List Str} {tx : Tx} {calm : Bool} {sc : Scope} {sts : List Stmt}, CS kk Φ N tx calm sc pn W X → mSs tx N calm sc ss sts = true → ESs X pn W sts (evSs Φ ss)
  | .nil, X, pn, W, N, tx, calm, sc, sts, c, h => by
    simp only [mSs] at h
    split at h
    · exact ess_nil
    · cases h
  | .cons s ss, X, pn, W, N, tx, calm, sc, sts, c, h => by
    simp only [mSs] at h
    split at h
    · simp only [Bool.and_eq_true] at h
      exact ess_cons (sone s c h.1) (sall ss c h.2)
    · cases h
theorem hall : ∀ (hs : Hs) {X : Cx} {pn : Pz} {W : WX} {N : List Str} {tx : Tx} {calm : Bool} {sc : Scope} {hds : List ExceptHandler}, CS kk Φ N tx calm sc pn W X → mHs tx N sc hs hds = true → EHs X tx hds (hrs Φ hs)
  | .nil, X, pn, W, N, tx, calm, sc, hds, c, h => by
    simp only [mHs] at h
    split at h
    · exact .nil
    · cases h
  | .cons d i b hs, X, pn, W, N, tx, calm, sc, hds, c, h => by
    simp only [mHs] at h
    split at h
    · rename_i x np n b₀ suite ps r
      simp only [Bool.and_eq_true, decide_eq_true_eq] at h
      obtain ⟨⟨⟨⟨⟨⟨h1, h2⟩, h3⟩, h4⟩, h5⟩, h6⟩, h7⟩ := h
      subst h1
      refine .cons (h := ⟨x, i, evSs Φ b⟩) (c.cg.gl h2) (okName_of h3).1 h4 ?_ (fun a oe cls dd pm hz hd => sall b (c.suite hz hd) h6) (hall hs c h7)
      cases i with
      | none =>
        cases n with
        | none => trivial
        | some _ => cases h5
      | some i =>
        cases n with
        | none => cases h5
        | some n =>
          simp only [Bool.and_eq_true, decide_eq_true_eq] at h5
          exact ⟨by rw [c.cg.eN]; exact h5.1, locS_ok c.cg h5.2⟩
    · cases h
end
end Mp
/-! Mp, part W: defs. -/
namespace Mp
open PySem PySem.Spec PyProof.Rows L2
section
variable {K : Fg} {mg : MG} {ι ι' : List Addr} {M M' : Addr → Prop} {H H' : Hp} {S S' : Store}
/-- the state behind a def's run on its own store ι0, seen from the caller -/
structure Ret (K : Fg) (ι0 : List Addr) (M : Addr → Prop) (H : Hp) (ι' : List Addr) (M' : Addr → Prop) (H' : Hp) (S' : Store) : Prop where
  adv : Adv ι0 M H ι' M' H'
  sr : SR K ι' M' H' S'
  mt : ∀ a, M a → H a ≠ none
theorem frz_rep {ι0 : List Addr} (R : Ret K ι0 M H ι' M' H' S') (ι : List Addr) : ∀ (n : Nat),
    (∀ (d d' : D) (v : V), frz S' ι0.length n d = some d' → Rep K ι' M' H' d v → Rep K ι M H' d' v) ∧ (∀ (ds ds' : List D) (vs : List V), mapO (frz S' ι0.length n) ds = some ds' → RepL K ι' M' H' ds vs → RepL K ι M H' ds' vs) := by
  have lists : ∀ n : Nat, (∀ (d d' : D) (v : V), frz S' ι0.length n d = some d' → Rep K ι' M' H' d v → Rep K ι M H' d' v) → ∀ (ds ds' : List D) (vs : List V), mapO (frz S' ι0.length n) ds = some ds' → RepL K ι' M' H' ds vs → RepL K ι M H' ds' vs := by
    intro n h ds
    induction ds with
    | nil =>
      intro ds' vs e r
      cases e
      exact r
    | cons d ds ih =>
      intro ds' vs e r
      obtain ⟨v, vr, rfl, r1, r2⟩ := r
      simp only [mapO] at e
      cases q : frz S' ι0.length n d with
      | none => rw [q] at e; cases e
      | some y =>
        rw [q] at e
        simp only at e
        cases q2 : mapO (frz S' ι0.length n) ds with
        | none => rw [q2] at e; cases e
        | some ys =>
          rw [q2] at e
          cases e
          exact .cons (h _ _ _ q r1) (ih _ _ q2 r2)
  have len : ∀ {n : Nat} {ds ds' : List D}, mapO (frz S' ι0.length n) ds = some ds' → ds'.length = ds.length := by
    intro n ds
    induction ds with
    | nil => intro ds' e; cases e; rfl
    | cons d ds ih =>
      intro ds' e
      simp only [mapO] at e
      cases q : frz S' ι0.length n d with
      | none => rw [q] at e; cases e
      | some y =>
        rw [q] at e
        simp only at e
        cases q2 : mapO (frz S' ι0.length n) ds with
        | none => rw [q2] at e; cases e
        | some ys =>
          rw [q2] at e
          cases e
          rw [List.length_cons, List.length_cons, ih q2]
  intro n
  have one : ∀ (d d' : D) (v : V), frz S' ι0.length n d = some d' → Rep K ι' M' H' d v → Rep K ι M H' d' v := by
    induction n with
    | zero =>
      intro d d' v e r
      simp only [frz] at e
      by_cases c : d.pure = true
      · rw [if_pos c] at e
        cases e
        exact Rep.ofPure R.adv.mm _ _ c r
      · rw [if_neg c] at e
        cases e
    | succ n ih =>
      intro d d' v e r
      simp only [frz] at e
      by_cases c : d.pure = true
      · rw [if_pos c] at e
        cases e
        exact Rep.ofPure R.adv.mm _ _ c r
      · rw [if_neg c] at e
        cases d with
        | tup xs =>
          simp only at e
          cases q : mapO (frz S' ι0.length n) xs with
          | none => rw [q] at e; cases e
          | some ys =>
            rw [q] at e
            cases e
            obtain ⟨a, vs, rfl, h1, h2, h3⟩ := r
            refine ⟨a, vs, rfl, ?_, by rw [len q]; exact h2, lists n ih _ _ _ q h3⟩
            rcases h1 with ⟨h1, hn⟩ | h1
            · exact .inl ⟨h1, fun z => hn (R.adv.mm _ z)⟩
            · exact .inr h1
        | lst xs =>
          simp only at e
          cases q : mapO (frz S' ι0.length n) xs with
          | none => rw [q] at e; cases e
          | some ys =>
            rw [q] at e
            cases e
            obtain ⟨a, vs, rfl, h1, h2, h3⟩ := r
            exact ⟨a, vs, rfl, h1.mono fun y hn => ⟨y, fun z => hn (R.adv.mm _ z)⟩, by rw [len q]; exact h2, lists n ih _ _ _ q h3⟩
        | ref k =>
          simp only at e
          by_cases hk : ι0.length ≤ k
          · rw [if_pos hk] at e
            obtain ⟨a, rfl, ha⟩ := r
            have nM : ¬ M a := fun z => by
              rcases R.adv.newi a (List.mem_of_getElem? ha) with y | y
              · obtain ⟨p, hp, e2⟩ := List.mem_iff_getElem.mp y
                obtain ⟨r0, e3⟩ := R.adv.pre
                have g1 : ι'[p]? = some a := by rw [e3, List.getElem?_append_left hp, List.getElem?_eq_getElem hp, e2]
                obtain ⟨k1, f1⟩ := List.getElem?_eq_some_iff.mp g1
                obtain ⟨k2, f2⟩ := List.getElem?_eq_some_iff.mp ha
                have := (List.getElem_inj R.sr.nd).mp (f1.trans f2.symm)
                omega
              · exact R.mt a z y
            obtain ⟨o, h3, h4⟩ := R.sr.get ha
            rw [h3] at e
            cases o with
            | lst xs =>
              simp only at e
              cases q : mapO (frz S' ι0.length n) xs with
              | none => rw [q] at e; cases e
              | some ys =>
                rw [q] at e
                cases e
                obtain ⟨vs, h5, h6, h7⟩ := h4
                exact ⟨a, vs, rfl, .inl ⟨.inl h5, nM⟩, by rw [len q]; exact h6, lists n ih _ _ _ q h7⟩
            | dic ks xs => cases e
            | lok _ _ => cases e
          · rw [if_neg hk] at e
            cases e
        | _ => cases e
  exact ⟨one, lists n one⟩
theorem mapO_len {f : D → Option D} : ∀ {ds ds' : List D}, mapO f ds = some ds' → ds'.length = ds.length
  | [], ds', e => by cases e; rfl
  | d :: ds, ds', e => by
    simp only [mapO] at e
    cases q : f d with
    | none => rw [q] at e; cases e
    | some y =>
      rw [q] at e
      simp only at e
      cases q2 : mapO f ds with
      | none => rw [q2] at e; cases e
      | some ys =>
        rw [q2] at e
        cases e
        rw [List.length_cons, List.length_cons, mapO_len q2]
theorem OPure {K : Fg} {ι ι2 : List Addr} {M M2 : Addr → Prop} {H : Hp} (mm : ∀ a, M2 a → M a) {o : O} {a : Addr} (p : o.pure = true) (h : ORep K ι M H o a) : ORep K ι2 M2 H o a := by
  cases o with
  | lst xs =>
    obtain ⟨vs, h1, h2, h3⟩ := h
    exact ⟨vs, h1, h2, RepL.ofPure mm _ _ p h3⟩
  | dic ks xs =>
    obtain ⟨kvs, h1, h2, h3⟩ := h
    exact ⟨kvs, h1, h2, RepL.ofPure mm _ _ p h3⟩
  | lok ks xs => cases p
/-- what is handed in, and how it is put back -/
inductive Hand (ι : List Addr) (S : Store) : List Addr → (Store → Option Store) → Prop
  | none : Hand ι S [] fun _ => some S
  | one {n : Nat} {a : Addr} (h : ι[n]? = some a) : Hand ι S [a] (put1 S n)
/-- the objects behind a run, in a state (ι2, M2) that the caller is brought to -/
theorem hand_obj {ι0 ι2 : List Addr} {M2 : Addr → Prop} {put : Store → Option Store} {S2 : Store} (sr : SR K ι M H S) (R : Ret K ι0 M H ι' M' H' S') (hp : Hand ι S ι0 put) (e : put S' = some S2) (x2 : Adv ι M H ι2 M2 H') (sub : ∀ a, M2 a → M' a) :
    S2.length = S.length ∧ ∀ (m : Nat) o a, S2[m]? = some o → ι[m]? = some a → ORep K ι2 M2 H' o a := by
  cases hp with
  | none =>
    cases e
    refine ⟨rfl, fun m o a h1 h2 => (sr.obj m o a h1 h2).adv x2 sr.im ?_⟩
    have hm := sr.mt a (sr.im a (List.mem_of_getElem? h2))
    cases q : H a with
    | none => exact absurd q hm
    | some u => exact R.adv.keep a u q (by simp)
  | @one n a0 h0 =>
    unfold put1 at e
    obtain ⟨r0, e0⟩ := R.adv.pre
    have h00 : ι'[0]? = some a0 := by rw [e0]; rfl
    obtain ⟨o0, g1, g2⟩ := R.sr.get h00
    rw [g1] at e
    simp only at e
    by_cases c : o0.pure = true
    · rw [if_pos c] at e
      cases e
      refine ⟨List.length_set .., fun m o a h1 h2 => ?_⟩
      by_cases hm : m = n
      · subst hm
        rw [h0] at h2
        cases h2
        rw [List.getElem?_set_self (by rw [← sr.len]; exact (List.getElem?_eq_some_iff.mp h0).1)] at h1
        cases h1
        exact OPure sub c g2
      · rw [List.getElem?_set_ne (Ne.symm hm)] at h1
        refine (sr.obj m o a h1 h2).adv x2 sr.im ?_
        have hmt := sr.mt a (sr.im a (List.mem_of_getElem? h2))
        have hne : a ≠ a0 := fun z => by
          subst z
          obtain ⟨k1, f1⟩ := List.getElem?_eq_some_iff.mp h2
          obtain ⟨k2, f2⟩ := List.getElem?_eq_some_iff.mp h0
          exact hm ((List.getElem_inj sr.nd).mp (f1.trans f2.symm))
        cases q : H a with
        | none => exact absurd q hmt
        | some u => exact R.adv.keep a u q (by simpa using hne)
    · rw [if_neg c] at e
      cases e
theorem hand_in {ι0 : List Addr} {put : Store → Option Store} (hp : Hand ι S ι0 put) : ∀ a ∈ ι0, a ∈ ι := by
  cases hp with
  | none => intro a h; cases h
  | one h => intro a ha; rw [List.mem_singleton.mp ha]; exact List.mem_of_getElem? h
theorem hand_adv {ι0 : List Addr} {put : Store → Option Store} (sr : SR K ι M H S) (R : Ret K ι0 M H ι' M' H' S') (hp : Hand ι S ι0 put) : Adv ι M H ι M H' where
  pre := ⟨[], by simp⟩
  mm := fun _ h => h
  keep := fun a o h hn => R.adv.keep a o h fun z => hn (hand_in hp a z)
  fresh := fun _ h => .inl h
  dom := R.adv.dom
  newi := fun _ h => .inl h
  frzk := R.adv.frzk
theorem backR_ok {W : WX} {σ : L2.St} {fz : Bool} {ι0 : List Addr} {put : Store → Option Store} {res : R D} {Q : VK} (sr : SR K ι M H S) (hp : Hand ι S ι0 put) (p : PostE K mg W σ ι M H (backR fz ι0.length put res) Q) : PostE K mg W σ ι0 M H res Q := by
  cases res with
  | bad => exact p
  | exc c fs vs S' =>
    intro cls dd ι' M' H' x s' xr
    have R : Ret K ι0 M H ι' M' H' S' := ⟨x, s', sr.mt⟩
    simp only [backR] at p
    cases e : put S' with
    | none => rw [e] at p; exact p.elim
    | some S2 =>
      rw [e] at p
      simp only at p
      cases e2 : mapO (frz S' ι0.length deep) vs with
      | none => rw [e2] at p; exact p.elim
      | some vs2 =>
        rw [e2] at p
        have ad := hand_adv sr R hp
        obtain ⟨hl, ho⟩ := hand_obj sr R hp e ad R.adv.mm
        refine p cls dd ι M H' ad ⟨by rw [hl]; exact sr.len, sr.nd, sr.im, fun a h => ad.dom a (sr.mt a h), ho⟩ ?_
        obtain ⟨Ca, e3, e4, h | ⟨f, y, d, v, e5, e6, e7, e8, e9, e10⟩⟩ := xr
        · obtain ⟨h1, h2⟩ := h
          subst h2
          cases e2
          exact ⟨Ca, e3, e4, .inl ⟨h1, rfl⟩⟩
        · subst e6
          have z := (frz_rep R ι deep).2 _ _ _ e2 (.one e10)
          match vs2, mapO_len e2, z with
          | [y2], _, z =>
            obtain ⟨v2, r2, e11, z1, z2⟩ := z
            cases e11
            exact ⟨Ca, e3, e4, .inr ⟨f, y2, d, v, e5, rfl, e7, e8, fun q => e9 (R.adv.mm _ q), z1⟩⟩
  | ok d S' =>
    intro v ι' M' H' x s' rv
    have R : Ret K ι0 M H ι' M' H' S' := ⟨x, s', sr.mt⟩
    simp only [backR] at p
    cases e : put S' with
    | none => rw [e] at p; exact p.elim
    | some S2 =>
      rw [e] at p
      simp only [back] at p
      have ad := hand_adv sr R hp
      obtain ⟨hl, ho⟩ := hand_obj sr R hp e ad R.adv.mm
      have sr2 : SR K ι M H' S2 := ⟨by rw [hl]; exact sr.len, sr.nd, sr.im, fun a h => ad.dom a (sr.mt a h), ho⟩
      cases fz with
      | true =>
        rw [if_pos rfl] at p
        cases e2 : frz S' ι0.length deep d with
        | none => rw [e2] at p; exact p.elim
        | some d2 =>
          rw [e2] at p
          exact p v ι M H' ad sr2 ((frz_rep R ι deep).1 _ _ _ e2 rv)
      | false =>
        rw [if_neg (by decide)] at p
        by_cases c : d.pure = true
        · rw [if_pos c] at p
          exact p v ι M H' ad sr2 (Rep.ofPure R.adv.mm _ _ c rv)
        · rw [if_neg c] at p
          cases d with
          | ref k =>
            simp only at p
            by_cases hk : ι0.length ≤ k
            · rw [if_pos hk] at p
              obtain ⟨a, rfl, ha⟩ := rv
              obtain ⟨o, h3, h4⟩ := s'.get ha
              rw [h3] at p
              simp only at p
              by_cases co : o.pure = true
              · rw [if_pos co] at p
                have Ha : H a = none := by
                  rcases x.newi a (List.mem_of_getElem? ha) with y | y
                  · obtain ⟨q, hq, e2⟩ := List.mem_iff_getElem.mp y
                    obtain ⟨r0, e3⟩ := x.pre
                    have g1 : ι'[q]? = some a := by rw [e3, List.getElem?_append_left hq, List.getElem?_eq_getElem hq, e2]
                    obtain ⟨k1, f1⟩ := List.getElem?_eq_some_iff.mp g1
                    obtain ⟨k2, f2⟩ := List.getElem?_eq_some_iff.mp ha
                    have := (List.getElem_inj s'.nd).mp (f1.trans f2.symm)
                    omega
                  · exact y
                have nι : a ∉ ι := fun z => sr.mt a (sr.im a z) Ha
                have H'a : H' a ≠ none := s'.mt a (s'.im a (List.mem_of_getElem? ha))
                have ad2 : Adv ι M H (ι ++ [a]) (fun b => M b ∨ b = a) H' := ⟨⟨[a], rfl⟩, fun _ h => .inl h, ad.keep, fun b h => h.elim .inl fun z => .inr (by rw [z]; exact Ha), ad.dom, fun b h => (List.mem_append.mp h).elim .inl fun z => .inr (by rw [List.mem_singleton.mp z]; exact Ha), ad.frzk⟩
                have sub : ∀ b, (M b ∨ b = a) → M' b := fun b h => h.elim (x.mm b) fun z => by rw [z]; exact s'.im a (List.mem_of_getElem? ha)
                obtain ⟨hl2, ho2⟩ := hand_obj sr R hp e ad2 sub
                have hιS : ι.length = S2.length := by rw [hl2]; exact sr.len
                refine p _ (ι ++ [a]) (fun b => M b ∨ b = a) H' ad2 ⟨by rw [List.length_append, List.length_append, hιS]; rfl, ?_, fun b h => (List.mem_append.mp h).elim (fun z => .inl (sr.im b z)) fun z => .inr (List.mem_singleton.mp z), fun b h => h.elim (fun z => ad.dom b (sr.mt b z)) fun z => by rw [z]; exact H'a, fun m u b h1 h2 => ?_⟩ ⟨a, rfl, ?_⟩
                · rw [List.nodup_append]
                  exact ⟨sr.nd, by simp, fun b hb q hq z => nι (by rw [← List.mem_singleton.mp hq, ← z]; exact hb)⟩
                · by_cases hm : m < S2.length
                  · rw [List.getElem?_append_left hm] at h1
                    rw [List.getElem?_append_left (by rw [hιS]; exact hm)] at h2
                    exact ho2 m u b h1 h2
                  · have hl' : m < (S2 ++ [o]).length := (List.getElem?_eq_some_iff.mp h1).1
                    rw [List.length_append, List.length_singleton] at hl'
                    have en : m = S2.length := by omega
                    subst en
                    rw [List.getElem?_append_right (Nat.le_refl _), Nat.sub_self] at h1
                    rw [List.getElem?_append_right (by rw [hιS]; exact Nat.le_refl _), hιS, Nat.sub_self] at h2
                    cases h1
                    cases h2
                    exact OPure sub co h4
                · rw [List.getElem?_append_right (by rw [hιS]; exact Nat.le_refl _), hιS, Nat.sub_self]
                  rfl
              · rw [if_neg co] at p
                exact p.elim
            · rw [if_neg hk] at p
              exact p.elim
          | _ => exact p.elim
end
end Mp
/-! Mp, part X: a def's promise; the whole table. -/
namespace Mp
open PySem PySem.Spec PyProof.Rows L2
section
variable {P : Program} {w : World} {K : Fg} {mg : MG} {base : Heap}
theorem fret_post {ι : List Addr} {M : Addr → Prop} {H : Hp} {r : F} {Q : VK} {E : XK} (p : PostE K mg (fun c d _ H => E c d H) [] ι M H (fret r) Q) : PostF K mg [] (fun c d _ H => E c d H) { nx := fun _ H' => Q .non H', rt := Q } ι M H r := by
  cases r with
  | nx ρ S => exact fun σ' ι' M' H' x s' l' => p .non ι' M' H' x s' rfl
  | rt d S => exact fun v ι' M' H' x s' r' => p v ι' M' H' x s' r'
  | exc c fs vs ρ S => exact fun cls dd σ' ι' M' H' x s' l' xr => p cls dd ι' M' H' x s' xr
  | bk => exact p.elim
  | ct => exact p.elim
  | bad => exact p.elim
theorem start_slots {ι : List Addr} {M : Addr → Prop} {H : Hp} {N : List Str} {ns : Nat} {ds : List D} {vs : List V} (hn : N.length = ns) (r : RepL K ι M H ds vs) : SLt K mg [] ι M H (startE ns ds) (start N vs) := by
  have hl := r.length
  refine ⟨by unfold startE L2.start; simp only [List.length_append, List.length_map, List.length_replicate]; omega, fun i d e => ?_⟩
  unfold startE at e
  by_cases hi : i < ds.length
  · rw [List.getElem?_append_left (by simpa using hi), List.getElem?_map] at e
    cases q : ds[i]? with
    | none => rw [q] at e; cases e
    | some d' =>
      rw [q] at e
      cases e
      obtain ⟨v, e1, e2⟩ := RepL.get r q
      have e3 : (start N vs)[i]? = some (some v) := by
        unfold L2.start
        rw [List.getElem?_append_left (by rw [List.length_map, ← hl]; exact hi), List.getElem?_map, e1]
        rfl
      rw [e3]
      exact .of e2
  · rw [List.getElem?_append_right (by simpa using hi), List.getElem?_replicate] at e
    split at e <;> cases e
theorem ofPure_sub {ι : List Addr} {M : Addr → Prop} {H : Hp} {n : Nat} {a : Addr} (ha : ι[n]? = some a) : ∀ {ds : List D} {vs : List V}, RepL K ι M H ds vs → ds.all okArg = true → (∀ m ∈ refsOf ds, m = n) → RepL K [a] M H (ds.map sub0) vs
  | [], vs, r, _, _ => r
  | d :: ds, vs, r, h, hm => by
    obtain ⟨v, vr, rfl, r1, r2⟩ := r
    simp only [List.all_cons, Bool.and_eq_true] at h
    cases d with
    | ref m =>
      have e : m = n := hm m (by simp [refsOf])
      subst e
      obtain ⟨b, rfl, hb⟩ := r1
      rw [ha] at hb
      cases hb
      exact .cons ⟨a, rfl, rfl⟩ (ofPure_sub ha r2 h.2 fun m hm' => hm m (by simp [refsOf, hm']))
    | non => exact .cons (Rep.ofPure (fun _ z => z) _ _ h.1 r1) (ofPure_sub ha r2 h.2 hm)
    | bl b => exact .cons (Rep.ofPure (fun _ z => z) _ _ h.1 r1) (ofPure_sub ha r2 h.2 hm)
    | int b => exact .cons (Rep.ofPure (fun _ z => z) _ _ h.1 r1) (ofPure_sub ha r2 h.2 hm)
    | str b => exact .cons (Rep.ofPure (fun _ z => z) _ _ h.1 r1) (ofPure_sub ha r2 h.2 hm)
    | ty b => exact .cons (Rep.ofPure (fun _ z => z) _ _ h.1 r1) (ofPure_sub ha r2 h.2 hm)
    | tup b => exact .cons (Rep.ofPure (fun _ z => z) _ _ h.1 r1) (ofPure_sub ha r2 h.2 hm)
    | lst b => exact .cons (Rep.ofPure (fun _ z => z) _ _ h.1 r1) (ofPure_sub ha r2 h.2 hm)
    | dic b b2 => exact .cons (Rep.ofPure (fun _ z => z) _ _ h.1 r1) (ofPure_sub ha r2 h.2 hm)
    | exc b b2 b3 => exact r1.elim
theorem pure_of_refs : ∀ {ds : List D}, ds.all okArg = true → refsOf ds = [] → pureL ds = true
  | [], _, _ => rfl
  | d :: ds, h, e => by
    simp only [List.all_cons, Bool.and_eq_true] at h
    cases d with
    | ref m => simp [refsOf] at e
    | _ =>
      show (D.pure _ && pureL ds) = true
      rw [Bool.and_eq_true]
      exact ⟨h.1, pure_of_refs h.2 e⟩
/-- what all defs' bodies are walked with, one level below -/
structure Lv (P : Program) (w : World) (K : Fg) (mg : MG) (base : Heap) (tx : Tx) (k : Nat) (Φ : Phi) : Prop where
  g : Gb P w K mg base tx
  ini : ∀ c, tx.ini c = true → ClsAt P w K mg base c
  fns : ∀ f ks, tx.fn f ks = true → FnAt P w K mg base k Φ f ks
  st : ∀ x, tx.st x = true
  two : 2 ≤ k
theorem fn_ok {x qual : Str} {st : Stmt} {fa : Addr} {fd : FuncData} {N ps : List Str} {k : Nat} {tx : Tx} {Φ : Phi} {fn : Fn} (F : Fun K x qual st fa fd) (Sc : FnScope N ps (defScope st)) (hns : N.length = fn.ns) (hm : mSs tx N true (defScope st) fn.body (defBody st) = true) (L : Lv P w K mg base tx k Φ) :
    FnOk P w K mg base (L2.CX P w) (k + 1) fa fd ps (spF K mg ps (callF Φ fn)) := by
  refine Fun.okX F Sc (fun vs H Q E h => h.1) fun cdv A outer s H vs Q E hr hsp => ?_
  obtain ⟨hlen, ι, M, S, ds, sr, rl, p⟩ := hsp
  have cs : CS k Φ N tx true (defScope st) [] (fun c d _ H => E c d H) (cxOf (L2.CX P w) P w K mg base N qual (defScope st) fa cdv A outer s H E) :=
    { cg := ⟨(fun h => by cases h), fun _ => rfl, L.g, rfl, Sc.nd, rfl, fun _ _ => .inl rfl, fun _ => rfl, hr.units, takes_of rfl rfl rfl rfl, fun _ => hr, L.two, L.ini, L.fns⟩
      own := fun _ => passes_of rfl, hs := rfl, hf := rfl, fk := Sc.kind }
  refine ⟨tS K mg [] (fun c d _ H => E c d H) (evSs Φ fn.body), sall fn.body cs hm, ?_⟩
  unfold callF at p
  by_cases hw : fn.whole = true
  · rw [if_pos hw] at p
    exact ⟨ι, M, startE fn.ns ds, S, sr, start_slots hns rl, fret_post p⟩
  · rw [if_neg hw] at p
    by_cases ha : ds.all okArg = true
    · rw [if_pos ha] at p
      cases er : refsOf ds with
      | nil =>
        rw [er] at p
        have p' := backR_ok (ι0 := []) sr .none p
        have hp := pure_of_refs ha er
        exact ⟨[], M, startE fn.ns ds, [], ⟨rfl, .nil, by simp, sr.mt, by simp⟩, start_slots hns (RepL.ofPure (fun _ z => z) _ _ hp rl), fret_post p'⟩
      | cons n r =>
        cases r with
        | nil =>
          rw [er] at p
          simp only at p
          cases eo : S[n]? with
          | none => rw [eo] at p; exact p.elim
          | some o =>
            rw [eo] at p
            simp only at p
            by_cases hpo : o.pure = true
            · rw [if_pos hpo] at p
              have hlt : n < ι.length := by rw [sr.len]; exact (List.getElem?_eq_some_iff.mp eo).1
              have hn : ι[n]? = some ι[n] := List.getElem?_eq_getElem hlt
              have p' := backR_ok (ι0 := [ι[n]]) sr (.one hn) p
              have ho := sr.obj n o _ eo hn
              refine ⟨[ι[n]], M, startE fn.ns (ds.map sub0), [o], ⟨rfl, by simp, fun b hb => ?_, sr.mt, fun m u b h1 h2 => ?_⟩, start_slots hns (ofPure_sub hn rl ha (by rw [er]; simp)), ?_⟩
              · rw [List.mem_singleton.mp hb]
                exact sr.im _ (List.mem_of_getElem? hn)
              · cases m with
                | zero =>
                  cases h1
                  cases h2
                  exact OPure (fun _ z => z) hpo ho
                | succ m => simp at h1
              · exact fret_post p'
            · rw [if_neg hpo] at p
              exact p.elim
        | cons _ _ =>
          rw [er] at p
          exact p.elim
    · rw [if_neg ha] at p
      exact p.elim
end
end Mp
/-! Mp, part Y: the whole table; a law. -/
namespace Mp
open PySem PySem.Spec PyProof.Rows L2
/-- a def of the text -/
structure DefAt (K : Fg) (mg : MG) (tx : Tx) (kss : List (List Str)) (f : Str) (ps : List Str) (fn : Fn) : Prop where
  ex : ∃ (a : Addr) (qual : Str) (st : Stmt) (fd : FuncData) (N : List Str), mg f = some (.ref a) ∧ Fun K f qual st a fd ∧ FnScope N ps (defScope st) ∧ N.length = fn.ns ∧ mSs tx N true (defScope st) fn.body (defBody st) = true ∧
    ∀ ks ∈ kss, ∀ us ws zs, arr ps us ks ws = some zs → bindArgs fd ⟨us, ks.zip ws⟩ = pure (ps.zip zs)
/-- what the whole text is known by -/
structure TxtOk (P : Program) (w : World) (K : Fg) (mg : MG) (base : Heap) (tx : Tx) (T : Tab) : Prop where
  g : Gb P w K mg base tx
  ini : ∀ c, tx.ini c = true → ClsAt P w K mg base c
  st : ∀ x, tx.st x = true
  defs : ∀ f ks, tx.fn f ks = true → ∃ ps fn kss, T f = some (ps, fn) ∧ DefAt K mg tx kss f ps fn ∧ ks ∈ kss
section
variable {P : Program} {w : World} {K : Fg} {mg : MG} {base : Heap} {tx : Tx} {T : Tab}
theorem tab_ok (t : TxtOk P w K mg base tx T) : ∀ (n : Nat) (f : Str) (ks : List Str), tx.fn f ks = true → FnAt P w K mg base (n + 2) (phi T n) f ks
  | 0, f, ks, h => by
    obtain ⟨ps, fn, kss, hT, ⟨a, qual, st, fd, N, hm, F, Sc, hns, hb, hbind⟩, hks⟩ := t.defs f ks h
    refine ⟨a, fd, ps, fun _ _ => .bad, hm, F.kp, ⟨fun vs H Q E z => z.1, fun A outer s H args us vs Q E _ _ _ _ z => ?_⟩, fun s us ws zs _ e => .of_eq (hbind ks hks us ws zs e), fun xs ys S => ?_⟩
    · obtain ⟨_, ι, M, S, ds, _, _, p⟩ := z
      exact p.elim
    · show R.bad = _
      cases arr ps xs ks ys <;> rfl
  | n + 1, f, ks, h => by
    obtain ⟨ps, fn, kss, hT, ⟨a, qual, st, fd, N, hm, F, Sc, hns, hb, hbind⟩, hks⟩ := t.defs f ks h
    have L : Lv P w K mg base tx (n + 2) (phi T n) := ⟨t.g, t.ini, tab_ok t n, t.st, by omega⟩
    refine ⟨a, fd, ps, callF (phi T n) fn, hm, F.kp, fn_ok F Sc hns hb L, fun s us ws zs _ e => .of_eq (hbind ks hks us ws zs e), fun xs ys S => ?_⟩
    show (match T f with | some (ps, fn) => (match arr ps xs ks ys with | some as => callF (phi T n) fn as S | none => .bad) | none => .bad) = _
    rw [hT] <;> rfl
/-- the law itself -/
theorem law_fn (t : TxtOk P w K mg base tx T) (n : Nat) {f : Str} (h : tx.fn f [] = true) : ∃ (a : Addr) (fd : FuncData) (ps : List Str) (fn : Fn), mg f = some (.ref a) ∧ T f = some (ps, fn) ∧ (∀ (s : Shared) (us : List Value), us.length = ps.length → BindsTo s fd ⟨us, []⟩ (ps.zip us)) ∧ FnOk P w K mg base (L2.CX P w) (n + 3) a fd ps (spF K mg ps (callF (phi T n) fn)) := by
  obtain ⟨ps, fn, kss, hT, ⟨a, qual, st, fd, N, hm, F, Sc, hns, hb, hbind⟩, hks⟩ := t.defs f [] h
  have L : Lv P w K mg base tx (n + 2) (phi T n) := ⟨t.g, t.ini, tab_ok t n, t.st, by omega⟩
  refine ⟨a, fd, ps, fn, hm, hT, fun s us hl => .of_eq (hbind [] hks us [] us ?_), fn_ok F Sc hns hb L⟩
  unfold arr
  rw [if_pos ⟨by simpa using hl, rfl⟩, hl, List.drop_length]
  show (match some ([] : List Value) with | some r => some (us ++ r) | none => none) = some us
  simp
/-! ### the head -/
theorem law_callM {CX : CXT} {k : Nat} {fa a : Addr} {fd : FuncData} {mb : Str → Option Value} {x : Str} {sp : Sp} {s₁ : Shared} {vs : List Value} {ns : List Int}
    (KX : K.In s₁.heap) (hns : s₁.heap.Ns mainGlobals mg) (hb : s₁.heap.Ns builtinsNs mb) (hbb : ∀ x : Str, x ≠ "__name__" → mb x = bootBuiltins x) (hlim : s₁.heap.NoLimit) (hg : s₁.gens = #[])
    (ha : s₁.heap.get? a = some { cls := .type "list", data := .seq vs.toArray }) (hi : IntsAre vs ns) (hl : ns.length ≤ sizeLine) (hr : Room k callerA)
    (F : ∀ base : Heap, K.In base → base.Ns mainGlobals mg → FnOk P w K mg base CX k fa fd [x] sp) (hbind : ∀ (s : Shared) (u : Value), BindsTo s fd ⟨[u], []⟩ [(x, u)])
    (hsp : ∀ H : Hp, LsAt K H a (ns.map V.int) → sp [.ref a] H (fun v _ => v = .bl true) fun _ _ _ => False) (hCX : ∀ H e s', CX [] H s₁ (fun _ _ _ => False) e s' → False) :
    codeAny (model P w) callerA (.call (.ref fa) ⟨[.ref a], []⟩) (fun r s' => r = .ok (.ret (.bool true)) ∧ OldK s₁.heap s'.heap ∧ s'.os = s₁.os ∧ AllBare s'.gens) s₁ := by
  have rv := vals_ints hi; have lenV := hi.length
  have core : ∀ H : Hp, (∀ b, H b = none ∨ ∃ o xs, H b = some (.frz o (.lst xs))) → LsAt K H a (ns.map V.int) → HOk P w H s₁.heap → (∀ b, H b ≠ none → b = a) → (H a ≠ none → K.lookup a = none) →
      codeAny (model P w) callerA (.call (.ref fa) ⟨[.ref a], []⟩) (fun r s' => r = .ok (.ret (.bool true)) ∧ OldK s₁.heap s'.heap ∧ s'.os = s₁.os ∧ AllBare s'.gens) s₁ := by
    intro H hO hS hok hA hK
    have base_of : ∀ {b : Addr} {o : Obj}, s₁.heap.get? b = some o → H b = none → (hidT s₁.heap H).get? b = some o := fun {_ _} e n => hidT_get e n
    have noA : ∀ {b : Addr} {o : Obj} {es : Array DictEntry} {ep : Nat}, s₁.heap.get? b = some o → o.data = .dict es ep → H b = none := fun {b o es ep} e d => by
      rcases hO b with q | ⟨o', xs, q⟩
      · exact q
      · have e' : b = a := hA b (by rw [q]; simp)
        rw [e', ha] at e; cases e; exact absurd (show Data.seq vs.toArray _ = Data.dict es ep from d) (by simp)
    have nsK : ∀ {b : Addr} {m : Str → Option Value}, s₁.heap.Ns b m → (hidT s₁.heap H).Ns b m := fun {_ _} ⟨o, es, ep, e, d, r⟩ => ⟨o, es, ep, base_of e (noA e d), d, r⟩
    have hKb : K.In (hidT s₁.heap H) := fun b o e => base_of (KX b o e) (by
      rcases hO b with q | ⟨o', xs, q⟩
      · exact q
      · have e' : b = a := hA b (by rw [q]; simp)
        rw [e', hK (by rw [← e', q]; simp)] at e; cases e)
    have hM : Mod K mg (hidT s₁.heap H) := ⟨hKb, nsK hns, ⟨mb, nsK hb, hbb⟩, let ⟨mc, g1, g2⟩ := hlim; ⟨mc, nsK g1, g2⟩⟩
    have e0 : Env0 P w K mg (hidT s₁.heap H) callerA [] s₁ H := ⟨rfl, hM, fun _ _ e => of_hidT e, Nat.le_of_eq (hidT_size _ _), trivial, fun b hb => absurd (show b ∈ ([] : List Addr) from hb) (by simp), hok, .of_eq hg⟩
    refine codeAny_mono ((F _ hKb (nsK hns)).run callerA [] s₁ H ⟨[.ref a], []⟩ [.ref a] [.ref a] _ _ hr e0 (hbind s₁ (.ref a)) (.cons rfl .nil) (hsp H hS)) fun r s' h => ?_
    match r, h with
    | .error e, h => exact (hCX H e s' h).elim
    | .ok .next, h => exact False.elim h
    | .ok .brk, h => exact False.elim h
    | .ok .cont, h => exact False.elim h
    | .ok (.ret u), h =>
      obtain ⟨v, H', os, bare, un, hok', r', q⟩ := h
      obtain rfl : v = .bl true := q
      obtain rfl : u = Value.bool true := r'
      refine ⟨rfl, OldK.of_keep fun b o e => ?_, os, bare⟩
      rcases hO b with z | ⟨ob, xs, z⟩
      · exact un.keep b o e z (by intro y; exact absurd (show b ∈ ([] : List Addr) from y) (by simp)) (by simp)
      · obtain ⟨e1, _⟩ := hok b _ z; obtain ⟨e2, _⟩ := hok' b _ (un.frzs b ob _ z)
        rw [e] at e1; cases e1; exact e2
  cases hk : K.lookup a with
  | some o =>
    have e := KX a o hk
    rw [ha] at e; cases e
    refine core (fun _ => none) (fun _ => .inl rfl) (.inr ⟨vs.toArray, _, hk, by rw [List.size_toArray, lenV]; exact hl, by simpa using rv⟩) (fun b u z => by cases (show (none : Option HO) = some u from z)) (fun b z => absurd rfl z) fun z => absurd rfl z
  | none =>
    refine core (fun b => if b = a then some (.frz { cls := .type "list", data := .seq vs.toArray } (.lst (ns.map V.int))) else none) (fun b => ?_) (.inl (.inr ⟨{ cls := .type "list", data := .seq vs.toArray }, if_pos rfl⟩)) (fun b u z => ?_) (fun b z => ?_) fun _ => hk
    · by_cases hb : b = a; exact .inr ⟨_, _, if_pos hb⟩; exact .inl (if_neg hb)
    · by_cases hb : b = a
      · have z' := (if_pos hb).symm.trans z; cases z'; subst hb
        exact ⟨ha, by rw [List.length_map]; exact hl, vs, _, rv, ha⟩
      · have z' := (if_neg hb).symm.trans z; cases z'
    · by_cases hb : b = a; exact hb; exact absurd (if_neg hb) z
end
theorem cx_none {P : Program} {w : World} {H : Hp} {s : Shared} {e : Value} {s' : Shared} (h : L2.CX P w [] H s (fun _ _ _ => False) e s') : False := by
  obtain ⟨_, _, _, _, _, _, _, _, _, _, _, _, z⟩ := h
  exact z
/-- THE LAW: its text is known, and its tree's run gives True for every script -/
theorem law_walk {l : PySem.W.OpenLaw} {q : Program} {loose : List Str} {XP : (Str → Option Value) → Heap → Prop} {YP : World → Heap → Prop} {d : DefRec} {K : Params → PySem.W.Frag} {tx : Tx} {T : Tab} {n : Nat} {fn : Fn}
    (hn : l.most = some 63) (hdf : d.params.defaults = []) (hdn : d.name = Str.ofString "law") (hr : Room (n + 3) callerA) (hY : ∀ (w : World) (h : Heap), YP w h → (K w.params).In h)
    (Ft : ∀ (w : World) (mg : Str → Option Value) (fa : Addr) (h : Heap), (K w.params).In h → h.Ns mainGlobals mg → mg d.name = some (.ref fa) → ∀ base : Heap, TxtOk l.prog w (K w.params) mg base tx T)
    (hlaw : tx.fn (Str.ofString "law") [] = true) (hT : T (Str.ofString "law") = some ([Str.ofString "script"], fn))
    (hrun : ∀ ns : List Int, ns.length ≤ 63 → ∃ S, callF (phi T n) fn [.lst (ns.map Mp.D.int)] [] = .ok (.bl true) S) :
    PySem.W.WalkO q loose XP YP l.row.toRowW d [] (fun f vs => PySem.call f vs) := by
  refine Att.attach_call hn hdf fun w s₀ s₁ mg mb fa o pm cd doc a vs ns G Y ho hd hcd hmg hobj hints hlen hg => ?_
  have KX := hY w _ Y
  have hfn : ∃ fd : FuncData, (∀ (s : Shared) (u : Value), BindsTo s fd ⟨[u], []⟩ [(Str.ofString "script", u)]) ∧ ∀ base : Heap, FnOk l.prog w (K w.params) mg base (L2.CX l.prog w) (n + 3) fa fd [Str.ofString "script"] (spF (K w.params) mg [Str.ofString "script"] (callF (phi T n) fn)) := by
    obtain ⟨ps, fn', kss, hT', ⟨a', qual, st, fd, N, hm, F, Sc, hns, hb, hbind⟩, hks⟩ := (Ft w mg fa _ KX G.T.g hmg s₁.heap).defs _ _ hlaw
    rw [hT] at hT'
    obtain ⟨rfl, rfl⟩ := Prod.mk.inj (Option.some.inj hT')
    rw [hdn, hm] at hmg
    cases hmg
    refine ⟨fd, fun s u => .of_eq (hbind [] hks [u] [] [u] rfl), fun base => ?_⟩
    have t := Ft w mg fa _ KX G.T.g (by rw [hdn]; exact hm) base
    exact fn_ok F Sc hns hb ⟨t.g, t.ini, tab_ok t n, t.st, by omega⟩
  obtain ⟨fd, hb, hF⟩ := hfn
  refine law_callM KX G.T.g G.T.b G.T.builtins G.T.nolimit hg hobj hints (Nat.le_trans hlen (by decide)) hr (fun base _ _ => hF base) hb (fun H hS => ?_) fun H e s' => cx_none
  obtain ⟨S, e⟩ := hrun ns hlen
  have ri : ∀ l : List Int, RepL (K w.params) [] (fun _ => False) H (l.map Mp.D.int) (l.map V.int) := by
    intro l
    induction l with
    | nil => exact .nil
    | cons i l ih => exact .cons rfl ih
  refine ⟨rfl, [], fun _ => False, [], [.lst (ns.map Mp.D.int)], ⟨rfl, .nil, by simp, fun a h => h.elim, by simp⟩, .one ⟨a, ns.map V.int, rfl, hS.elim (fun z => .inl ⟨z, fun h => h⟩) .inr, ?_, ri ns⟩, ?_⟩
  · rw [List.length_map]
    exact Nat.le_trans hlen (by decide)
  · rw [e]
    exact fun v ι' M' H' _ _ r => r
/-! ### a text's facts, put together -/
theorem all_nil {α : Type} {P : α → Prop} : ∀ y ∈ ([] : List α), P y := fun y h => by cases h
theorem all_cons {α : Type} {P : α → Prop} {x : α} {xs : List α} (h : P x) (t : ∀ y ∈ xs, P y) : ∀ y ∈ x :: xs, P y := fun y hy => (List.mem_cons.mp hy).elim (fun e => by rw [e]; exact h) (t y)
def fnB (fs : List (Str × List (List Str))) (f : Str) (ks : List Str) : Bool := fs.any fun p => decide (p.1 = f) && p.2.any fun l => decide (l = ks)
theorem fnB_ok {fs : List (Str × List (List Str))} {P : Str → List (List Str) → Prop} (h : ∀ p ∈ fs, P p.1 p.2) {f : Str} {ks : List Str} (e : fnB fs f ks = true) : ∃ kss, P f kss ∧ ks ∈ kss := by
  obtain ⟨p, hp, e⟩ := List.any_eq_true.mp e
  rw [Bool.and_eq_true] at e
  obtain ⟨l, hl, e2⟩ := List.any_eq_true.mp e.2
  have e1 := of_decide_eq_true e.1
  have e3 := of_decide_eq_true e2
  exact ⟨p.2, by rw [← e1]; exact h p hp, by rw [← e3]; exact hl⟩
def memB (cs : List Str) (c : Str) : Bool := cs.any fun d => decide (d = c)
theorem memB_ok {cs : List Str} {P : Str → Prop} (h : ∀ c ∈ cs, P c) {c : Str} (e : memB cs c = true) : P c := by
  obtain ⟨d, hd, e⟩ := List.any_eq_true.mp e
  rw [← of_decide_eq_true e]
  exact h d hd
def tabOf (l : List (Str × List Str × Fn)) : Tab := fun f => (l.find? fun p => decide (p.1 = f)).map (·.2)
def gcB (l : List (Str × D)) (x : Str) (d : D) : Bool := match d with
  | .int i => l.any fun p => decide (p.1 = x) && (match p.2 with | .int j => decide (j = i) | _ => false)
  | .str s => l.any fun p => decide (p.1 = x) && (match p.2 with | .str t => decide (t = s) | _ => false)
  | _ => false
def txOf (hg : Bool) (fs : List (Str × List (List Str))) (cs is : List Str) (gs : List (Str × D)) : Tx := ⟨fun b => hg || !decide (b = .gcd), fnB fs, memB cs, memB is, fun _ => true, gcB gs⟩
section
variable {K : Fg} {h : Heap} {mg : MG}
/-- the names that the interpreter gives are not the text's own -/
structure Own (K : Fg) : Prop where
  nm : ∀ n ∈ [Str.ofString "len", Str.ofString "abs", Str.ofString "sum", Str.ofString "all", Str.ofString "any", Str.ofString "max", Str.ofString "min", Str.ofString "sorted", Str.ofString "isinstance", Str.ofString "int", Str.ofString "tuple", Str.ofString "list", Str.ofString "str", Str.ofString "bool", Str.ofString "dict", Str.ofString "range", Str.ofString "enumerate", Str.ofString "zip", Str.ofString "reversed"], PySem.W.nsIn K mainGlobals n = some none
/-- a def's facts -/
def DefF (K : Fg) (f : Str) (st : Stmt) : Prop := ∃ (a : Addr) (oc : Value) (od : Option Addr) (kV dc pm : Value) (an : Option Addr) (cd ct : Value) (sl : Array (Option Value)),
  PySem.W.nsIn K mainGlobals f = some (some (.ref a)) ∧ K.lookup a = some ⟨oc, od, .func (PySem.W.fnOf f f (defArgs st) (defBody st) (defScope st) .none kV dc pm an cd ct), sl⟩ ∧ PySem.W.codeIn K cd f = true ∧ PySem.W.keepIn K (.ref a) = true
theorem defAt_of {tx : Tx} {kss : List (List Str)} {f : Str} {st : Stmt} {N ps : List Str} {fn : Fn} (X : K.In h) (G : h.Ns mainGlobals mg) (d : DefF K f st) (Sc : FnScope N ps (defScope st)) (hns : N.length = fn.ns) (hm : mSs tx N true (defScope st) fn.body (defBody st) = true)
    (hb : ∀ (kV dc pm : Value) (an : Option Addr) (cd ct : Value), ∀ ks ∈ kss, ∀ us ws zs, arr ps us ks ws = some zs → bindArgs (PySem.W.fnOf f f (defArgs st) (defBody st) (defScope st) .none kV dc pm an cd ct) ⟨us, ks.zip ws⟩ = pure (ps.zip zs)) : DefAt K mg tx kss f ps fn := by
  obtain ⟨a, oc, od, kV, dc, pm, an, cd, ct, sl, h1, h2, h3, h4⟩ := d
  exact ⟨a, f, st, _, N, PySem.W.mg_of X G h1, fun_mk h2 h3 h4, Sc, hns, hm, hb kV dc pm an cd ct⟩
theorem arr_nil {α : Type} {ps : List Str} {us ws zs : List α} (e : arr ps us [] ws = some zs) : us.length = ps.length ∧ us = zs := by
  unfold arr at e
  by_cases c : us.length + ([] : List Str).length = ps.length ∧ ws.length = ([] : List Str).length
  · rw [if_pos c] at e
    have c1 : us.length = ps.length := c.1
    rw [c1, List.drop_length] at e
    refine ⟨c1, ?_⟩
    have e : some (us ++ ([] : List α)) = some zs := e
    rw [List.append_nil] at e
    exact Option.some.inj e
  · rw [if_neg c] at e
    cases e
theorem arr_kw {α : Type} {ps ks : List Str} {us ws zs : List α} (e : arr ps us ks ws = some zs) : us.length + ks.length = ps.length ∧ ws.length = ks.length := by
  unfold arr at e
  by_cases c : us.length + ks.length = ps.length ∧ ws.length = ks.length
  · exact c
  · rw [if_neg c] at e
    cases e
/-- an own class's facts -/
structure ClsF (K : Fg) (c : Str) (C : Addr) : Prop where
  ns : PySem.W.nsIn K mainGlobals c = some (some (.ref C))
  lk : ∃ nm q N bs bm sn sub ab col dd k0 k1 k2 k3 k5, K.lookup C = some (excClassObj nm q C N bs bm true sn sub ab col dd k0 k1 k2 k3 k5 "ValueError.__new__") ∧ PySem.HandSPX.refsVE bm = true
  sa : PySem.W.findIn K (.ref C) "__setattr__" = some (some (.builtin "object.__setattr__"))
  exC : PySem.W.subIn K (.ref C) (.type "BaseException") = some true
  tyC : PySem.W.typeIn K (.ref C) = some (.type "type")
  kC : PySem.W.keepIn K (.ref C) = true
  ga : PySem.W.findIn K (.ref C) "__getattribute__" = some (some (.builtin "BaseException.__getattribute__"))
  gg : PySem.W.findIn K (.ref C) "__getattr__" = some none
  hd : PySem.W.hasDictIn K C = true
  no : PySem.W.findIn K (.ref C) (fldN c) = some none
theorem ClsF.oex {c : Str} {C : Addr} (F : ClsF K c C) : OexC K C := ⟨by obtain ⟨nm, q, N, bs, bm, sn, sub, ab, col, dd, k0, k1, k2, k3, k5, e1, e2⟩ := F.lk; exact ⟨nm, q, N, bs, bm, sn, sub, ab, col, dd, k0, k1, k2, k3, k5, e1, e2⟩, F.sa, F.exC, F.tyC, F.kC⟩
theorem ClsF.xf {c : Str} {C : Addr} (F : ClsF K c C) : XfC K C := ⟨F.ga, F.gg, F.exC, F.hd⟩
theorem ClsF.cls {c : Str} {C : Addr} (F : ClsF K c C) : (PySem.W.clsIn K C).isSome = true := by
  obtain ⟨nm, q, N, bs, bm, sn, sub, ab, col, dd, k0, k1, k2, k3, k5, e1, e2⟩ := F.lk
  unfold PySem.W.clsIn
  rw [e1]
  rfl
theorem ClsF.exm {c c' : Str} {C C' : Addr} {b : Bool} (F : ClsF K c C) (F' : ClsF K c' C') (e : PySem.W.subIn K (.ref C) (.ref C') = some b) : PySem.W.exmOne K (.ref C) (.ref C') = some b := by
  unfold PySem.W.exmOne PySem.W.kitCls
  rw [F'.exC]
  dsimp only
  rw [F'.tyC, F'.cls]
  exact e
/-- its __init__ -/
structure IniF (K : Fg) (q : Str) (C fI : Addr) (st : Stmt) : Prop where
  iC : PySem.W.findIn K (.ref C) "__init__" = some (some (.ref fI))
  tI : PySem.W.typeIn K (.ref fI) = some (.type "function")
  lk : ∃ (oc : Value) (od : Option Addr) (kV dc pm : Value) (an : Option Addr) (cd ct : Value) (sl : Array (Option Value)), K.lookup fI = some ⟨oc, od, .func (PySem.W.fnOf "__init__" q (defArgs st) (defBody st) (defScope st) .none kV dc pm an cd ct), sl⟩ ∧ PySem.W.codeIn K cd q = true
  kp : PySem.W.keepIn K (.ref fI) = true
theorem clsAt_of {P : Program} {w : World} {base : Heap} {c q self g b m : Str} {C fI Wa : Addr} {st : Stmt} {j : Nat} {q1 q2 q3 q4 q5 q6 q7 q8 q9 q10 : Pos} (X : K.In h) (G : h.Ns mainGlobals mg) (F : ClsF K c C) (I : IniF K q C fI st) (B : BaseC K Wa) (hW : PySem.W.nsIn K mainGlobals b = some (some (.ref Wa)))
    (Sc : FnScope [self, g] [self, g] (defScope st))
    (hb : defBody st = [.Expr (.Call (.Attribute (.Name b q1) "__init__" q2) [.Name self q3, .Constant (.str m) j q4] [] q5) q6, .Assign [.Attribute (.Name self q7) (fldN c) q8] (.Name g q9) q10])
    (hbg : glB (defScope st) b = true) (hs1 : visB (defScope st) self = true) (hs2 : visB (defScope st) g = true) (o1 : okName self = true) (o2 : okName g = true) (o3 : okName b = true)
    (hc : ∀ env : PySem.Env, ∃ pl : Sem Bool, eval (.Call (.Attribute (.Name b q1) "__init__" q2) [.Name self q3, .Constant (.str m) j q4] [] q5) env = (do
      let ov ← eval (.Name b q1) env
      standAt q2.atName
      let (f, first) ← holding [ov] (getMethod ov "__init__" pl)
      callWith q5 f first (backTo q5 (starEach [.Name self q3, .Constant (.str m) j q4] env)) (backToKw q5 (keywordEach [] env))))
    (hbind : ∀ (kV doc pm : Value) (an : Option Addr) (cdv ct : Value) (us : List Value), us.length = [self, g].length → bindArgs (PySem.W.fnOf "__init__" q (defArgs st) (defBody st) (defScope st) .none kV doc pm an cdv ct) ⟨us, []⟩ = pure ([self, g].zip us)) :
    ClsAt P w K mg base c := by
  obtain ⟨oc, od, kV, dc, pm, an, cd, ct, sl, h2, h3⟩ := I.lk
  have Fu := fun_mk (st := st) h2 h3 I.kp
  exact ⟨C, fI, _, self, g, PySem.W.mg_of X G F.ns, F.oex, I.iC, I.tI, init_ok Fu Sc hb hbg hs1 hs2 o1 o2 o3 hc B F.oex (PySem.W.mg_of X G hW), Fu.binds hbind, F.no⟩
theorem gcB_ok {gs : List (Str × D)} {P : Str → D → Prop} (hp : ∀ p ∈ gs, P p.1 p.2) {x : Str} {d : D} (e : gcB gs x d = true) : P x d := by
  unfold gcB at e
  split at e
  · obtain ⟨p, h1, h2⟩ := List.any_eq_true.mp e
    rw [Bool.and_eq_true] at h2
    have e1 := of_decide_eq_true h2.1
    have e2 := h2.2
    have z := hp p h1
    rw [e1] at z
    split at e2
    · rename_i j hj
      rw [hj, of_decide_eq_true e2] at z
      exact z
    · cases e2
  · obtain ⟨p, h1, h2⟩ := List.any_eq_true.mp e
    rw [Bool.and_eq_true] at h2
    have e1 := of_decide_eq_true h2.1
    have e2 := h2.2
    have z := hp p h1
    rw [e1] at z
    split at e2
    · rename_i j hj
      rw [hj, of_decide_eq_true e2] at z
      exact z
    · cases e2
  · cases e
theorem gb_of {P : Program} {w : World} {base : Heap} {hgc : Bool} {fs : List (Str × List (List Str))} {cs is : List Str} {gs : List (Str × D)} (X : K.In h) (G : h.Ns mainGlobals mg) (O : Own K)
    (ex : ∀ c ∈ cs, ∀ c' ∈ cs, ∃ Ca Ca' : Addr, mg c = some (.ref Ca) ∧ mg c' = some (.ref Ca') ∧ PySem.W.exmOne K (.ref Ca) (.ref Ca') = some (takesC c c'))
    (xf : ∀ c ∈ cs, ∃ Ca : Addr, mg c = some (.ref Ca) ∧ XfC K Ca ∧ PySem.W.findIn K (.ref Ca) (fldN c) = some none)
    (gc : ∀ x d, gcB gs x d = true → ∃ (u : Value) (v : V), mg x = some u ∧ RelV v u ∧ ∀ ι M H, Rep K ι M H d v) (gcd : hgc = true → mg (Str.ofString "gcd") = some (.builtin "math.gcd")) : Gb P w K mg base (txOf hgc fs cs is gs) := by
  have no : ∀ n : Str, n ∈ [Str.ofString "len", Str.ofString "abs", Str.ofString "sum", Str.ofString "all", Str.ofString "any", Str.ofString "max", Str.ofString "min", Str.ofString "sorted", Str.ofString "isinstance", Str.ofString "int", Str.ofString "tuple", Str.ofString "list", Str.ofString "str", Str.ofString "bool", Str.ofString "dict", Str.ofString "range", Str.ofString "enumerate", Str.ofString "zip", Str.ofString "reversed"] → mg n = none := fun n hn => PySem.W.mg_none_of X G (O.nm n hn)
  refine ⟨fun b hb => ?_, fun n hn => ?_, gc, fun c c' h1 h2 => ?_, fun c h1 => memB_ok xf h1, no _ (by simp), no _ (by simp), no _ (by simp), no _ (by simp)⟩
  · cases b <;> first | exact .inl ⟨no _ (by simp [bltN]), by decide +kernel⟩ | exact .inr ⟨rfl, gcd (by have hb : (hgc || !decide (BI.gcd = BI.gcd)) = true := hb; simpa using hb)⟩
  · unfold knownTy at hn
    simp only [Bool.or_eq_true, beq_iff_eq] at hn
    rcases hn with ((((rfl | rfl) | rfl) | rfl) | rfl) | rfl <;> exact ⟨no _ (by simp), by decide +kernel⟩
  · exact memB_ok (P := fun c => ∃ Ca Ca' : Addr, mg c = some (.ref Ca) ∧ mg c' = some (.ref Ca') ∧ PySem.W.exmOne K (.ref Ca) (.ref Ca') = some (takesC c c')) (fun c hc => memB_ok (ex c hc) h2) h1
end
end Mp
/-! Mp, part Z: the head: what stands in the heap behind the text's top. -/
namespace Mp
open PySem PySem.Spec PyProof.Rows L2 He
def lkB (K : Fg) (C : Addr) : Bool := match K.lookup C with
  | some ⟨.type "type", _, .cls cd, sl⟩ => (match cd.mro, sl.toList with
    | .ref C' :: bm, [_, _, _, _, some (.builtin n), _] => C' == C && n == "ValueError.__new__" && !cd.hasDel && cd.hasDict && PySem.HandSPX.refsVE bm
    | _, _ => false)
  | _ => false
theorem lkB_ok {K : Fg} {C : Addr} (q : lkB K C = true) : ∃ nm q N bs bm sn sub ab col dd k0 k1 k2 k3 k5, K.lookup C = some (excClassObj nm q C N bs bm true sn sub ab col dd k0 k1 k2 k3 k5 "ValueError.__new__") ∧ PySem.HandSPX.refsVE bm = true := by
  unfold lkB at q
  split at q
  · rename_i dd cd sl ho
    split at q
    · rename_i C' bm k0 k1 k2 k3 n k5 hm hs
      simp only [Bool.and_eq_true, beq_iff_eq, Bool.not_eq_true'] at q
      obtain ⟨⟨⟨⟨rfl, rfl⟩, hdel⟩, hdct⟩, ht⟩ := q
      obtain ⟨nm, bs, mro, ns, qn, hd, sn, sub, ab, col, del⟩ := cd
      dsimp only at hm hdel hdct
      subst hm hdel hdct
      have hsl : sl = #[k0, k1, k2, k3, some (.builtin "ValueError.__new__"), k5] := by
        obtain ⟨l⟩ := sl
        simp only at hs
        rw [hs]
      subst hsl
      exact ⟨nm, qn, ns, bs, bm, sn, sub, ab, col, dd, k0, k1, k2, k3, k5, ho, ht⟩
    · cases q
  · cases q
def clsB (K : Fg) (c : Str) : Bool :=
  eqO (PySem.W.nsIn K mainGlobals c) (some (some (.ref (ga K c)))) && lkB K (ga K c) &&
  eqO (PySem.W.findIn K (.ref (ga K c)) "__setattr__") (some (some (.builtin "object.__setattr__"))) &&
  decide (PySem.W.subIn K (.ref (ga K c)) (.type "BaseException") = some true) && decide (PySem.W.typeIn K (.ref (ga K c)) = some (.type "type")) &&
  PySem.W.keepIn K (.ref (ga K c)) &&
  eqO (PySem.W.findIn K (.ref (ga K c)) "__getattribute__") (some (some (.builtin "BaseException.__getattribute__"))) &&
  eqO (PySem.W.findIn K (.ref (ga K c)) "__getattr__") (some none) && PySem.W.hasDictIn K (ga K c) &&
  eqO (PySem.W.findIn K (.ref (ga K c)) (fldN c)) (some none)
theorem clsB_ok {K : Fg} {c : Str} (h : clsB K c = true) : ClsF K c (ga K c) := by
  unfold clsB at h
  simp only [Bool.and_eq_true, decide_eq_true_eq] at h
  obtain ⟨⟨⟨⟨⟨⟨⟨⟨⟨h1, h2⟩, h3⟩, h4⟩, h5⟩, h6⟩, h7⟩, h8⟩, h9⟩, h10⟩ := h
  exact ⟨eqO_ok h1, lkB_ok h2, eqO_ok h3, h4, h5, h6, eqO_ok h7, eqO_ok h8, h9, eqO_ok h10⟩
def iniB (K : Fg) (c : Str) : Bool :=
  eqO (PySem.W.findIn K (.ref (ga K c)) "__init__") (some (some (.ref (fAd K (c, some "__init__"))))) && decide (PySem.W.typeIn K (.ref (fAd K (c, some "__init__"))) = some (.type "function"))
theorem ini_ok {K : Fg} {c q : Str} {st : Stmt} (h : iniB K c = true) {fd : FuncData} (F : FunD K "__init__" q (defArgs st) (defBody st) (defScope st) [] [] (fAd K (c, some "__init__")) fd) : IniF K q (ga K c) (fAd K (c, some "__init__")) st := by
  unfold iniB at h
  simp only [Bool.and_eq_true, decide_eq_true_eq] at h
  obtain ⟨⟨oc, od, dV, kV, dc, pm, an, cd, ct, sl, hfd, lk, cI, dv, kv⟩, kp⟩ := F
  have e : dV = .none := by
    rcases dv with ⟨_, e⟩ | ⟨z, _⟩
    · exact e
    · exact absurd rfl z
  subst e hfd
  exact ⟨eqO_ok h.1, h.2, ⟨oc, od, kV, dc, pm, an, cd, ct, sl, lk, cI⟩, kp⟩
theorem def_ok {K : Fg} {f : Str} {st : Stmt} (hg : eqO (PySem.W.nsIn K mainGlobals f) (some (some (.ref (ga K f)))) = true) {fd : FuncData} (F : FunD K f f (defArgs st) (defBody st) (defScope st) [] [] (fAd K (f, none)) fd) : DefF K f st := by
  obtain ⟨⟨oc, od, dV, kV, dc, pm, an, cd, ct, sl, hfd, lk, cI, dv, kv⟩, kp⟩ := F
  have e : dV = .none := by
    rcases dv with ⟨_, e⟩ | ⟨z, _⟩
    · exact e
    · exact absurd rfl z
  subst e hfd
  exact ⟨ga K f, oc, od, kV, dc, pm, an, cd, ct, sl, eqO_ok hg, lk, cI, kp⟩
def baseM (K : Fg) (c : Str) : Bool :=
  eqO (PySem.W.specialIn K (.ref (ga K c)) "__getattribute__") (some (some (.builtin "type.__getattribute__"))) && PySem.W.readsIn K (ga K c) (.type "type") &&
  (match PySem.W.findCls K (.ref (ga K c)) (.type "type") "__init__" with | some (.val (.builtin n)) => n == "ValueError.__init__" | _ => false)
theorem baseM_ok {K : Fg} {c : Str} (h : baseM K c = true) : BaseC K (ga K c) := by
  unfold baseM at h
  simp only [Bool.and_eq_true] at h
  obtain ⟨⟨h1, h2⟩, h3⟩ := h
  refine ⟨eqO_ok h1, h2, ?_⟩
  split at h3
  · rename_i n e
    rw [e, beq_iff_eq.mp h3]
  · cases h3
def conB (K : Fg) (p : Str × D) : Bool := match PySem.W.nsIn K mainGlobals p.1, p.2 with
  | some (some (.int j _)), .int i => decide (j = i)
  | some (some (.str y _)), .str z => decide (y = z)
  | _, _ => false
theorem conB_ok {K : Fg} {p : Str × D} (h : conB K p = true) : ∃ u v, PySem.W.nsIn K mainGlobals p.1 = some (some u) ∧ RelV v u ∧ ∀ ι M H, Rep K ι M H p.2 v := by
  obtain ⟨x, d⟩ := p
  unfold conB at h
  split at h
  · rename_i j t i e1 e2
    have e2 : d = .int i := e2
    have h := of_decide_eq_true h
    subst e2 h
    exact ⟨_, .int j, e1, ⟨t, rfl⟩, fun _ _ _ => rfl⟩
  · rename_i y t z e1 e2
    have e2 : d = .str z := e2
    have h := of_decide_eq_true h
    subst e2 h
    exact ⟨_, .str y, e1, ⟨t, rfl⟩, fun _ _ _ => rfl⟩
  · cases h
def ownL : List Str := [Str.ofString "len", Str.ofString "abs", Str.ofString "sum", Str.ofString "all", Str.ofString "any", Str.ofString "max", Str.ofString "min", Str.ofString "sorted", Str.ofString "isinstance", Str.ofString "int", Str.ofString "tuple", Str.ofString "list", Str.ofString "str", Str.ofString "bool", Str.ofString "dict", Str.ofString "range", Str.ofString "enumerate", Str.ofString "zip", Str.ofString "reversed"]
/-- all that is asked beside the defs -/
def exM (hg : Bool) (fs cs is : List Str) (gs : List (Str × D)) (K : Fg) : Bool :=
  (!hg || eqO (PySem.W.nsIn K mainGlobals "gcd") (some (some (.builtin "math.gcd")))) &&
  (ownL.all fun x => eqO (PySem.W.nsIn K mainGlobals x) (some none)) && (fs.all fun f => eqO (PySem.W.nsIn K mainGlobals f) (some (some (.ref (ga K f))))) &&
  (cs.all fun c => clsB K c) && (is.all fun c => iniB K c) && baseM K "WalkError" && (gs.all fun p => conB K p) &&
  (cs.all fun c => cs.all fun d => decide (PySem.W.subIn K (.ref (ga K c)) (.ref (ga K d)) = some (c == d || d == "WalkError")))
structure ExM (hg : Bool) (fs cs is : List Str) (gs : List (Str × D)) (K : Fg) : Prop where
  gcd : hg = true → PySem.W.nsIn K mainGlobals (Str.ofString "gcd") = some (some (.builtin "math.gcd"))
  own : Own K
  fn : ∀ f ∈ fs, eqO (PySem.W.nsIn K mainGlobals f) (some (some (.ref (ga K f)))) = true
  cls : ∀ c ∈ cs, ClsF K c (ga K c)
  ini : ∀ c ∈ is, iniB K c = true
  base : BaseC K (ga K "WalkError")
  con : ∀ p ∈ gs, ∃ u v, PySem.W.nsIn K mainGlobals p.1 = some (some u) ∧ RelV v u ∧ ∀ ι M H, Rep K ι M H p.2 v
  sub : ∀ c ∈ cs, ∀ d ∈ cs, PySem.W.subIn K (.ref (ga K c)) (.ref (ga K d)) = some (c == d || d == "WalkError")
theorem exM_ok {hg : Bool} {fs cs is : List Str} {gs : List (Str × D)} {K : Fg} (h : exM hg fs cs is gs K = true) : ExM hg fs cs is gs K := by
  unfold exM at h
  simp only [Bool.and_eq_true, List.all_eq_true, decide_eq_true_eq] at h
  obtain ⟨⟨⟨⟨⟨⟨⟨h0, h1⟩, h2⟩, h3⟩, h4⟩, h5⟩, h6⟩, h7⟩ := h
  exact ⟨fun e => eqO_ok (by simpa [e] using h0), ⟨fun n hn => eqO_ok (h1 n hn)⟩, h2, fun c hc => clsB_ok (h3 c hc), h4, baseM_ok h5, fun p hp => conB_ok (h6 p hp), h7⟩
/-! ### the Hook -/
def obsM (ex : Fg → Bool) (fn : List DefD) (K : Fg) : AlD := (ex K && fn.all fun d => d.ok K, fn.map fun d => fnW K d.at_)
def obsMG (n : Nat) (ex : Fg → Bool) (fn : List DefD) (g : Addr → Option Obj) : AlD := obsM ex fn (frG g (asD g n ++ [PySem.cStatics]))
def SaysM (ex : Fg → Bool) (fn : List DefD) (K : Fg) : Prop := obsM ex fn K = valD fn
def hookM (n : Nat) (ex : Fg → Bool) (fn : List DefD) : PySem.W.Hook where
  α := AlD
  obs := fun s => obsMG n ex fn s.heap.get?
  val := fun _ => valD fn
  says := fun _ h => ∃ K : PySem.W.Frag, K.In h ∧ SaysM ex fn K
  of := fun _ _ e => ⟨_, frG_in, e⟩
  keeps := fun _ _ _ ⟨K, hK, c⟩ k => ⟨K, PySem.W.Frag.In.keeps hK k, c⟩
theorem obsMG_eq {n : Nat} {ex : Fg → Bool} {fn : List DefD} {g : Addr → Option Obj} {s : Shared} (h : ∀ a, g a = s.heap.get? a) : obsMG n ex fn g = (hookM n ex fn).obs s := by
  have e : g = s.heap.get? := funext h
  rw [e] <;> rfl
section
variable {ex : Fg → Bool} {fn : List DefD} {K : Fg}
theorem SaysM.more (c : SaysM ex fn K) : ex K = true := (ba (show (ex K && fn.all fun d => d.ok K) = true from congrArg (fun z : AlD => z.1) c)).1
theorem SaysM.def_ (c : SaysM ex fn K) (i : Nat) {d : DefD} (h : fn[i]? = some d := by rfl) : ∃ fd, FunD K d.name d.qual d.params d.body d.scope (d.dvs K) (d.kws K) (fAd K d.at_) fd := by
  have c2 := (ba (show (ex K && fn.all fun d => d.ok K) = true from congrArg (fun z : AlD => z.1) c)).2
  have e : fn.map (fun d => fnW K d.at_) = fn.map DefD.val := congrArg (fun z : AlD => z.2) c
  have e2 : (fn.map fun d => fnW K d.at_)[i]? = (fn.map DefD.val)[i]? := by rw [e]
  rw [List.getElem?_map, List.getElem?_map, h] at e2
  exact DefD.funD (Option.some.inj e2) (List.all_eq_true.mp c2 d (List.mem_of_getElem? h))
end
/-- THE LAW, over a head by facts -/
theorem law_walkE {l : PySem.W.OpenLaw} {q : Program} {loose : List Str} {XP : (Str → Option Value) → Heap → Prop} {YP : World → Heap → Prop} {d : DefRec} {tx : Tx} {T : Tab} {n : Nat} {fn : Fn}
    (hn : l.most = some 63) (hdf : d.params.defaults = []) (hdn : d.name = Str.ofString "law") (hr : Room (n + 3) callerA)
    (Ft : ∀ (w : World) (mg : Str → Option Value) (h : Heap), YP w h → h.Ns mainGlobals mg → ∃ K : Fg, K.In h ∧ ∀ base : Heap, TxtOk l.prog w K mg base tx T)
    (hlaw : tx.fn (Str.ofString "law") [] = true) (hT : T (Str.ofString "law") = some ([Str.ofString "script"], fn))
    (hrun : ∀ ns : List Int, ns.length ≤ 63 → ∃ S, callF (phi T n) fn [.lst (ns.map Mp.D.int)] [] = .ok (.bl true) S) :
    PySem.W.WalkO q loose XP YP l.row.toRowW d [] (fun f vs => PySem.call f vs) := by
  refine Att.attach_call hn hdf fun w s₀ s₁ mg mb fa o pm cd doc a vs ns G Y ho hd hcd hmg hobj hints hlen hg => ?_
  obtain ⟨K, KX, t⟩ := Ft w mg _ Y G.T.g
  have hfn : ∃ fd : FuncData, (∀ (s : Shared) (u : Value), BindsTo s fd ⟨[u], []⟩ [(Str.ofString "script", u)]) ∧ ∀ base : Heap, FnOk l.prog w K mg base (L2.CX l.prog w) (n + 3) fa fd [Str.ofString "script"] (spF K mg [Str.ofString "script"] (callF (phi T n) fn)) := by
    obtain ⟨ps, fn', kss, hT', ⟨a', qual, st, fd, N, hm, F, Sc, hns, hb, hbind⟩, hks⟩ := (t s₁.heap).defs _ _ hlaw
    rw [hT] at hT'
    obtain ⟨rfl, rfl⟩ := Prod.mk.inj (Option.some.inj hT')
    rw [hdn, hm] at hmg
    cases hmg
    refine ⟨fd, fun s u => .of_eq (hbind [] hks [u] [] [u] rfl), fun base => ?_⟩
    exact fn_ok F Sc hns hb ⟨(t base).g, (t base).ini, tab_ok (t base) n, (t base).st, by omega⟩
  obtain ⟨fd, hb, hF⟩ := hfn
  refine law_callM KX G.T.g G.T.b G.T.builtins G.T.nolimit hg hobj hints (Nat.le_trans hlen (by decide)) hr (fun base _ _ => hF base) hb (fun H hS => ?_) fun H e s' => cx_none
  obtain ⟨S, e⟩ := hrun ns hlen
  have ri : ∀ l : List Int, RepL K [] (fun _ => False) H (l.map Mp.D.int) (l.map V.int) := by
    intro l
    induction l with
    | nil => exact .nil
    | cons i l ih => exact .cons rfl ih
  refine ⟨rfl, [], fun _ => False, [], [.lst (ns.map Mp.D.int)], ⟨rfl, .nil, by simp, fun a h => h.elim, by simp⟩, .one ⟨a, ns.map V.int, rfl, hS.elim (fun z => .inl ⟨z, fun h => h⟩) .inr, ?_, ri ns⟩, ?_⟩
  · rw [List.length_map]
    exact Nat.le_trans hlen (by decide)
  · rw [e]
    exact fun v ι' M' H' _ _ r => r
end Mp
/-! Pl, part A: plain facts of the small Python: no program in sight. -/
namespace Mp
open PySem
/-! ### unfolding -/
section
variable (Φ : Phi) (ρ : Env) (S : Store)
@[simp] theorem e_v (i : Nat) : evE Φ (.v i) ρ S = slotR ρ[i]? S := by simp only [evE]
@[simp] theorem e_k (c : D) : evE Φ (.k c) ρ S = .ok c S := by simp only [evE]
@[simp] theorem e_kty (c : String) : evE Φ (.kty c) ρ S = .ok (.ty c) S := by simp only [evE]
@[simp] theorem e_gk (x : Str) (c : D) : evE Φ (.gk x c) ρ S = .ok c S := by simp only [evE]
@[simp] theorem e_tup (es : Es) : evE Φ (.tup es) ρ S = (evEs Φ es ρ S).bind fun xs S => if xs.length ≤ line then .ok (.tup xs) S else .bad := by simp only [evE]
@[simp] theorem e_lst (fz : Bool) (es : Es) : evE Φ (.lst fz es) ρ S = (evEs Φ es ρ S).bind fun xs S => if xs.length ≤ line then alloc fz xs S else .bad := by simp only [evE]
@[simp] theorem e_bin (op : Operator) (fz : Bool) (a b : E) : evE Φ (.bin op fz a b) ρ S = (evE Φ a ρ S).bind fun x S => (evE Φ b ρ S).bind fun y S => binop op fz x y S := by simp only [evE]
@[simp] theorem e_neg (a : E) : evE Φ (.neg a) ρ S = (evE Φ a ρ S).bind fun x S => match x with | .int i => .ok (.int (-i)) S | _ => .bad := by simp only [evE] <;> rfl
@[simp] theorem e_bnot (a : E) : evE Φ (.bnot a) ρ S = (evE Φ a ρ S).bind fun x S => (ofB (truth S x) S).bind fun b S => .ok (.bl (!b)) S := by simp only [evE]
@[simp] theorem e_band (es : Es) : evE Φ (.band es) ρ S = evAnd Φ es ρ S := by simp only [evE]
@[simp] theorem e_bor (es : Es) : evE Φ (.bor es) ρ S = evOr Φ es ρ S := by simp only [evE]
@[simp] theorem e_cmp (op : CmpOp) (a b : E) : evE Φ (.cmp op a b) ρ S = (evE Φ a ρ S).bind fun x S => (evE Φ b ρ S).bind fun y S => ofO (cmpop op x y S) S := by simp only [evE]
@[simp] theorem e_chain (op op' : CmpOp) (a b c : E) : evE Φ (.chain op op' a b c) ρ S = (evE Φ a ρ S).bind fun x S => (evE Φ b ρ S).bind fun y S => (ofB (cmpop op x y S) S).bind fun r S =>
      if r then (evE Φ c ρ S).bind fun z S => ofO (cmpop op' y z S) S else .ok (.bl false) S := by simp only [evE]
@[simp] theorem e_ife (c a b : E) : evE Φ (.ife c a b) ρ S = (evE Φ c ρ S).bind fun x S => (ofB (truth S x) S).bind fun r S => if r then evE Φ a ρ S else evE Φ b ρ S := by simp only [evE]
@[simp] theorem e_call (f : Str) (es : Es) (ks : List Str) (kes : Es) : evE Φ (.call f es ks kes) ρ S = (evEs Φ es ρ S).bind fun xs S => (evEs Φ kes ρ S).bind fun ys S => Φ f xs ks ys S := by simp only [evE]
@[simp] theorem e_blt (b : BI) (fz : Bool) (es : Es) : evE Φ (.blt b fz es) ρ S = (evEs Φ es ρ S).bind fun xs S => blt b fz xs S := by simp only [evE]
@[simp] theorem e_meth (m : MT) (o : E) (es : Es) : evE Φ (.meth m o es) ρ S = (evE Φ o ρ S).bind fun x S => if (lstOf S x).isSome then (evEs Φ es ρ S).bind fun xs S => meth m x xs S else .bad := by simp only [evE]
@[simp] theorem e_ix (a i : E) : evE Φ (.ix a i) ρ S = (evE Φ a ρ S).bind fun x S => (evE Φ i ρ S).bind fun y S => ofD (ixop x y S) S := by simp only [evE]
@[simp] theorem e_sl (fz : Bool) (a : E) (lo hi : Es) : evE Φ (.sl fz a lo hi) ρ S = (evE Φ a ρ S).bind fun x S => (evEs Φ lo ρ S).bind fun l S => match part l with
      | some l => (evEs Φ hi ρ S).bind fun h S => match part h with | some h => slop fz x l h S | none => .bad
      | none => .bad := by simp only [evE] <;> rfl
@[simp] theorem e_rev (fz : Bool) (a : E) : evE Φ (.rev fz a) ρ S = (evE Φ a ρ S).bind fun x S => revop fz x S := by simp only [evE]
@[simp] theorem e_fld (i : Nat) (f : Str) (cs : List Str) : evE Φ (.fld i f cs) ρ S = match ρ[i]? with | some (some d) => ofD (fldop d f cs) S | _ => .bad := by simp only [evE] <;> rfl
@[simp] theorem e_dic (fz : Bool) (ks : List Key) (es : Es) : evE Φ (.dic fz ks es) ρ S = (evEs Φ es ρ S).bind fun xs S => if xs.length = ks.length ∧ xs.length ≤ 15 ∧ ks.Nodup then (if fz then .ok (.dic ks xs) S else .ok (.ref S.length) (S ++ [.dic ks xs])) else .bad := by simp only [evE]
@[simp] theorem e_lrng (fz : Bool) (es : Es) : evE Φ (.lrng fz es) ρ S = (evEs Φ es ρ S).bind fun xs S => match rngOf xs with | some l => alloc fz l S | none => .bad := by simp only [evE] <;> rfl
@[simp] theorem e_lockd (i : Nat) (e : E) : evE Φ (.lockd i e) ρ S = lockR ρ[i]? (evE Φ e ρ) S := by simp only [evE]
@[simp] theorem e_comp (fz : Bool) (vs : List Nat) (t : T) (it : I) (cond : Es) (rest : Cl) : evE Φ (.comp fz vs t it cond rest) ρ S = (evI Φ it ρ S).bind fun src S => (noExc (srcR (fun x S => match evT Φ t x (wipe ρ vs) S with
      | .ok ρ' S => (evConds Φ cond ρ' S).bind fun b S => if b then evCl Φ rest ρ' S else .ok [] S
      | .bad => .bad) src S)).bind fun xs S => if xs.length ≤ line then alloc fz xs S else .bad := by simp only [evE] <;> rfl
@[simp] theorem es_nil_ : evEs Φ .nil ρ S = .ok [] S := by simp only [evEs]
@[simp] theorem es_cons_ (e : E) (es : Es) : evEs Φ (.cons e es) ρ S = (evE Φ e ρ S).bind fun x S => (evEs Φ es ρ S).bind fun xs S => .ok (x :: xs) S := by simp only [evEs]
@[simp] theorem and_one (e : E) : evAnd Φ (.cons e .nil) ρ S = evE Φ e ρ S := by simp only [evAnd]
@[simp] theorem and_cons (e e' : E) (es : Es) : evAnd Φ (.cons e (.cons e' es)) ρ S = (evE Φ e ρ S).bind fun x S => (ofB (truth S x) S).bind fun r S => if r then evAnd Φ (.cons e' es) ρ S else .ok x S := by simp only [evAnd]
@[simp] theorem or_one (e : E) : evOr Φ (.cons e .nil) ρ S = evE Φ e ρ S := by simp only [evOr]
@[simp] theorem or_cons (e e' : E) (es : Es) : evOr Φ (.cons e (.cons e' es)) ρ S = (evE Φ e ρ S).bind fun x S => (ofB (truth S x) S).bind fun r S => if r then .ok x S else evOr Φ (.cons e' es) ρ S := by simp only [evOr]
@[simp] theorem i_e (e : E) : evI Φ (.e e) ρ S = (evE Φ e ρ S).bind fun d S => match srcOf S d with | some s => .ok s S | none => .bad := by simp only [evI] <;> rfl
@[simp] theorem i_rng (es : Es) : evI Φ (.rng es) ρ S = (evEs Φ es ρ S).bind fun xs S => match rngOf xs with | some s => .ok (.items s) S | none => .bad := by simp only [evI] <;> rfl
@[simp] theorem i_enum (e : E) : evI Φ (.enum e) ρ S = (evE Φ e ρ S).bind fun d S => match stillOf d with | some xs => .ok (.items (enumL 0 xs)) S | none => .bad := by simp only [evI] <;> rfl
@[simp] theorem i_zip (a b : E) : evI Φ (.zip a b) ρ S = (evE Φ a ρ S).bind fun x S => (evE Φ b ρ S).bind fun y S => match still2 x y with | some (xs, ys) => .ok (.items (zipL xs ys)) S | none => .bad := by simp only [evI] <;> rfl
@[simp] theorem i_revd (e : E) : evI Φ (.revd e) ρ S = (evE Φ e ρ S).bind fun d S => match stillOf d with | some xs => .ok (.items xs.reverse) S | none => .bad := by simp only [evI] <;> rfl
@[simp] theorem cl_elt (e : E) : evCl Φ (.elt e) ρ S = (evE Φ e ρ S).bind fun x S => .ok [x] S := by simp only [evCl]
@[simp] theorem cl_each (vs : List Nat) (t : T) (it : I) (cond : Es) (e : E) : evCl Φ (.each vs t it cond e) ρ S = (evI Φ it ρ S).bind fun src S => srcR (fun x S => match evT Φ t x (wipe ρ vs) S with
      | .ok ρ' S => (evConds Φ cond ρ' S).bind fun b S => if b then (evE Φ e ρ' S).bind fun y S => .ok [y] S else .ok [] S
      | .bad => .bad) src S := by simp only [evCl] <;> rfl
@[simp] theorem cd_nil : evConds Φ .nil ρ S = .ok true S := by simp only [evConds]
@[simp] theorem cd_cons (e : E) (es : Es) : evConds Φ (.cons e es) ρ S = (testR (evE Φ e ρ S)).bind fun b S => if b then evConds Φ es ρ S else .ok false S := by simp only [evConds]
@[simp] theorem t_n (i : Nat) (d : D) : evT Φ (.n i) d ρ S = .ok (setN ρ i d) S := by simp only [evT]
@[simp] theorem t_t (ts : Ts) (xs : List D) : evT Φ (.t ts) (.tup xs) ρ S = evTs Φ ts xs ρ S := by simp only [evT]
@[simp] theorem t_s (o i : E) (d : D) : evT Φ (.s o i) d ρ S = match evE Φ o ρ S with
      | .ok x S => match evE Φ i ρ S with
        | .ok y S => match setop x y d S with | some S => .ok ρ S | none => .bad
        | _ => .bad
      | _ => .bad := by simp only [evT] <;> rfl
@[simp] theorem ts_nil : evTs Φ .nil [] ρ S = .ok ρ S := by simp only [evTs]
@[simp] theorem ts_cons (t : T) (ts : Ts) (x : D) (xs : List D) : evTs Φ (.cons t ts) (x :: xs) ρ S = match evT Φ t x ρ S with | .ok ρ S => evTs Φ ts xs ρ S | .bad => .bad := by simp only [evTs] <;> rfl
@[simp] theorem s_asg (t : T) (e : E) : evS Φ (.asg t e) ρ S = (evE Φ e ρ S).stm ρ fun d S => match evT Φ t d ρ S with | .ok ρ S => .nx ρ S | .bad => .bad := by simp only [evS] <;> rfl
@[simp] theorem s_ex (e : E) : evS Φ (.ex e) ρ S = (evE Φ e ρ S).stm ρ fun _ S => .nx ρ S := by simp only [evS]
@[simp] theorem s_ret (e : E) : evS Φ (.ret e) ρ S = (evE Φ e ρ S).stm ρ fun d S => .rt d S := by simp only [evS]
@[simp] theorem s_retN : evS Φ .retN ρ S = .rt .non S := by simp only [evS]
@[simp] theorem s_ife (c : E) (a b : Ss) : evS Φ (.ife c a b) ρ S = (testR (evE Φ c ρ S)).stm ρ fun r S => if r then evSs Φ a ρ S else evSs Φ b ρ S := by simp only [evS]
@[simp] theorem s_each (t : T) (it : I) (b : Ss) : evS Φ (.each t it b) ρ S = (evI Φ it ρ S).stm ρ fun src S => srcF (fun x ρ S => match evT Φ t x ρ S with | .ok ρ S => evSs Φ b ρ S | .bad => .bad) src ρ S := by simp only [evS] <;> rfl
@[simp] theorem s_loop (c : E) (b : Ss) : evS Φ (.loop c b) ρ S = loopF (fun ρ S => testR (evE Φ c ρ S)) (evSs Φ b) fuel ρ S := by simp only [evS]
@[simp] theorem s_brk : evS Φ .brk ρ S = .bk ρ S := by simp only [evS]
@[simp] theorem s_cnt : evS Φ .cnt ρ S = .ct ρ S := by simp only [evS]
@[simp] theorem s_pass : evS Φ .pass ρ S = .nx ρ S := by simp only [evS]
@[simp] theorem s_raise (c : Str) (es : Es) : evS Φ (.raise c es) ρ S = (evEs Φ es ρ S).stm ρ fun xs S => match xs with
      | [x] => .exc c [fldN c] [x] ρ S
      | _ => .bad := by simp only [evS] <;> rfl
@[simp] theorem s_tri (b : Ss) (cs : List Str) (hs : Hs) : evS Φ (.tri b cs hs) ρ S = match evSs Φ b ρ S with
      | .exc c fs vs ρ S => if cs.contains c then evHs Φ hs c fs vs ρ S else .bad
      | r => r := by simp only [evS] <;> rfl
@[simp] theorem s_aug (i : Nat) (op : Operator) (fz : Bool) (e : E) : evS Φ (.aug i op fz e) ρ S = match ρ[i]? with
      | some (some (.int x)) => (evE Φ e ρ S).stm ρ fun y S => match y with
        | .int y => match binI op x y S with | .ok z S => .nx (setN ρ i z) S | _ => .bad
        | _ => .bad
      | _ => .bad := by simp only [evS] <;> rfl
@[simp] theorem s_augs (o i : E) (op : Operator) (e : E) : evS Φ (.augs o i op e) ρ S = (evE Φ o ρ S).stm ρ fun x S => (evE Φ i ρ S).stm ρ fun y S => match (match lstOf S x with | some _ => ixop x y S | none => none) with
      | some (.int n) => (evE Φ e ρ S).stm ρ fun z S => match z with
        | .int m => match binI op n m S with
          | .ok w S => match setop x y w S with | some S => .nx ρ S | none => .bad
          | _ => .bad
        | _ => .bad
      | _ => .bad := by simp only [evS] <;> rfl
@[simp] theorem ss_nil : evSs Φ .nil ρ S = .nx ρ S := by simp only [evSs]
@[simp] theorem ss_cons (s : Mp.S) (ss : Ss) : evSs Φ (.cons s ss) ρ S = (evS Φ s ρ S).next (evSs Φ ss) := by simp only [evSs]
@[simp] theorem hs_nil (c : Str) (fs : List Str) (vs : List D) : evHs Φ .nil c fs vs ρ S = .exc c fs vs ρ S := by simp only [evHs]
@[simp] theorem hs_cons (c' : Str) (i : Option Nat) (b : Ss) (hs : Hs) (c : Str) (fs : List Str) (vs : List D) : evHs Φ (.cons c' i b hs) c fs vs ρ S =
      if takesC c c' then
        match i with
        | none => match evSs Φ b ρ S with
          | .exc .. => .bad
          | .nx ρ S => .nx (clr ρ) S
          | .bk ρ S => .bk (clr ρ) S
          | .ct ρ S => .ct (clr ρ) S
          | r => r
        | some i => match evSs Φ b (setN ρ i (.exc c fs vs)) S with
          | .exc .. => .bad
          | .nx ρ S => .nx (clr (ρ.set i none)) S
          | .bk ρ S => .bk (clr (ρ.set i none)) S
          | .ct ρ S => .ct (clr (ρ.set i none)) S
          | r => r
      else evHs Φ hs c fs vs ρ S := by simp only [evHs] <;> rfl
end
section
variable {α : Type}
@[simp] theorem stm_ok (a : α) (S : Store) (ρ : Env) (f : α → Store → F) : (R.ok a S).stm ρ f = f a S := Eq.trans rfl rfl
@[simp] theorem stm_exc (c : Str) (fs : List Str) (vs : List D) (S : Store) (ρ : Env) (f : α → Store → F) : (R.exc c fs vs S : R α).stm ρ f = .exc c fs vs ρ S := Eq.trans rfl rfl
@[simp] theorem next_nx (ρ : Env) (S : Store) (f : Env → Store → F) : (F.nx ρ S).next f = f ρ S := Eq.trans rfl rfl
@[simp] theorem next_rt (d : D) (S : Store) (f : Env → Store → F) : (F.rt d S).next f = .rt d S := Eq.trans rfl rfl
@[simp] theorem next_bk (ρ : Env) (S : Store) (f : Env → Store → F) : (F.bk ρ S).next f = .bk ρ S := Eq.trans rfl rfl
@[simp] theorem next_ct (ρ : Env) (S : Store) (f : Env → Store → F) : (F.ct ρ S).next f = .ct ρ S := Eq.trans rfl rfl
@[simp] theorem next_exc (c : Str) (fs : List Str) (vs : List D) (ρ : Env) (S : Store) (f : Env → Store → F) : (F.exc c fs vs ρ S).next f = .exc c fs vs ρ S := Eq.trans rfl rfl
@[simp] theorem turn_nx (ρ : Env) (S : Store) (f g : Env → Store → F) : (F.nx ρ S).turn f g = f ρ S := Eq.trans rfl rfl
@[simp] theorem turn_ct (ρ : Env) (S : Store) (f g : Env → Store → F) : (F.ct ρ S).turn f g = f ρ S := Eq.trans rfl rfl
@[simp] theorem turn_bk (ρ : Env) (S : Store) (f g : Env → Store → F) : (F.bk ρ S).turn f g = g ρ S := Eq.trans rfl rfl
@[simp] theorem turn_rt (d : D) (S : Store) (f g : Env → Store → F) : (F.rt d S).turn f g = .rt d S := Eq.trans rfl rfl
@[simp] theorem turn_exc (c : Str) (fs : List Str) (vs : List D) (ρ : Env) (S : Store) (f g : Env → Store → F) : (F.exc c fs vs ρ S).turn f g = .exc c fs vs ρ S := Eq.trans rfl rfl
@[simp] theorem fret_rt (d : D) (S : Store) : fret (.rt d S) = .ok d S := Eq.trans rfl rfl
@[simp] theorem fret_nx (ρ : Env) (S : Store) : fret (.nx ρ S) = .ok .non S := Eq.trans rfl rfl
@[simp] theorem fret_exc (c : Str) (fs : List Str) (vs : List D) (ρ : Env) (S : Store) : fret (.exc c fs vs ρ S) = .exc c fs vs S := Eq.trans rfl rfl
@[simp] theorem ofB_some (b : Bool) (S : Store) : ofB (some b) S = .ok b S := Eq.trans rfl rfl
@[simp] theorem ofO_some (b : Bool) (S : Store) : ofO (some b) S = .ok (.bl b) S := Eq.trans rfl rfl
@[simp] theorem ofD_some (b : D) (S : Store) : ofD (some b) S = .ok b S := Eq.trans rfl rfl
@[simp] theorem noExc_ok (a : α) (S : Store) : noExc (R.ok a S) = .ok a S := Eq.trans rfl rfl
@[simp] theorem testR_ok (d : D) (S : Store) : testR (.ok d S) = ofB (truth S d) S := Eq.trans rfl rfl
@[simp] theorem testR_exc (c : Str) (fs : List Str) (vs : List D) (S : Store) : testR (.exc c fs vs S) = .exc c fs vs S := Eq.trans rfl rfl
@[simp] theorem alloc_fz (xs : List D) (S : Store) : alloc true xs S = .ok (.lst xs) S := Eq.trans rfl rfl
@[simp] theorem alloc_ref (xs : List D) (S : Store) : alloc false xs S = .ok (.ref S.length) (S ++ [.lst xs]) := Eq.trans rfl rfl
@[simp] theorem truth_bl (b : Bool) (S : Store) : truth S (.bl b) = some b := Eq.trans rfl rfl
@[simp] theorem truth_int (i : Int) (S : Store) : truth S (.int i) = some (i != 0) := Eq.trans rfl rfl
@[simp] theorem truth_non (S : Store) : truth S .non = some false := Eq.trans rfl rfl
@[simp] theorem truth_tup (xs : List D) (S : Store) : truth S (.tup xs) = some (!xs.isEmpty) := Eq.trans rfl rfl
@[simp] theorem truth_lst (xs : List D) (S : Store) : truth S (.lst xs) = some (!xs.isEmpty) := Eq.trans rfl rfl
end
@[simp] theorem setN_eq (ρ : Env) (i : Nat) (d : D) : setN ρ i d = ρ.set i (some d) := Eq.trans rfl rfl
@[simp] theorem wipe_nil (ρ : Env) : wipe ρ [] = ρ := Eq.trans rfl rfl
@[simp] theorem wipe_cons (ρ : Env) (v : Nat) (vs : List Nat) : wipe ρ (v :: vs) = (wipe ρ vs).set v none := Eq.trans rfl rfl
/-- a slot that holds plain data -/
def noexc : D → Bool | .exc .. => false | _ => true
theorem slotR_some {d : D} (h : noexc d = true) (S : Store) : slotR (some (some d)) S = .ok d S := by cases d <;> first | rfl | cases h
@[simp] theorem slotR_int (i : Int) (S : Store) : slotR (some (some (.int i))) S = .ok (.int i) S := Eq.trans rfl rfl
@[simp] theorem slotR_bl (i : Bool) (S : Store) : slotR (some (some (.bl i))) S = .ok (.bl i) S := Eq.trans rfl rfl
@[simp] theorem slotR_str (i : Str) (S : Store) : slotR (some (some (.str i))) S = .ok (.str i) S := Eq.trans rfl rfl
@[simp] theorem slotR_tup (i : List D) (S : Store) : slotR (some (some (.tup i))) S = .ok (.tup i) S := Eq.trans rfl rfl
@[simp] theorem slotR_lst (i : List D) (S : Store) : slotR (some (some (.lst i))) S = .ok (.lst i) S := Eq.trans rfl rfl
@[simp] theorem slotR_dic (ks : List Key) (vs : List D) (S : Store) : slotR (some (some (.dic ks vs))) S = .ok (.dic ks vs) S := Eq.trans rfl rfl
@[simp] theorem slotR_ref (i : Nat) (S : Store) : slotR (some (some (.ref i))) S = .ok (.ref i) S := Eq.trans rfl rfl
@[simp] theorem slotR_non (S : Store) : slotR (some (some .non)) S = .ok .non S := Eq.trans rfl rfl
@[simp] theorem line_n : line = 16777216 := Eq.trans rfl rfl
section
variable (fz : Bool) (x y : D) (S : Store)
@[simp] theorem b_isinst : blt .isinst fz [x, y] S = ofO (isinst S x y) S := by
  show (match isinst S x y with | some r => R.ok (D.bl r) S | none => R.bad) = _
  cases isinst S x y <;> rfl
@[simp] theorem b_len : blt .len fz [x] S = ofD ((lenOf S x).map fun n => D.int n) S := by
  show (match lenOf S x with | some n => R.ok (D.int n) S | none => R.bad) = _
  cases lenOf S x <;> rfl
@[simp] theorem b_abs (i : Int) : blt .abs fz [.int i] S = .ok (.int (if i < 0 then -i else i)) S := Eq.trans rfl rfl
@[simp] theorem b_int (i : Int) : blt .int fz [.int i] S = .ok (.int i) S := Eq.trans rfl rfl
@[simp] theorem b_intb (i : Bool) : blt .int fz [.bl i] S = .ok (.int (PyProof.Rows.b2i i)) S := Eq.trans rfl rfl
@[simp] theorem b_sum : blt .sum fz [x] S = ofD (((lstOf S x).bind sumI).map D.int) S := by
  show (match lstOf S x with | some xs => (match sumI xs with | some s => R.ok (D.int s) S | none => R.bad) | none => R.bad) = _
  cases lstOf S x with
  | none => rfl
  | some xs => show (match sumI xs with | some s => R.ok (D.int s) S | none => R.bad) = ofD ((sumI xs).map D.int) S; cases sumI xs <;> rfl
@[simp] theorem b_all : blt .all fz [x] S = ofO ((lstOf S x).bind allB) S := by
  show (match lstOf S x with | some xs => (match allB xs with | some s => R.ok (D.bl s) S | none => R.bad) | none => R.bad) = _
  cases lstOf S x with
  | none => rfl
  | some xs => show (match allB xs with | some s => R.ok (D.bl s) S | none => R.bad) = ofO (allB xs) S; cases allB xs <;> rfl
@[simp] theorem b_any : blt .any fz [x] S = ofO ((lstOf S x).bind anyB) S := by
  show (match lstOf S x with | some xs => (match anyB xs with | some s => R.ok (D.bl s) S | none => R.bad) | none => R.bad) = _
  cases lstOf S x with
  | none => rfl
  | some xs => show (match anyB xs with | some s => R.ok (D.bl s) S | none => R.bad) = ofO (anyB xs) S; cases anyB xs <;> rfl
@[simp] theorem b_max2 (i j : Int) : blt .max fz [.int i, .int j] S = .ok (.int (if j > i then j else i)) S := Eq.trans rfl rfl
@[simp] theorem b_min2 (i j : Int) : blt .min fz [.int i, .int j] S = .ok (.int (if j < i then j else i)) S := Eq.trans rfl rfl
@[simp] theorem b_tuple : blt .tuple fz [x] S = ofD ((seqOf S x).map D.tup) S := by
  show (match seqOf S x with | some xs => R.ok (D.tup xs) S | none => R.bad) = _
  cases seqOf S x <;> rfl
@[simp] theorem b_list : blt .list fz [x] S = match seqOf S x with | some xs => alloc fz xs S | none => R.bad := Eq.trans rfl rfl
@[simp] theorem lst_lst (xs : List D) : lstOf S (.lst xs) = some xs := Eq.trans rfl rfl
@[simp] theorem seq_lst' (xs : List D) : seqOf S (.lst xs) = some xs := Eq.trans rfl rfl
@[simp] theorem seq_tup (xs : List D) : seqOf S (.tup xs) = some xs := Eq.trans rfl rfl
@[simp] theorem len_lst (xs : List D) : lenOf S (.lst xs) = some xs.length := Eq.trans rfl rfl
@[simp] theorem len_tup (xs : List D) : lenOf S (.tup xs) = some xs.length := Eq.trans rfl rfl
end
/-! ### calls -/
theorem arr_pos {α : Type} {ps : List Str} {xs : List α} (h : xs.length = ps.length) : arr ps xs [] [] = some xs := by
  unfold arr
  rw [if_pos ⟨by simpa using h, rfl⟩, h, List.drop_length]
  simp [pick]
theorem phi_pos {T : Tab} {f : Str} {ps : List Str} {fn : Fn} (hT : T f = some (ps, fn)) {xs : List D} (hl : xs.length = ps.length) (n : Nat) (S : Store) : phi T (n + 1) f xs [] [] S = callF (phi T n) fn xs S := by
  show (match T f with | some (ps, fn) => (match arr ps xs [] [] with | some as => callF (phi T n) fn as S | none => .bad) | none => .bad) = _
  rw [hT]
  dsimp only
  rw [arr_pos hl]
theorem phi_kw {T : Tab} {f : Str} {ps : List Str} {fn : Fn} (hT : T f = some (ps, fn)) {xs ys zs : List D} {ks : List Str} (hz : arr ps xs ks ys = some zs) (hl : zs.length = ps.length) (n : Nat) (S : Store) : phi T n f xs ks ys S = phi T n f zs [] [] S := by
  cases n with
  | zero => rfl
  | succ n =>
    rw [phi_pos hT hl]
    show (match T f with | some (ps, fn) => (match arr ps xs ks ys with | some as => callF (phi T n) fn as S | none => .bad) | none => .bad) = _
    rw [hT]
    dsimp only
    rw [hz]
/-- a def that runs on the caller's store -/
theorem phi_whole {T : Tab} {f : Str} {ps : List Str} {np ns : Nat} {fz : Bool} {b : Ss} (hT : T f = some (ps, ⟨np, ns, true, fz, b⟩)) {xs : List D} (hl : xs.length = ps.length) (n : Nat) (S : Store) :
    phi T (n + 1) f xs [] [] S = fret (evSs (phi T n) b (startE ns xs) S) := by
  rw [phi_pos hT hl]
  rfl
/-- a def on its own store, nothing of the caller's handed in -/
theorem phi_own0 {T : Tab} {f : Str} {ps : List Str} {np ns : Nat} {fz : Bool} {b : Ss} (hT : T f = some (ps, ⟨np, ns, false, fz, b⟩)) {xs : List D} (hl : xs.length = ps.length) (hp : xs.all D.pure = true) (n : Nat) (S : Store) :
    phi T (n + 1) f xs [] [] S = backR fz 0 (fun _ => some S) (fret (evSs (phi T n) b (startE ns xs) [])) := by
  rw [phi_pos hT hl]
  have h1 : ∀ l : List D, l.all D.pure = true → l.all okArg = true ∧ refsOf l = [] := by
    intro l
    induction l with
    | nil => intro _; exact ⟨rfl, rfl⟩
    | cons x l ih =>
      intro h
      simp only [List.all_cons, Bool.and_eq_true] at h
      obtain ⟨i1, i2⟩ := ih h.2
      refine ⟨?_, ?_⟩
      · simp only [List.all_cons, Bool.and_eq_true]
        exact ⟨by cases x <;> first | rfl | exact h.1, i1⟩
      · cases x <;> first | exact i2 | cases h.1
  obtain ⟨e1, e2⟩ := h1 xs hp
  unfold callF
  simp only [Bool.false_eq_true, if_false, e1, if_true, e2]
  rfl
/-- .. one of the caller's objects handed in -/
theorem phi_own1 {T : Tab} {f : Str} {ps : List Str} {np ns : Nat} {fz : Bool} {b : Ss} (hT : T f = some (ps, ⟨np, ns, false, fz, b⟩)) {xs : List D} (hl : xs.length = ps.length) {r : Nat} (ha : xs.all okArg = true) (hr : refsOf xs = [r]) {S : Store} {o : O} (hS : S[r]? = some o) (ho : o.pure = true) (n : Nat) :
    phi T (n + 1) f xs [] [] S = backR fz 1 (put1 S r) (fret (evSs (phi T n) b (startE ns (xs.map sub0)) [o])) := by
  rw [phi_pos hT hl]
  unfold callF
  simp only [Bool.false_eq_true, if_false, ha, if_true, hr, hS, ho]
  rfl
@[simp] theorem back_pure (fz : Bool) (S' : Store) (r : Nat) {d : D} (h : d.pure = true) (S : Store) : back fz S' r d S = .ok d S := by
  unfold back
  cases fz with
  | true => unfold deep frz; simp [h]
  | false => simp [h]
/-! ### walks -/
section
variable {f : D → Store → R (List D)} {S : Store}
theorem eachR_flat {g : D → List D} : ∀ {xs : List D}, (∀ x ∈ xs, f x S = .ok (g x) S) → eachR f xs S = .ok (xs.flatMap g) S
  | [], _ => rfl
  | x :: xs, h => by
    simp only [eachR]
    rw [h x List.mem_cons_self, R.bind_ok, eachR_flat fun y hy => h y (List.mem_cons_of_mem _ hy)]
    simp
theorem eachR_map {g : D → D} {xs : List D} (h : ∀ x ∈ xs, f x S = .ok [g x] S) : eachR f xs S = .ok (xs.map g) S := by
  rw [eachR_flat h]
  simp [List.flatMap_singleton']
  induction xs with
  | nil => rfl
  | cons x xs ih => simp [List.flatMap_cons]; exact ih fun y hy => h y (List.mem_cons_of_mem _ hy)
theorem liveR_flat {g : D → List D} {r : Nat} {xs : List D} (hl : lstOf S (.ref r) = some xs) (h : ∀ x ∈ xs, f x S = .ok (g x) S) : ∀ (m i : Nat), m + i = xs.length → liveR f r m i S = .ok ((xs.drop i).flatMap g) S
  | 0, i, e => by
    simp only [liveR, hl]
    rw [if_pos (by omega), List.drop_eq_nil_of_le (by omega)]
    rfl
  | m + 1, i, e => by
    simp only [liveR, hl]
    have hi : i < xs.length := by omega
    rw [List.getElem?_eq_getElem hi]
    dsimp only
    rw [h _ (List.getElem_mem hi), R.bind_ok, liveR_flat hl h m (i + 1) (by omega), R.bind_ok, List.drop_eq_getElem_cons hi, List.flatMap_cons]
/-- what a source gives -/
def itemsOf (S : Store) : Src → Option (List D)
  | .items xs => some xs
  | .live n => lstOf S (.ref n)
theorem srcR_flat {g : D → List D} {src : Src} {xs : List D} (hs : itemsOf S src = some xs) (h : ∀ x ∈ xs, f x S = .ok (g x) S) : srcR f src S = .ok (xs.flatMap g) S := by
  cases src with
  | items ys => cases hs; exact eachR_flat h
  | live n =>
    have hs : lstOf S (.ref n) = some xs := hs
    simp only [srcR, hs]
    rw [liveR_flat hs h xs.length 0 rfl]
    simp
theorem srcR_map {g : D → D} {src : Src} {xs : List D} (hs : itemsOf S src = some xs) (h : ∀ x ∈ xs, f x S = .ok [g x] S) : srcR f src S = .ok (xs.map g) S := by
  rw [srcR_flat hs h]
  congr 1
  clear hs h
  induction xs with
  | nil => rfl
  | cons x xs ih => rw [List.flatMap_cons, ih]; rfl
end
section
variable {f : D → Env → Store → F}
/-- a for whose turns all go on -/
theorem eachF_inv (I : Nat → Env → Store → Prop) {xs : List D} (h : ∀ i (hi : i < xs.length) ρ S, I i ρ S → ∃ ρ' S', (f xs[i] ρ S = .nx ρ' S' ∨ f xs[i] ρ S = .ct ρ' S') ∧ I (i + 1) ρ' S') {ρ : Env} {S : Store} (h0 : I 0 ρ S) :
    ∃ ρ' S', eachF f xs ρ S = .nx ρ' S' ∧ I xs.length ρ' S' := by
  induction xs generalizing I ρ S with
  | nil => exact ⟨ρ, S, rfl, h0⟩
  | cons x xs ih =>
    obtain ⟨ρ1, S1, e, i1⟩ := h 0 (by simp) ρ S h0
    have e : (f x ρ S = .nx ρ1 S1 ∨ f x ρ S = .ct ρ1 S1) := e
    obtain ⟨ρ2, S2, e2, i2⟩ := ih (fun i => I (i + 1)) (fun i hi ρ S hI => h (i + 1) (by simpa using hi) ρ S hI) i1
    refine ⟨ρ2, S2, ?_, by simpa using i2⟩
    simp only [eachF]
    rcases e with e | e <;> rw [e] <;> exact e2
end
/-! ### places -/
theorem atI_nat {α : Type} {xs : List α} {k : Nat} (h : k < xs.length) : L2.atI xs (k : Int) = some xs[k] := by
  unfold L2.atI L2.ixN
  rw [if_pos (by omega), if_pos (by omega)]
  simp [h]
theorem atI_int {α : Type} {xs : List α} {k : Int} (h0 : 0 ≤ k) (h : k < xs.length) : L2.atI xs k = some (xs[k.toNat]'(by omega)) := by
  obtain ⟨n, rfl⟩ := Int.eq_ofNat_of_zero_le h0
  exact atI_nat (by omega)
end Mp
/-! Pl, part B: drawn numbers. -/
namespace Mp
open PySem
theorem ix_lstR {S : Store} {r : Nat} {xs : List D} (h : S[r]? = some (.lst xs)) (k : Int) : ixop (.ref r) (.int k) S = L2.atI xs k := by
  simp [ixop, ixAny, dicOf, seqOf, lstOf, h, ixSeq]
@[simp] theorem ix_tup (xs : List D) (k : Int) (S : Store) : ixop (.tup xs) (.int k) S = L2.atI xs k := Eq.trans rfl rfl
@[simp] theorem ix_lst (xs : List D) (k : Int) (S : Store) : ixop (.lst xs) (.int k) S = L2.atI xs k := Eq.trans rfl rfl
theorem set_lstR {S : Store} {r : Nat} {xs : List D} (h : S[r]? = some (.lst xs)) {k : Int} {j : Nat} (hk : L2.ixN xs.length k = some j) (v : D) : setop (.ref r) (.int k) v S = some (S.set r (.lst (xs.set j v))) := by
  simp [setop, h, hk]
@[simp] theorem binop_int (op : Operator) (fz : Bool) (i j : Int) (S : Store) : binop op fz (.int i) (.int j) S = binI op i j S := Eq.trans rfl rfl
@[simp] theorem cmpop_int (op : CmpOp) (i j : Int) (S : Store) : cmpop op (.int i) (.int j) S = cmpI op i j := Eq.trans rfl rfl
theorem intBits_le {i : Int} {k : Nat} (h : i.natAbs < 2 ^ k) : Builtin.Int.intBits i ≤ k := by
  unfold Builtin.Int.intBits
  split
  · omega
  · rename_i hi
    have := (Nat.log2_lt (by simpa using hi)).mpr h
    omega
theorem mulOk_of {i j : Int} {a b : Nat} (hi : i.natAbs < 2 ^ a) (hj : j.natAbs < 2 ^ b) (h : a + b ≤ 134217728) : mulOk i j = true := by
  unfold mulOk
  have h1 := intBits_le hi
  have h2 := intBits_le hj
  exact decide_eq_true (by omega)
/-- small numbers -/
theorem mulOk_small {i j : Int} (hi : i.natAbs < 2 ^ 64) (hj : j.natAbs < 2 ^ 64) : mulOk i j = true := mulOk_of hi hj (by decide)
theorem powOk_of {i j : Int} (hi : i.natAbs < 2 ^ 64) (h0 : 0 ≤ j) (h1 : j ≤ 1000000) : powOk i j = true := by
  unfold powOk
  simp [h0, h1, hi]
theorem divOk_small {i j : Int} (h0 : 0 < j) (h1 : j < 2 ^ 64) : divOk i j = true := by
  unfold divOk Builtin.divisionGoesByPylong
  have hl : j.natAbs.log2 < 64 := (Nat.log2_lt (by omega)).mpr (by omega)
  have : ¬ ((if (j == 0) = true then 0 else j.natAbs.log2 / 30 + 1) > 300) := by
    split
    · omega
    · omega
  simp only [decide_eq_false this, Bool.false_and, Bool.not_false, Bool.and_true]
  exact decide_eq_true (by omega)
/-- a box of digits, of which at most c are drawn -/
def BoxOk (c : Int) (o : O) : Prop := ∃ (a : Int) (b : Bool) (m k : Int), o = .lst [.int a, .bl b, .int m, .int k] ∧ 0 ≤ a ∧ 0 ≤ m ∧ m < 2147483629 ∧ 0 ≤ k ∧ k ≤ c
theorem BoxOk.mono {c c' : Int} {o : O} (h : BoxOk c o) (hc : c ≤ c') : BoxOk c' o := by
  obtain ⟨a, b, m, k, h1, h2, h3, h4, h5, h6⟩ := h
  exact ⟨a, b, m, k, h1, h2, h3, h4, h5, by omega⟩
theorem BoxOk.pure {c : Int} {o : O} (h : BoxOk c o) : o.pure = true := by
  obtain ⟨a, b, m, k, rfl, _⟩ := h
  rfl
def takeB (c1 c2 c3 : Int) : Ss := (.cons (.ife (.band (.cons (.ix (.v 0) (.k (.int 1))) (.cons (.cmp .Gt (.ix (.v 0) (.k (.int 0))) (.k (.int 0))) .nil))) (.cons (.asg (.n 2) (.bin .Mod true (.blt .int true (.cons (.ix (.v 0) (.k (.int 0))) .nil)) (.v 1))) (.cons (.asg (.s (.v 0) (.k (.int 0))) (.bin .FloorDiv true (.ix (.v 0) (.k (.int 0))) (.v 1))) (.cons (.ret (.v 2)) .nil))) .nil) (.cons (.asg (.s (.v 0) (.k (.int 3))) (.bin .Add true (.ix (.v 0) (.k (.int 3))) (.k (.int 1)))) (.cons (.asg (.n 3) (.bin .Mod true (.blt .int true (.cons (.bin .Pow true (.bin .Add true (.bin .Add true (.ix (.v 0) (.k (.int 2))) (.bin .Mult true (.k (.int c1)) (.ix (.v 0) (.k (.int 3))))) (.k (.int c2))) (.k (.int 5))) .nil)) (.k (.int 2147483647)))) (.cons (.ret (.bin .Mod true (.blt .int true (.cons (.bin .FloorDiv true (.bin .Mod true (.blt .int true (.cons (.bin .Pow true (.bin .Add true (.bin .Mult true (.v 3) (.k (.int 48271))) (.bin .Mult true (.k (.int c3)) (.ix (.v 0) (.k (.int 3))))) (.k (.int 3))) .nil)) (.k (.int 2147483587))) (.k (.int 64))) .nil)) (.v 1))) .nil))))
/-- what a law's own defs are -/
structure TakeT (T : Tab) (c1 c2 c3 : Int) : Prop where
  t : T "_law_take" = some ((["box", "many"] : List Str), (⟨2, 4, true, true, takeB c1 c2 c3⟩ : Fn))
  h1 : 0 ≤ c1 ∧ c1 ≤ 2 ^ 25
  h2 : 0 ≤ c2 ∧ c2 ≤ 2 ^ 30
  h3 : 0 ≤ c3 ∧ c3 ≤ 2 ^ 20
theorem fmod_bd (a : Int) {b : Int} (h : 0 < b) : 0 ≤ a.fmod b ∧ a.fmod b < b := ⟨Int.fmod_nonneg_of_pos _ h, Int.fmod_lt_of_pos _ h⟩
theorem take_ok {T : Tab} {c1 c2 c3 : Int} (t : TakeT T c1 c2 c3) {n : Nat} (hn : 1 ≤ n) {S : Store} {r : Nat} {o : O} {c many : Int} (hS : S[r]? = some o) (hb : BoxOk c o) (hc : c ≤ 10000000000) (hm0 : 0 < many) (hm1 : many ≤ 10000000000000000) :
    ∃ i o', phi T n "_law_take" [.ref r, .int many] [] [] S = .ok (.int i) (S.set r o') ∧ 0 ≤ i ∧ i < many ∧ BoxOk (c + 1) o' := by
  obtain ⟨n, rfl⟩ : ∃ m, n = m + 1 := ⟨n - 1, by omega⟩
  obtain ⟨a, b, m, k, rfl, h2, h3, h4, h5, h6⟩ := hb
  obtain ⟨t, ⟨a1, a2⟩, ⟨a3, a4⟩, ⟨a5, a6⟩⟩ := t
  have hlt : r < S.length := (List.getElem?_eq_some_iff.mp hS).1
  have at0 : L2.atI [D.int a, D.bl b, D.int m, D.int k] 0 = some (.int a) := rfl
  have at1 : L2.atI [D.int a, D.bl b, D.int m, D.int k] 1 = some (.bl b) := rfl
  have at3 : L2.atI [D.int a, D.bl b, D.int m, D.int k] 3 = some (.int k) := rfl
  have mne : many ≠ 0 := by omega
  rw [phi_whole t rfl]
  by_cases hcond : b = true ∧ 0 < a
  · obtain ⟨rfl, ha⟩ := hcond
    have d := divOk_small (i := a) hm0 (by omega)
    refine ⟨a.fmod many, .lst [.int (a.fdiv many), .bl true, .int m, .int k], ?_, (fmod_bd a hm0).1, (fmod_bd a hm0).2, _, _, _, _, rfl, Int.fdiv_nonneg h2 (by omega), h3, h4, h5, by omega⟩
    have st : setop (.ref r) (.int 0) (.int (a.fdiv many)) S = some (S.set r (.lst [.int (a.fdiv many), .bl true, .int m, .int k])) := set_lstR hS (j := 0) rfl _
    simp [takeB, startE, ix_lstR hS, at0, at1, cmpI, ha, blt, blt1, binI, mne, setN, d, st]
  · have nc : ∀ f : Store → F, (if b = true then (if (decide (0 < a)) = true then f S else .nx [] S) else .nx [] S) = (if b = true ∧ 0 < a then f S else .nx [] S) := by
      intro f; by_cases hb : b = true <;> simp [hb]
    have q1 := fmod_bd ((m + c1 * (k + 1) + c2) ^ 5) (b := 2147483647) (by omega)
    have m1 : c1 * (k + 1) ≤ 2 ^ 25 * (10000000000 + 1) := Int.mul_le_mul a2 (by omega) (by omega) (by omega)
    have m1' : 0 ≤ c1 * (k + 1) := Int.mul_nonneg a1 (by omega)
    have m2 : c3 * (k + 1) ≤ 2 ^ 20 * (10000000000 + 1) := Int.mul_le_mul a6 (by omega) (by omega) (by omega)
    have m2' : 0 ≤ c3 * (k + 1) := Int.mul_nonneg a5 (by omega)
    have st : setop (.ref r) (.int 3) (.int (k + 1)) S = some (S.set r (.lst [.int a, .bl b, .int m, .int (k + 1)])) := set_lstR hS (j := 3) rfl _
    have hS' : (S.set r (.lst [.int a, .bl b, .int m, .int (k + 1)]))[r]? = some (.lst [.int a, .bl b, .int m, .int (k + 1)]) := by simp [hlt]
    have bt2 : L2.atI [D.int a, D.bl b, D.int m, D.int (k + 1)] 2 = some (.int m) := rfl
    have bt3 : L2.atI [D.int a, D.bl b, D.int m, D.int (k + 1)] 3 = some (.int (k + 1)) := rfl
    have k1 : mulOk c1 (k + 1) = true := mulOk_small (by omega) (by omega)
    have k2 : mulOk c3 (k + 1) = true := mulOk_small (by omega) (by omega)
    have k3 : mulOk (((m + c1 * (k + 1) + c2) ^ 5).fmod 2147483647) 48271 = true := mulOk_small (by omega) (by omega)
    have p1 : powOk (m + c1 * (k + 1) + c2) 5 = true := powOk_of (by omega) (by omega) (by omega)
    have p2 : powOk (((m + c1 * (k + 1) + c2) ^ 5).fmod 2147483647 * 48271 + c3 * (k + 1)) 3 = true := powOk_of (by omega) (by omega) (by omega)
    have d1 : ∀ i, divOk i 64 = true := fun i => divOk_small (by omega) (by omega)
    refine ⟨((((((m + c1 * (k + 1) + c2) ^ 5).fmod 2147483647 * 48271 + c3 * (k + 1)) ^ 3).fmod 2147483587).fdiv 64).fmod many, .lst [.int a, .bl b, .int m, .int (k + 1)], ?_, (fmod_bd _ hm0).1, (fmod_bd _ hm0).2, _, _, _, _, rfl, h2, h3, h4, by omega, by omega⟩
    have two : b = false ∨ (b = true ∧ ¬ 0 < a) := by
      cases b with
      | false => exact .inl rfl
      | true => exact .inr ⟨rfl, fun z => hcond ⟨rfl, z⟩⟩
    rcases two with rfl | ⟨rfl, na⟩
    · simp [takeB, startE, ix_lstR hS, ix_lstR hS', at0, at1, at3, bt2, bt3, cmpI, blt, blt1, binI, mne, setN, st, k1, k2, k3, p1, p2, d1]
    · simp [takeB, startE, ix_lstR hS, ix_lstR hS', at0, at1, at3, bt2, bt3, cmpI, na, blt, blt1, binI, mne, setN, st, k1, k2, k3, p1, p2, d1]
end Mp
/-! Pl, part C: the laws' own helpers: pick, mixed, same, very. -/
namespace Mp
open PySem
/-! ### sequences -/
theorem seq_slot {S : Store} {d : D} {xs : List D} (h : seqOf S d = some xs) : slotR (some (some d)) S = .ok d S := by
  cases d <;> first | rfl | cases h
theorem seq_len {S : Store} {d : D} {xs : List D} (h : seqOf S d = some xs) : lenOf S d = some xs.length := by
  cases d with
  | tup ys => cases h; rfl
  | lst ys => cases h; rfl
  | ref n =>
    have h : (match S[n]? with | some (.lst xs) => some xs | _ => none) = some xs := h
    unfold lenOf
    split at h
    · rename_i ys e; cases h; simp only [e]
    · cases h
  | _ => cases h
theorem seq_ix {S : Store} {d : D} {xs : List D} (h : seqOf S d = some xs) (k : Int) : ixop d (.int k) S = L2.atI xs k := by
  cases d with
  | tup ys => cases h; rfl
  | lst ys => cases h; rfl
  | ref n =>
    have h : (match S[n]? with | some (.lst xs) => some xs | _ => none) = some xs := h
    split at h
    · rename_i ys e; cases h; exact ix_lstR e k
    · cases h
  | _ => cases h
theorem seq_set {S : Store} {d : D} {r : Nat} (h : d ≠ .ref r) (o : O) : seqOf (S.set r o) d = seqOf S d := by
  cases d with
  | ref n =>
    have hn : r ≠ n := fun e => h (by rw [e])
    show (match (S.set r o)[n]? with | some (.lst xs) => some xs | _ => none) = (match S[n]? with | some (.lst xs) => some xs | _ => none)
    rw [List.getElem?_set_ne hn]
  | _ => rfl
theorem seq_src {S : Store} {d : D} {xs : List D} (h : seqOf S d = some xs) : ∃ src, srcOf S d = some src ∧ itemsOf S src = some xs := by
  cases d with
  | tup ys => cases h; exact ⟨.items _, rfl, rfl⟩
  | lst ys => cases h; exact ⟨.items _, rfl, rfl⟩
  | ref n =>
    have h' : (match S[n]? with | some (.lst xs) => some xs | _ => none) = some xs := h
    split at h'
    · rename_i ys e
      cases h'
      refine ⟨.live n, ?_, ?_⟩
      · show (match S[n]? with | some (.lst _) => some (Src.live n) | some (.lok ks _) => keysOf ks | _ => none) = _
        rw [e]
      · show lstOf S (.ref n) = _
        simp only [lstOf, e]
    · cases h'
  | _ => cases h
theorem blt_len {S : Store} {d : D} {k : Nat} (h : lenOf S d = some k) : blt .len true [d] S = .ok (.int k) S := by
  simp only [blt, blt1, h]
theorem rng_of {n : Nat} (h : n ≤ line) : rngOf [.int (n : Int)] = some (rngL 0 n) := by
  have hl : line = 16777216 := rfl
  show (if -(2 ^ 62) ≤ (n : Int) ∧ (n : Int) ≤ (line : Int) then some (rngL 0 (n : Int).toNat) else none) = _
  rw [if_pos ⟨by omega, by omega⟩]
  rfl
theorem rng_of2 {i j : Int} (h1 : -(2 ^ 62) ≤ i) (h2 : i < 2 ^ 62) (h3 : -(2 ^ 62) ≤ j) (h4 : j < 2 ^ 62) (h5 : j - i ≤ (line : Int)) : rngOf [.int i, .int j] = some (rngL i (j - i).toNat) := by
  show (if -(2 ^ 62) ≤ i ∧ i < 2 ^ 62 ∧ -(2 ^ 62) ≤ j ∧ j < 2 ^ 62 ∧ j - i ≤ (line : Int) then some (rngL i (j - i).toNat) else none) = _
  rw [if_pos ⟨h1, h2, h3, h4, h5⟩]
@[simp] theorem rngL_sz (lo : Int) (n : Nat) : (rngL lo n).length = n := by simp [rngL]
theorem rngL_get {lo : Int} {n i : Nat} (h : i < (rngL lo n).length) : (rngL lo n)[i] = .int (lo + i) := by simp [rngL]
theorem mem_rng {lo : Int} {n : Nat} {x : D} (h : x ∈ rngL lo n) : ∃ i : Nat, i < n ∧ x = .int (lo + i) := by
  simp only [rngL, List.mem_map, List.mem_range] at h
  obtain ⟨i, hi, rfl⟩ := h
  exact ⟨i, hi, rfl⟩
/-! ### pick -/
def pickB : Ss := (.cons (.ret (.ix (.v 1) (.call "_law_take" (.cons (.v 0) (.cons (.blt .len true (.cons (.v 1) .nil)) .nil)) [] .nil))) .nil)
theorem pick_ok {T : Tab} {c1 c2 c3 : Int} (t : TakeT T c1 c2 c3) {fz : Bool} (p : T "_law_pick" = some ((["box", "items"] : List Str), (⟨2, 2, true, fz, pickB⟩ : Fn))) {n : Nat} (hn : 2 ≤ n) {S : Store} {r : Nat} {o : O} {c : Int} {items : D} {xs : List D}
    (hS : S[r]? = some o) (hb : BoxOk c o) (hc : c ≤ 10000000000) (hx : seqOf S items = some xs) (hne : items ≠ .ref r) (h0 : 0 < xs.length) (h1 : xs.length ≤ 1000000000) :
    ∃ (i : Nat) (hi : i < xs.length) (o' : O), phi T n "_law_pick" [.ref r, items] [] [] S = .ok xs[i] (S.set r o') ∧ BoxOk (c + 1) o' := by
  obtain ⟨n, rfl⟩ : ∃ m, n = m + 1 := ⟨n - 1, by omega⟩
  obtain ⟨i, o', e, i0, i1, hb'⟩ := take_ok t (n := n) (by omega) hS hb hc (many := xs.length) (by omega) (by omega)
  refine ⟨i.toNat, by omega, o', ?_, hb'⟩
  rw [phi_whole p rfl]
  have q : seqOf (S.set r o') items = some xs := (seq_set hne o').trans hx
  simp [pickB, startE, seq_slot hx, seq_len hx, e, seq_ix q, atI_int i0 i1]
/-! ### mixed -/
def mixedL : Ss := (.cons (.ex (.meth .append (.v 3) (.cons (.meth .pop (.v 2) (.cons (.call "_law_take" (.cons (.v 0) (.cons (.blt .len true (.cons (.v 2) .nil)) .nil)) [] .nil) .nil)) .nil))) .nil)
def mixedB : Ss := (.cons (.asg (.t (.cons (.n 2) (.cons (.n 3) .nil))) (.tup (.cons (.blt .list false (.cons (.v 1) .nil)) (.cons (.lst false .nil) .nil)))) (.cons (.each (.n 4) (.rng (.cons (.blt .len true (.cons (.v 1) .nil)) .nil)) mixedL) (.cons (.ret (.v 3)) .nil)))
theorem pureL_all (xs : List D) : pureL xs = xs.all D.pure := by
  induction xs with
  | nil => rfl
  | cons x xs ih => simp only [pureL, List.all_cons, ih]
theorem pureL_perm {xs ys : List D} (h : xs.Perm ys) (hy : pureL ys = true) : pureL xs = true := by
  rw [pureL_all] at *
  rw [List.all_eq_true] at *
  exact fun x hx => hy x (h.mem_iff.mp hx)
theorem mapO_id {f : D → Option D} : ∀ {xs : List D}, (∀ x ∈ xs, f x = some x) → mapO f xs = some xs
  | [], _ => rfl
  | x :: xs, h => by
    simp only [mapO, h x List.mem_cons_self, mapO_id fun y hy => h y (List.mem_cons_of_mem _ hy)]
theorem frz_pure {S : Store} {r n : Nat} {d : D} (h : d.pure = true) : frz S r n d = some d := by
  cases n <;> simp [frz, h]
theorem frz_lst {S : Store} {r n k : Nat} {xs : List D} (hk : r ≤ k) (hS : S[k]? = some (.lst xs)) (hp : pureL xs = true) : frz S r (n + 1) (.ref k) = some (.lst xs) := by
  have e : mapO (frz S r n) xs = some xs := mapO_id fun x hx => frz_pure (by rw [pureL_all, List.all_eq_true] at hp; exact hp x hx)
  simp [frz, D.pure, hk, hS, e]
theorem seqIndex_of {i : Int} {n : Nat} (h0 : 0 ≤ i) (h1 : i < n) : seqIndex? i n = some i.toNat := by
  unfold seqIndex?
  simp only [if_neg (show ¬ i < 0 by omega)]
  simp [h0, h1]
theorem eachF_lst {f : D → Env → Store → F} {g : D → Env → Store → F} {xs : List D} {ρ : Env} {S : Store} (h : ∀ x ρ S, f x ρ S = g x ρ S) : eachF f xs ρ S = eachF g xs ρ S := by
  have : f = g := by funext x ρ S; exact h x ρ S
  rw [this]
theorem eraseIdx_perm {α : Type} : ∀ {xs : List α} {k : Nat} (h : k < xs.length), (xs[k] :: xs.eraseIdx k).Perm xs
  | x :: xs, 0, h => .refl _
  | x :: xs, k + 1, h => by
    show (xs[k]'(by simpa using h) :: x :: xs.eraseIdx k).Perm (x :: xs)
    exact (List.Perm.swap _ _ _).trans ((eraseIdx_perm (by simpa using h)).cons x)
theorem mixed_ok {T : Tab} {c1 c2 c3 : Int} (t : TakeT T c1 c2 c3) (p : T "_law_mixed" = some ((["box", "items"] : List Str), (⟨2, 5, false, true, mixedB⟩ : Fn))) {n : Nat} (hn : 2 ≤ n) {S : Store} {r : Nat} {o : O} {c : Int} {items : D} {xs : List D}
    (hS : S[r]? = some o) (hb : BoxOk c o) (hc : c ≤ 1000000000) (hx : seqOf [] items = some xs) (hp : pureL xs = true) (h1 : xs.length ≤ 1000000) :
    ∃ (ys : List D) (o' : O), phi T n "_law_mixed" [.ref r, items] [] [] S = .ok (.lst ys) (S.set r o') ∧ ys.Perm xs ∧ BoxOk (c + xs.length) o' := by
  obtain ⟨n, rfl⟩ : ∃ m, n = m + 1 := ⟨n - 1, by omega⟩
  have hl : line = 16777216 := rfl
  have hS0 : ∀ S0 : Store, seqOf S0 items = some xs := by
    intro S0
    cases items <;> first | exact hx | cases hx
  have ip : okArg items = true ∧ sub0 items = items ∧ refsOf [.ref r, items] = [r] := by
    cases items with
    | tup ys => cases hx; exact ⟨hp, rfl, rfl⟩
    | lst ys => cases hx; exact ⟨hp, rfl, rfl⟩
    | _ => cases hx
  rw [phi_own1 p rfl (r := r) (by simp only [List.all_cons, List.all_nil, ip.1]; rfl) ip.2.2 hS hb.pure]
  have inv := eachF_inv (f := fun x ρ S => evSs (phi T n) mixedL (ρ.set 4 (some x)) S)
    (fun i ρ S' => ∃ b left found e, S' = [b, .lst left, .lst found] ∧ BoxOk (c + i) b ∧ (left ++ found).Perm xs ∧ left.length + i = xs.length ∧ ρ = [some (.ref 0), some items, some (.ref 1), some (.ref 2), e]) (xs := rngL 0 xs.length) (fun i hi ρ S' hI => ?_) (ρ := [some (.ref 0), some items, some (.ref 1), some (.ref 2), none]) (S := [o, .lst xs, .lst []]) ⟨o, xs, [], none, rfl, by simpa using hb, by simp, by simp, rfl⟩
  · obtain ⟨ρ', S', e, b, left, found, e4, rfl, hb', hperm, hlen, rfl⟩ := inv
    rw [rngL_sz] at hb' hlen
    have hl0 : left = [] := List.eq_nil_of_length_eq_zero (by omega)
    subst hl0
    refine ⟨found, b, ?_, by simpa using hperm, hb'⟩
    have fp : pureL found = true := pureL_perm (by simpa using hperm) hp
    simp [mixedB, startE, ip.2.1, show sub0 (.ref r) = .ref 0 from rfl, seq_slot (hS0 _), hS0, seq_len (hS0 _), hl, setN, rng_of (show xs.length ≤ line by rw [hl]; omega), srcF, e]
    simp [backR, put1, hb'.pure, back, deep, frz_lst (S := [b, O.lst [], O.lst found]) (r := 1) (n := 8) (k := 2) (by omega) rfl fp]
  · obtain ⟨b, left, found, e4, rfl, hb', hperm, hlen, rfl⟩ := hI
    rw [rngL_sz] at hi
    have hpos : 0 < left.length := by omega
    obtain ⟨k, b', et, k0, k1, hb2⟩ := take_ok t (n := n) (by omega) (S := [b, .lst left, .lst found]) (r := 0) rfl hb' (by omega) (many := left.length) (by omega) (by omega)
    have kt : k.toNat < left.length := by omega
    have hfl : found.length + left.length = xs.length := by have := hperm.length_eq; simp at this; omega
    refine ⟨[some (.ref 0), some items, some (.ref 1), some (.ref 2), some ((rngL 0 xs.length)[i]'(by simpa using hi))], [b', .lst (left.eraseIdx k.toNat), .lst (found ++ [left[k.toNat]])], .inl ?_, b', _, _, _, rfl, ?_, ?_, ?_, rfl⟩
    · have et' : phi T n (Str.ofString "_law_take") [.ref 0, .int left.length] [] [] [b, .lst left, .lst found] = .ok (.int k) [b', .lst left, .lst found] := et
      simp [mixedL, lstOf, lenOf, et', meth, methL, seqIndex_of k0 (show k < (left.length : Int) by omega), kt, show -(2 ^ 63) ≤ k by omega, show k < 2 ^ 63 by omega]
      rw [if_pos ⟨by omega, by omega⟩]
      simp [show found.length < 16777216 by omega]
    · have : c + (i : Int) + 1 = c + ((i + 1 : Nat) : Int) := by omega
      rw [← this]; exact hb2
    · refine List.Perm.trans ?_ hperm
      have h := eraseIdx_perm kt
      have h2 : (left.eraseIdx k.toNat ++ (found ++ [left[k.toNat]])).Perm (left[k.toNat] :: (left.eraseIdx k.toNat ++ found)) := by
        rw [← List.append_assoc]
        exact List.perm_append_singleton _ _
      exact h2.trans (h.append_right found)
    · rw [List.length_eraseIdx_of_lt kt]
      omega
end Mp
/-! Pl, part D: the laws' own comparison. -/
namespace Mp
open PySem
def sameC1 : E := (.comp true [2] (.n 2) (.e (.v 1)) (.cons (.bor (.cons (.cmp .NotIn (.v 2) (.v 0)) (.cons (.bnot (.call "_law_same" (.cons (.ix (.v 0) (.v 2)) (.cons (.ix (.v 1) (.v 2)) .nil)) [] .nil)) .nil))) .nil) (.elt (.v 2)))
def sameB : Ss := (.cons (.ife (.bor (.cons (.cmp .Is (.v 1) (.k .non)) (.cons (.blt .isinst true (.cons (.v 1) (.cons (.kty "bool") .nil))) .nil))) (.cons (.ret (.ife (.cmp .Is (.v 1) (.k .non)) (.cmp .Is (.v 0) (.k .non)) (.band (.cons (.blt .isinst true (.cons (.v 0) (.cons (.kty "bool") .nil))) (.cons (.cmp .Eq (.cmp .Is (.v 0) (.k (.bl true))) (.cmp .Is (.v 1) (.k (.bl true)))) .nil))))) .nil) .nil) (.cons (.ife (.blt .isinst true (.cons (.v 1) (.cons (.kty "int") .nil))) (.cons (.ret (.band (.cons (.blt .isinst true (.cons (.v 0) (.cons (.kty "int") .nil))) (.cons (.bnot (.blt .isinst true (.cons (.v 0) (.cons (.kty "bool") .nil)))) (.cons (.cmp .Eq (.bin .Sub true (.blt .int true (.cons (.v 0) .nil)) (.v 1)) (.k (.int 0))) .nil))))) .nil) .nil) (.cons (.ife (.blt .isinst true (.cons (.v 1) (.cons (.kty "str") .nil))) (.cons (.ret (.band (.cons (.blt .isinst true (.cons (.v 0) (.cons (.kty "str") .nil))) (.cons (.cmp .Eq (.v 0) (.v 1)) .nil)))) .nil) .nil) (.cons (.ife (.blt .isinst true (.cons (.v 1) (.cons (.kty "dict") .nil))) (.cons (.ife (.bor (.cons (.bnot (.blt .isinst true (.cons (.v 0) (.cons (.kty "dict") .nil)))) (.cons (.cmp .NotEq (.blt .len true (.cons (.v 0) .nil)) (.blt .len true (.cons (.v 1) .nil))) .nil))) (.cons (.ret (.k (.bl false))) .nil) .nil) (.cons (.ret (.cmp .Eq (.lockd 1 sameC1) (.lst true .nil))) .nil)) .nil) (.cons (.ife (.bor (.cons (.bnot (.blt .isinst true (.cons (.v 1) (.cons (.tup (.cons (.kty "list") (.cons (.kty "tuple") .nil))) .nil)))) (.cons (.bnot (.blt .isinst true (.cons (.v 0) (.cons (.tup (.cons (.kty "list") (.cons (.kty "tuple") .nil))) .nil)))) .nil))) (.cons (.ret (.k (.bl false))) .nil) .nil) (.cons (.ife (.bor (.cons (.cmp .NotEq (.blt .isinst true (.cons (.v 0) (.cons (.kty "list") .nil))) (.blt .isinst true (.cons (.v 1) (.cons (.kty "list") .nil)))) (.cons (.cmp .NotEq (.blt .len true (.cons (.v 0) .nil)) (.blt .len true (.cons (.v 1) .nil))) .nil))) (.cons (.ret (.k (.bl false))) .nil) .nil) (.cons (.ret (.cmp .Eq (.comp true [3] (.n 3) (.rng (.cons (.blt .len true (.cons (.v 1) .nil)) .nil)) (.cons (.bnot (.call "_law_same" (.cons (.ix (.v 0) (.v 3)) (.cons (.ix (.v 1) (.v 3)) .nil)) [] .nil)) .nil) (.elt (.v 3))) (.lst true .nil))) .nil)))))))
/-- two values are alike all through, to a depth -/
def Sm (S : Store) : Nat → D → D → Prop
  | 0, _, _ => False
  | k + 1, a, b => (a = .non ∧ b = .non) ∨ (∃ x, a = .bl x ∧ b = .bl x) ∨ (∃ x, a = .int x ∧ b = .int x) ∨ (∃ x, a = .str x ∧ b = .str x ∧ shp (.str x) = true) ∨
    (∃ xs ys, a = .tup xs ∧ b = .tup ys ∧ xs.length = ys.length ∧ xs.length ≤ line ∧ ∀ (i : Nat) (x y : D), xs[i]? = some x → ys[i]? = some y → Sm S k x y) ∨
    (∃ xs ys, lstOf S a = some xs ∧ lstOf S b = some ys ∧ xs.length = ys.length ∧ xs.length ≤ line ∧ ∀ (i : Nat) (x y : D), xs[i]? = some x → ys[i]? = some y → Sm S k x y) ∨
    (∃ ks vs ws, dicOf S a = some (ks, vs) ∧ dicOf S b = some (ks, ws) ∧ ks.length ≤ line ∧ ∀ q ∈ ks, ∃ x y, findK q ks vs = some x ∧ findK q ks ws = some y ∧ Sm S k x y)
theorem Sm.mono {S : Store} : ∀ {k k' : Nat} {a b : D}, Sm S k a b → k ≤ k' → Sm S k' a b
  | 0, _, _, _, h, _ => h.elim
  | k + 1, 0, _, _, _, hk => by omega
  | k + 1, k' + 1, a, b, h, hk => by
    rcases h with h | h | h | h | ⟨xs, ys, h1, h2, h3, h4, h5⟩ | ⟨xs, ys, h1, h2, h3, h4, h5⟩ | ⟨ks, vs, ws, h1, h2, h3, h4⟩
    · exact .inl h
    · exact .inr (.inl h)
    · exact .inr (.inr (.inl h))
    · exact .inr (.inr (.inr (.inl h)))
    · exact .inr (.inr (.inr (.inr (.inl ⟨xs, ys, h1, h2, h3, h4, fun i x y e1 e2 => (h5 i x y e1 e2).mono (by omega)⟩))))
    · exact .inr (.inr (.inr (.inr (.inr (.inl ⟨xs, ys, h1, h2, h3, h4, fun i x y e1 e2 => (h5 i x y e1 e2).mono (by omega)⟩)))))
    · refine .inr (.inr (.inr (.inr (.inr (.inr ⟨ks, vs, ws, h1, h2, h3, fun q hq => ?_⟩)))))
      obtain ⟨x, y, e1, e2, e3⟩ := h4 q hq
      exact ⟨x, y, e1, e2, e3.mono (by omega)⟩
/-- what is read of a store -/
theorem Sm.reads {S S' : Store} (hl : ∀ d xs, lstOf S d = some xs → lstOf S' d = some xs) (hd : ∀ d r, dicOf S d = some r → dicOf S' d = some r) : ∀ {k : Nat} {a b : D}, Sm S k a b → Sm S' k a b
  | 0, _, _, h => h
  | k + 1, a, b, h => by
    rcases h with h | h | h | h | ⟨xs, ys, h1, h2, h3, h4, h5⟩ | ⟨xs, ys, h1, h2, h3, h4, h5⟩ | ⟨ks, vs, ws, h1, h2, h3, h4⟩
    · exact .inl h
    · exact .inr (.inl h)
    · exact .inr (.inr (.inl h))
    · exact .inr (.inr (.inr (.inl h)))
    · exact .inr (.inr (.inr (.inr (.inl ⟨xs, ys, h1, h2, h3, h4, fun i x y e1 e2 => (h5 i x y e1 e2).reads hl hd⟩))))
    · exact .inr (.inr (.inr (.inr (.inr (.inl ⟨xs, ys, hl _ _ h1, hl _ _ h2, h3, h4, fun i x y e1 e2 => (h5 i x y e1 e2).reads hl hd⟩)))))
    · refine .inr (.inr (.inr (.inr (.inr (.inr ⟨ks, vs, ws, hd _ _ h1, hd _ _ h2, h3, fun q hq => ?_⟩)))))
      obtain ⟨x, y, e1, e2, e3⟩ := h4 q hq
      exact ⟨x, y, e1, e2, e3.reads hl hd⟩
theorem isinst_ty {S : Store} {d : D} {t n : String} (h : tyName d S = t) (ht : (t == "?") = false) (hn : knownTy n = true) : isinst S d (.ty n) = some (isOne t n) := by
  unfold isinst
  simp only [h, ht, hn]
  rfl
theorem isinst_ty2 {S : Store} {d : D} {t n m : String} (h : tyName d S = t) (ht : (t == "?") = false) (hn : knownTy n = true) (hm : knownTy m = true) : isinst S d (.tup [.ty n, .ty m]) = some (isOne t n || isOne t m) := by
  unfold isinst
  simp only [h, ht, hn, hm]
  rfl
theorem ty_lst {S : Store} {d : D} {xs : List D} (h : lstOf S d = some xs) : tyName d S = "list" := by
  cases d with
  | lst ys => rfl
  | ref n =>
    have h' : (match S[n]? with | some (.lst xs) => some xs | _ => none) = some xs := h
    split at h'
    · rename_i ys e; simp only [tyName, e]
    · cases h'
  | _ => cases h
theorem ty_dic {S : Store} {d : D} {r : List Key × List D} (h : dicOf S d = some r) : tyName d S = "dict" := by
  cases d with
  | dic ks vs => rfl
  | ref n =>
    have h' : (match S[n]? with | some (.dic ks vs) => some (ks, vs) | some (.lok ks vs) => some (ks, vs) | _ => none) = some r := h
    split at h'
    · rename_i ys _ e; simp only [tyName, e]
    · rename_i ys _ e; simp only [tyName, e]
    · cases h'
  | _ => cases h
theorem lst_seq {S : Store} {d : D} {xs : List D} (h : lstOf S d = some xs) : seqOf S d = some xs := by
  cases d <;> first | exact h | cases h
theorem dic_slot {S : Store} {d : D} {r : List Key × List D} (h : dicOf S d = some r) : slotR (some (some d)) S = .ok d S := by
  cases d <;> first | rfl | cases h
theorem dic_len {S : Store} {d : D} {ks : List Key} {vs : List D} (h : dicOf S d = some (ks, vs)) : lenOf S d = some ks.length := by
  cases d with
  | dic ks vs => cases h; rfl
  | ref n =>
    have h' : (match S[n]? with | some (.dic ks vs) => some (ks, vs) | some (.lok ks vs) => some (ks, vs) | _ => none) = some (ks, vs) := h
    unfold lenOf
    split at h'
    · rename_i ys _ e; cases h'; simp only [e]
    · rename_i ys _ e; cases h'; simp only [e]
    · cases h'
  | _ => cases h
theorem cmp_is_non (d : D) (S : Store) : cmpop .Is d .non S = some (isNon d) := by cases d <;> rfl
theorem cmp_eq_nil (S : Store) : cmpop .Eq (.lst []) (.lst []) S = some true := by rfl
theorem cmp_bl (a b : Bool) (S : Store) : cmpop .Eq (.bl a) (.bl b) S = some (a == b) := by cases a <;> cases b <;> rfl
theorem cmp_bl_ne (a b : Bool) (S : Store) : cmpop .NotEq (.bl a) (.bl b) S = some (!(a == b)) := by cases a <;> cases b <;> rfl
/-- a comprehension that finds nothing -/
theorem srcR_none {f : D → Store → R (List D)} {S : Store} {src : Src} {xs : List D} (hs : itemsOf S src = some xs) (h : ∀ x ∈ xs, f x S = .ok [] S) : srcR f src S = .ok [] S := by
  rw [srcR_flat (g := fun _ => []) hs h]
  simp
theorem in_dic {S : Store} {d : D} {ks : List Key} {vs : List D} (h : dicOf S d = some (ks, vs)) (q : Key) : cmpop .NotIn (keyD q) d S = some (!(findK q ks vs).isSome) := by
  cases d with
  | dic ks' vs' => cases h; cases q <;> rfl
  | ref n =>
    have e : inop S (keyD q) (.ref n) = some (findK q ks vs).isSome := by
      have h' : (match S[n]? with | some (.dic ks vs) => some (ks, vs) | some (.lok ks vs) => some (ks, vs) | _ => none) = some (ks, vs) := h
      have hs : seqOf S (.ref n) = none := by
        show (match S[n]? with | some (.lst xs) => some xs | _ => none) = none
        split at h'
        · rename_i e; rw [e]
        · rename_i e; rw [e]
        · cases h'
      unfold inop
      simp only [hs, h]
      cases q <;> rfl
    cases q <;> (simp only [keyD] at e ⊢; simp only [cmpop, cmpO, e]; rfl)
  | _ => cases h
theorem ix_dic {S : Store} {d : D} {ks : List Key} {vs : List D} (h : dicOf S d = some (ks, vs)) (q : Key) : ixop d (keyD q) S = findK q ks vs := by
  cases d with
  | dic ks' vs' => cases h; cases q <;> rfl
  | ref n => simp only [ixop, ixAny, h]; cases q <;> rfl
  | _ => cases h
theorem same_ok {T : Tab} {fz : Bool} (p : T "_law_same" = some ((["given", "due"] : List Str), (⟨2, 4, true, fz, sameB⟩ : Fn))) : ∀ {k n : Nat} (hn : k ≤ n) {S : Store} {a b : D} (h : Sm S k a b), phi T n "_law_same" [a, b] [] [] S = .ok (.bl true) S := by
  intro k
  induction k with
  | zero => intro n _ S a b h; exact h.elim
  | succ k ih =>
    intro n hn S a b h
    obtain ⟨n, rfl⟩ : ∃ m, n = m + 1 := ⟨n - 1, by omega⟩
    have hl : line = 16777216 := rfl
    rw [phi_whole p rfl]
    rcases h with ⟨rfl, rfl⟩ | ⟨x, rfl, rfl⟩ | ⟨x, rfl, rfl⟩ | ⟨x, rfl, rfl, hx⟩ | ⟨xs, ys, rfl, rfl, h3, h4, h5⟩ | ⟨xs, ys, h1, h2, h3, h4, h5⟩ | ⟨ks, vs, ws, h1, h2, h3, h4⟩
    · simp [sameB, startE, cmp_is_non, isNon]
    · cases x <;> simp [sameB, startE, cmp_is_non, isNon, blt, blt2, isinst, tyName, knownTy, isOne, cmpop, cmpO] <;> rfl
    · simp [sameB, startE, cmp_is_non, isNon, isinst, tyName, knownTy, isOne, cmpI, binI]
    · have e : cmpop .Eq (.str x) (.str x) S = some true := by
        show eqD S (.str x) (.str x) = some true
        simp [eqD, toPyS, toPy, hx, PyData.eqv]
      simp [sameB, startE, cmp_is_non, isNon, isinst, tyName, knownTy, isOne, e]
    · have e : ∀ i : Nat, i < ys.length → phi T n "_law_same" [xs[i]!, ys[i]!] [] [] S = .ok (.bl true) S := by
        intro i hi
        have hi' : i < xs.length := by omega
        refine ih (by omega) (h5 i _ _ ?_ ?_)
        · rw [getElem!_pos xs i hi', List.getElem?_eq_getElem hi']
        · rw [getElem!_pos ys i hi, List.getElem?_eq_getElem hi]
      have q := fun (f : D → Store → R (List D)) (hf : ∀ x ∈ rngL 0 ys.length, f x S = .ok [] S) => srcR_none (f := f) (src := .items (rngL 0 ys.length)) rfl hf
      simp [sameB, startE, cmp_is_non, isNon, isinst, tyName, knownTy, isOne, cmp_bl_ne, lenOf, cmpI, h3, rng_of (show ys.length ≤ line by rw [hl]; omega)]
      rw [q]
      · simp [cmp_eq_nil]
      · intro x hx
        obtain ⟨i, hi, rfl⟩ := mem_rng hx
        have e := e i hi
        rw [getElem!_pos xs i (by omega), getElem!_pos ys i hi] at e
        simp [atI_nat (show i < xs.length by omega), atI_nat hi, e]
    · have e : ∀ i : Nat, i < ys.length → phi T n "_law_same" [xs[i]!, ys[i]!] [] [] S = .ok (.bl true) S := by
        intro i hi
        have hi' : i < xs.length := by omega
        refine ih (by omega) (h5 i _ _ ?_ ?_)
        · rw [getElem!_pos xs i hi', List.getElem?_eq_getElem hi']
        · rw [getElem!_pos ys i hi, List.getElem?_eq_getElem hi]
      have q := fun (f : D → Store → R (List D)) (hf : ∀ x ∈ rngL 0 ys.length, f x S = .ok [] S) => srcR_none (f := f) (src := .items (rngL 0 ys.length)) rfl hf
      have sa := seq_slot (lst_seq h1)
      have sb := seq_slot (lst_seq h2)
      have na : isNon a = false := by cases a <;> first | rfl | cases h1
      have nb : isNon b = false := by cases b <;> first | rfl | cases h2
      simp [sameB, startE, cmp_is_non, nb, sa, sb, isinst_ty (ty_lst h1), isinst_ty (ty_lst h2), isinst_ty2 (ty_lst h1), isinst_ty2 (ty_lst h2), knownTy, isOne, cmp_bl_ne, seq_len (lst_seq h1), seq_len (lst_seq h2), cmpI, h3, rng_of (show ys.length ≤ line by rw [hl]; omega)]
      rw [q]
      · simp [cmp_eq_nil]
      · intro x hx
        obtain ⟨i, hi, rfl⟩ := mem_rng hx
        have e := e i hi
        rw [getElem!_pos xs i (by omega), getElem!_pos ys i hi] at e
        simp [sa, sb, seq_ix (lst_seq h1), seq_ix (lst_seq h2), atI_nat (show i < xs.length by omega), atI_nat hi, e]
    · -- the dict that is walked is locked
      have sa := dic_slot h1
      have sb := dic_slot h2
      have nb : isNon b = false := by cases b <;> first | rfl | cases h2
      have hc : evE (phi T n) (.lockd 1 sameC1) [some a, some b, none, none] S = .ok (.lst []) S := by
        have inner : ∀ S1 : Store, slotR (some (some a)) S1 = .ok a S1 → slotR (some (some b)) S1 = .ok b S1 → dicOf S1 a = some (ks, vs) → dicOf S1 b = some (ks, ws) → (∀ q ∈ ks, ∃ x y, findK q ks vs = some x ∧ findK q ks ws = some y ∧ Sm S1 k x y) → (∃ src, srcOf S1 b = some src ∧ itemsOf S1 src = some (ks.map keyD)) →
            evE (phi T n) sameC1 [some a, some b, none, none] S1 = .ok (.lst []) S1 := by
          intro S1 sa sb d1 d2 hq hsrc
          obtain ⟨src, e1, e2⟩ := hsrc
          have q := fun (f : D → Store → R (List D)) (hf : ∀ x ∈ ks.map keyD, f x S1 = .ok [] S1) => srcR_none (f := f) e2 hf
          simp only [sameC1, e_comp, i_e, e_v, List.getElem?_cons_succ, List.getElem?_cons_zero, sb, R.bind_ok, e1]
          rw [q]
          · simp
          · intro x hx
            obtain ⟨key, hk, rfl⟩ := List.mem_map.mp hx
            obtain ⟨x, y, f1, f2, f3⟩ := hq key hk
            have e := ih (n := n) (by omega) f3
            have sk : slotR (some (some (keyD key))) S1 = .ok (keyD key) S1 := by cases key <;> rfl
            simp [setN, sk, sa, sb, in_dic d1, f1, ix_dic d1, ix_dic d2, f2, e]
        show lockR (some (some b)) (evE (phi T n) sameC1 [some a, some b, none, none]) S = .ok (.lst []) S
        have plain : (∀ r ks' vs', b = .ref r → S[r]? ≠ some (.dic ks' vs')) → lockR (some (some b)) (evE (phi T n) sameC1 [some a, some b, none, none]) S = .ok (.lst []) S := by
          intro hb
          have e0 : lockR (some (some b)) (evE (phi T n) sameC1 [some a, some b, none, none]) S = evE (phi T n) sameC1 [some a, some b, none, none] S := by
            cases b with
            | ref r =>
              unfold lockR
              dsimp only
              split
              · rename_i ks' vs' e; exact absurd e (hb r _ _ rfl)
              · rfl
            | _ => rfl
          rw [e0]
          refine inner S sa sb h1 h2 h4 ?_
          cases b with
          | dic ks' vs' =>
            cases h2
            refine ⟨.items (ks.map keyD), ?_, rfl⟩
            simp [srcOf, keysOf, show ks.length ≤ 16777216 from h3]
          | ref r =>
            have h' : (match S[r]? with | some (.dic ks vs) => some (ks, vs) | some (.lok ks vs) => some (ks, vs) | _ => none) = some (ks, ws) := h2
            split at h'
            · rename_i e; exact absurd e (hb r _ _ rfl)
            · rename_i e
              cases h'
              refine ⟨.items (ks.map keyD), ?_, rfl⟩
              show (match S[r]? with | some (.lst _) => some (Src.live r) | some (.lok ks _) => keysOf ks | _ => none) = _
              rw [e]
              simp [keysOf, show ks.length ≤ 16777216 from h3]
            · cases h'
          | _ => cases h2
        cases b with
        | ref r =>
          cases hS : S[r]? with
          | none => exact plain fun r' _ _ e => by cases e; rw [hS]; simp
          | some o =>
            cases o with
            | dic ks' ws' =>
              have ek : ks' = ks ∧ ws' = ws := by
                have h2' := h2
                simp only [dicOf, hS] at h2'
                cases h2'
                exact ⟨rfl, rfl⟩
              obtain ⟨rfl, rfl⟩ := ek
              have hlt : r < S.length := (List.getElem?_eq_some_iff.mp hS).1
              have hS1 : (S.set r (.lok ks' ws'))[r]? = some (.lok ks' ws') := by simp [hlt]
              have hl' : ∀ d xs, lstOf S d = some xs → lstOf (S.set r (.lok ks' ws')) d = some xs := by
                intro d xs h
                cases d with
                | ref m =>
                  by_cases hm : r = m
                  · subst hm; simp only [lstOf, hS] at h; cases h
                  · simp only [lstOf, List.getElem?_set_ne hm] at h ⊢; exact h
                | _ => exact h
              have hd' : ∀ d r', dicOf S d = some r' → dicOf (S.set r (.lok ks' ws')) d = some r' := by
                intro d r' h
                cases d with
                | ref m =>
                  by_cases hm : r = m
                  · subst hm; simp only [dicOf, hS] at h; simp only [dicOf, hS1]; exact h
                  · simp only [dicOf, List.getElem?_set_ne hm] at h ⊢; exact h
                | _ => exact h
              have e := inner (S.set r (.lok ks' ws')) (dic_slot (hd' _ _ h1)) rfl (hd' _ _ h1) (hd' _ _ h2) (fun q hq => by
                obtain ⟨x, y, f1, f2, f3⟩ := h4 q hq
                exact ⟨x, y, f1, f2, f3.reads hl' hd'⟩) ⟨.items (ks'.map keyD), by simp [srcOf, hS1, keysOf, show ks'.length ≤ 16777216 from h3], rfl⟩
              have hback : S.set r (.dic ks' ws') = S := by
                rw [← List.getElem?_eq_some_iff.mp hS |>.2]
                exact List.set_getElem_self hlt
              simp only [lockR, hS, e, unlock, hS1, List.set_set, hback]
            | lst xs => exact plain fun r' _ _ e => by cases e; rw [hS]; simp
            | lok _ _ => exact plain fun r' _ _ e => by cases e; rw [hS]; simp
        | _ => exact plain fun r' _ _ e => by cases e
      have hlen : lenOf S a = some ks.length ∧ lenOf S b = some ks.length := ⟨dic_len h1, dic_len h2⟩
      have hc' : lockR (some (some b)) (evE (phi T n) sameC1 [some a, some b, none, none]) S = .ok (.lst []) S := hc
      simp [sameB, startE, cmp_is_non, nb, sa, sb, isinst_ty (ty_dic h1), isinst_ty (ty_dic h2), knownTy, isOne, hlen, cmpI, hc', cmp_eq_nil]
end Mp
/-! Pl, part E: shapes of values; graphs. -/
namespace Mp
open PySem
mutual
/-- a value that stands: its numbers not above a line -/
def vD (S : Store) : D → Bool
  | .non => true | .bl _ => true | .int i => decide (i.natAbs < 2 ^ 1000) | .str _ => true
  | .tup xs => decide (xs.length ≤ 16777216) && vL S xs
  | .lst xs => decide (xs.length ≤ 16777216) && vL S xs
  | .dic _ vs => vL S vs
  | .ref n => (S[n]?).isSome
  | .ty _ => false
  | .exc _ _ _ => false
def vL (S : Store) : List D → Bool
  | [] => true
  | x :: xs => vD S x && vL S xs
end
theorem vL_all (S : Store) (xs : List D) : vL S xs = xs.all (vD S) := by
  induction xs with
  | nil => rfl
  | cons x xs ih => simp only [vL, List.all_cons, ih]
theorem vL_mem {S : Store} {xs : List D} (h : vL S xs = true) {x : D} (hx : x ∈ xs) : vD S x = true := by
  rw [vL_all, List.all_eq_true] at h
  exact h x hx
theorem v_tup {S : Store} {xs : List D} (h : vD S (.tup xs) = true) : xs.length ≤ 16777216 ∧ ∀ x ∈ xs, vD S x = true := by
  simp only [vD, Bool.and_eq_true, decide_eq_true_eq] at h
  exact ⟨h.1, fun x hx => vL_mem h.2 hx⟩
theorem v_ty {S : Store} {d : D} (h : vD S d = true) : (tyName d S == "?") = false := by
  cases d with
  | ref n =>
    have h : (S[n]?).isSome = true := h
    cases e : S[n]? with
    | none => rw [e] at h; cases h
    | some o => cases o <;> simp [tyName, e]
  | ty _ => cases h
  | exc _ _ _ => cases h
  | _ => rfl
theorem v_slot {S : Store} {d : D} (h : vD S d = true) : slotR (some (some d)) S = .ok d S := by
  cases d <;> first | rfl | cases h
theorem v_isinst {S : Store} {d : D} (h : vD S d = true) {n : String} (hn : knownTy n = true) : isinst S d (.ty n) = some (isOne (tyName d S) n) := isinst_ty rfl (v_ty h) hn
def isIntD : D → Bool | .int _ => true | _ => false
theorem ty_int {S : Store} {d : D} (h : vD S d = true) : (isOne (tyName d S) "int" && !isOne (tyName d S) "bool") = isIntD d := by
  cases d with
  | ref n =>
    have h : (S[n]?).isSome = true := h
    cases e : S[n]? with
    | none => rw [e] at h; cases h
    | some o => cases o <;> simp [tyName, e, isOne, isIntD]
  | ty _ => cases h
  | exc _ _ _ => cases h
  | _ => rfl
theorem ty_tup {S : Store} {d : D} (h : vD S d = true) : isOne (tyName d S) "tuple" = (match d with | .tup _ => true | _ => false) := by
  cases d with
  | ref n =>
    have h : (S[n]?).isSome = true := h
    cases e : S[n]? with
    | none => rw [e] at h; cases h
    | some o => cases o <;> simp [tyName, e, isOne]
  | ty _ => cases h
  | exc _ _ _ => cases h
  | _ => rfl
theorem allB_map {α : Type} (f : α → Bool) (xs : List α) : allB (xs.map fun x => .bl (f x)) = some (xs.all f) := by
  induction xs with
  | nil => rfl
  | cons x xs ih => simp only [List.map_cons, allB, ih, List.all_cons]
theorem anyB_map {α : Type} (f : α → Bool) (xs : List α) : anyB (xs.map fun x => .bl (f x)) = some (xs.any f) := by
  induction xs with
  | nil => rfl
  | cons x xs ih => simp only [List.map_cons, anyB, ih, List.any_cons]
theorem sumI_map {α : Type} (f : α → Int) (xs : List α) : sumI (xs.map fun x => .int (f x)) = some ((xs.map f).sum) := by
  induction xs with
  | nil => rfl
  | cons x xs ih => simp only [List.map_cons, sumI, ih, List.sum_cons]
/-! ### the program's tests -/
def isIntegerB : Ss := (.cons (.ret (.band (.cons (.blt .isinst true (.cons (.v 0) (.cons (.kty "int") .nil))) (.cons (.bnot (.blt .isinst true (.cons (.v 0) (.cons (.kty "bool") .nil)))) .nil)))) .nil)
def isTupleB : Ss := (.cons (.ret (.band (.cons (.blt .isinst true (.cons (.v 0) (.cons (.kty "tuple") .nil))) (.cons (.cmp .Eq (.blt .len true (.cons (.v 0) .nil)) (.v 1)) .nil)))) .nil)
def isIntegersB : Ss := (.cons (.ret (.band (.cons (.blt .isinst true (.cons (.v 0) (.cons (.kty "tuple") .nil))) (.cons (.blt .all true (.cons (.comp true [1] (.n 1) (.e (.v 0)) .nil (.elt (.call "is_integer" (.cons (.v 1) .nil) [] .nil))) .nil)) .nil)))) .nil)
def isRowB : Ss := (.cons (.ret (.band (.cons (.call "is_integers" (.cons (.v 0) .nil) [] .nil) (.cons (.cmp .Eq (.blt .len true (.cons (.v 0) .nil)) (.v 1)) .nil)))) .nil)
def isSquareB : Ss := (.cons (.ret (.band (.cons (.call "is_tuple" (.cons (.v 0) (.cons (.v 1) .nil)) [] .nil) (.cons (.blt .all true (.cons (.comp true [2] (.n 2) (.e (.v 0)) .nil (.elt (.call "is_row" (.cons (.v 2) (.cons (.v 1) .nil)) [] .nil))) .nil)) .nil)))) .nil)
def isMassesB : Ss := (.cons (.ret (.band (.cons (.call "is_integers" (.cons (.v 0) .nil) [] .nil) (.cons (.chain .LtE .LtE (.k (.int 1)) (.blt .len true (.cons (.v 0) .nil)) (.gk "MOST_NODES" (.int 8))) (.cons (.blt .all true (.cons (.comp true [1] (.n 1) (.e (.v 0)) .nil (.elt (.cmp .Gt (.v 1) (.k (.int 0))))) .nil)) .nil))))) .nil)
def isEvenByB : Ss := (.cons (.asg (.n 2) (.blt .len true (.cons (.v 0) .nil))) (.cons (.ret (.blt .all true (.cons (.comp true [3, 4] (.n 3) (.rng (.cons (.v 2) .nil)) .nil (.each [4] (.n 4) (.rng (.cons (.v 3) .nil)) .nil (.cmp .Eq (.bin .Mult true (.ix (.v 0) (.v 3)) (.ix (.ix (.v 1) (.v 3)) (.v 4))) (.bin .Mult true (.ix (.v 0) (.v 4)) (.ix (.ix (.v 1) (.v 4)) (.v 3)))))) .nil))) .nil))
def isGraphB : Ss := (.cons (.ife (.bor (.cons (.bnot (.call "is_tuple" (.cons (.v 0) (.cons (.k (.int 2)) .nil)) [] .nil)) (.cons (.bnot (.call "is_masses" (.cons (.ix (.v 0) (.k (.int 0))) .nil) [] .nil)) (.cons (.bnot (.call "is_square" (.cons (.ix (.v 0) (.k (.int 1))) (.cons (.blt .len true (.cons (.ix (.v 0) (.k (.int 0))) .nil)) .nil)) [] .nil)) .nil)))) (.cons (.ret (.k (.bl false))) .nil) .nil) (.cons (.ret (.call "is_even_by" (.cons (.ix (.v 0) (.k (.int 0))) (.cons (.ix (.v 0) (.k (.int 1))) .nil)) [] .nil)) .nil))
/-- the program's tests stand in the table -/
structure ShapeT (T : Tab) : Prop where
  integer : ∃ fz, T "is_integer" = some ((["value"] : List Str), (⟨1, 1, true, fz, isIntegerB⟩ : Fn))
  tuple : ∃ fz, T "is_tuple" = some ((["value", "many"] : List Str), (⟨2, 2, true, fz, isTupleB⟩ : Fn))
  integers : ∃ fz, T "is_integers" = some ((["value"] : List Str), (⟨1, 2, true, fz, isIntegersB⟩ : Fn))
  row : ∃ fz, T "is_row" = some ((["value", "many"] : List Str), (⟨2, 2, true, fz, isRowB⟩ : Fn))
  square : ∃ fz, T "is_square" = some ((["value", "many"] : List Str), (⟨2, 3, true, fz, isSquareB⟩ : Fn))
structure GraphT (T : Tab) : Prop extends ShapeT T where
  masses : ∃ fz, T "is_masses" = some ((["value"] : List Str), (⟨1, 2, true, fz, isMassesB⟩ : Fn))
  even_by : ∃ fz, T "is_even_by" = some ((["masses", "matrix"] : List Str), (⟨2, 5, true, fz, isEvenByB⟩ : Fn))
  graph : ∃ fz, T "is_graph" = some ((["value"] : List Str), (⟨1, 1, true, fz, isGraphB⟩ : Fn))
section
variable {T : Tab} {n : Nat} {S : Store} {d : D}
theorem integer_ok (t : ShapeT T) (hn : 1 ≤ n) (h : vD S d = true) : phi T n "is_integer" [d] [] [] S = .ok (.bl (isIntD d)) S := by
  obtain ⟨n, rfl⟩ : ∃ m, n = m + 1 := ⟨n - 1, by omega⟩
  obtain ⟨fz, p⟩ := t.integer
  rw [phi_whole p rfl, ← ty_int h]
  cases hb : isOne (tyName d S) "int" <;> simp [isIntegerB, startE, v_slot h, v_isinst h, knownTy, hb]
def isTupD (m : Int) : D → Bool | .tup xs => decide ((xs.length : Int) = m) | _ => false
theorem tuple_ok (t : ShapeT T) (hn : 1 ≤ n) (h : vD S d = true) (m : Int) : phi T n "is_tuple" [d, .int m] [] [] S = .ok (.bl (isTupD m d)) S := by
  obtain ⟨n, rfl⟩ : ∃ m, n = m + 1 := ⟨n - 1, by omega⟩
  obtain ⟨fz, p⟩ := t.tuple
  rw [phi_whole p rfl]
  cases d <;> simp [isTupleB, startE, v_slot h, v_isinst h, knownTy, ty_tup h, isTupD, cmpI]
def isIntsD : D → Bool | .tup xs => xs.all isIntD | _ => false
theorem srcR_rng {f : D → Store → R (List D)} {g : Nat → D} {m : Nat} (h : ∀ i, i < m → f (.int (i : Int)) S = .ok [g i] S) : srcR f (.items (rngL 0 m)) S = .ok ((List.range m).map g) S := by
  have e : rngL 0 m = (List.range m).map fun i : Nat => D.int (i : Int) := by simp [rngL]
  rw [e]
  show eachR f _ S = _
  have : ∀ l : List Nat, (∀ i ∈ l, f (.int (i : Int)) S = .ok [g i] S) → eachR f (l.map fun i : Nat => D.int (i : Int)) S = .ok (l.map g) S := by
    intro l
    induction l with
    | nil => intro _; rfl
    | cons i l ih =>
      intro h
      simp only [List.map_cons, eachR]
      rw [h i List.mem_cons_self, R.bind_ok, ih fun j hj => h j (List.mem_cons_of_mem _ hj)]
      rfl
  exact this _ fun i hi => h i (List.mem_range.mp hi)
theorem srcR_rngF {f : D → Store → R (List D)} {g : Nat → List D} {m : Nat} (h : ∀ i, i < m → f (.int (i : Int)) S = .ok (g i) S) : srcR f (.items (rngL 0 m)) S = .ok ((List.range m).flatMap g) S := by
  have e : rngL 0 m = (List.range m).map fun i : Nat => D.int (i : Int) := by simp [rngL]
  rw [e]
  show eachR f _ S = _
  have : ∀ l : List Nat, (∀ i ∈ l, f (.int (i : Int)) S = .ok (g i) S) → eachR f (l.map fun i : Nat => D.int (i : Int)) S = .ok (l.flatMap g) S := by
    intro l
    induction l with
    | nil => intro _; rfl
    | cons i l ih =>
      intro h
      simp only [List.map_cons, eachR]
      rw [h i List.mem_cons_self, R.bind_ok, ih fun j hj => h j (List.mem_cons_of_mem _ hj)]
      rfl
  exact this _ fun i hi => h i (List.mem_range.mp hi)
theorem eachR_list {α : Type} {F : α → D} {f : D → Store → R (List D)} {g : α → D} : ∀ {l : List α}, (∀ i ∈ l, f (F i) S = .ok [g i] S) → eachR f (l.map F) S = .ok (l.map g) S
  | [], _ => rfl
  | i :: l, h => by
    simp only [List.map_cons, eachR]
    rw [h i List.mem_cons_self, R.bind_ok, eachR_list fun j hj => h j (List.mem_cons_of_mem _ hj)]
    rfl
theorem srcR_list {α : Type} {F : α → D} {f : D → Store → R (List D)} {g : α → D} {src : Src} {l : List α} (hs : itemsOf S src = some (l.map F)) (h : ∀ i ∈ l, f (F i) S = .ok [g i] S) : srcR f src S = .ok (l.map g) S := by
  rw [srcR_flat (g := fun x => match f x S with | .ok a _ => a | _ => []) hs]
  · congr 1
    clear hs
    induction l with
    | nil => rfl
    | cons i l ih =>
      rw [List.map_cons, List.flatMap_cons, h i List.mem_cons_self, ih fun j hj => h j (List.mem_cons_of_mem _ hj)]
      rfl
  · intro x hx
    obtain ⟨i, hi, rfl⟩ := List.mem_map.mp hx
    rw [h i hi]
theorem allB_flat {α : Type} (g : α → List Bool) (xs : List α) : allB (xs.flatMap fun x => (g x).map .bl) = some (xs.all fun x => (g x).all id) := by
  induction xs with
  | nil => rfl
  | cons x xs ih =>
    rw [List.flatMap_cons, List.all_cons]
    have : ∀ (l : List Bool) (r : List D) (b : Bool), allB r = some b → allB (l.map .bl ++ r) = some (l.all id && b) := by
      intro l r b hb
      induction l with
      | nil => simpa using hb
      | cons y l ihl => simp only [List.map_cons, List.cons_append, allB, ihl, List.all_cons, id, Bool.and_assoc]
    exact this _ _ _ ih
theorem atI_map {α β : Type} (F : α → β) (xs : List α) (d : α) {i : Nat} (h : i < xs.length) : L2.atI (xs.map F) (i : Int) = some (F (xs.getD i d)) := by
  rw [atI_nat (by simpa using h)]
  simp [List.getD_eq_getElem?_getD, h]
theorem integers_ok (t : ShapeT T) (hn : 2 ≤ n) (h : vD S d = true) : phi T n "is_integers" [d] [] [] S = .ok (.bl (isIntsD d)) S := by
  obtain ⟨n, rfl⟩ : ∃ m, n = m + 1 := ⟨n - 1, by omega⟩
  obtain ⟨fz, p⟩ := t.integers
  rw [phi_whole p rfl]
  cases d with
  | tup xs =>
    have hx := (v_tup h).1
    simp [isIntegersB, startE, v_isinst h, knownTy, ty_tup h, srcOf]
    rw [srcR_map (g := fun x => .bl (isIntD x)) (xs := xs) rfl]
    · simp [hx, allB_map, isIntsD]
    · intro x hx
      have hv := (v_tup h).2 x hx
      simp [v_slot hv, integer_ok t (n := n) (by omega) hv]
  | _ => simp [isIntegersB, startE, v_slot h, v_isinst h, knownTy, ty_tup h, isIntsD]
def isRowD (m : Int) (d : D) : Bool := isIntsD d && isTupD m d
theorem isInts_tup {d : D} (h : isIntsD d = true) : ∃ xs, d = .tup xs ∧ xs.all isIntD = true := by
  cases d <;> first | exact ⟨_, rfl, h⟩ | cases h
theorem row_ok (t : ShapeT T) (hn : 3 ≤ n) (h : vD S d = true) (m : Int) : phi T n "is_row" [d, .int m] [] [] S = .ok (.bl (isRowD m d)) S := by
  obtain ⟨n, rfl⟩ : ∃ m, n = m + 1 := ⟨n - 1, by omega⟩
  obtain ⟨fz, p⟩ := t.row
  rw [phi_whole p rfl]
  cases hb : isIntsD d with
  | false => simp [isRowB, startE, v_slot h, integers_ok t (n := n) (by omega) h, hb, isRowD]
  | true =>
    obtain ⟨xs, rfl, _⟩ := isInts_tup hb
    simp [isRowB, startE, integers_ok t (n := n) (by omega) h, hb, isRowD, isTupD, cmpI]
def itemsD : D → List D | .tup xs => xs | _ => []
def isSquareD (m : Int) (d : D) : Bool := isTupD m d && (itemsD d).all (isRowD m)
theorem square_ok (t : ShapeT T) (hn : 4 ≤ n) (h : vD S d = true) (m : Int) : phi T n "is_square" [d, .int m] [] [] S = .ok (.bl (isSquareD m d)) S := by
  obtain ⟨n, rfl⟩ : ∃ m, n = m + 1 := ⟨n - 1, by omega⟩
  obtain ⟨fz, p⟩ := t.square
  rw [phi_whole p rfl]
  cases hb : isTupD m d with
  | false => simp [isSquareB, startE, v_slot h, tuple_ok t (n := n) (by omega) h, hb, isSquareD]
  | true =>
    cases d with
    | tup xs =>
      have hx := (v_tup h).1
      simp [isSquareB, startE, tuple_ok t (n := n) (by omega) h, hb, isSquareD, srcOf]
      rw [srcR_map (g := fun x => .bl (isRowD m x)) (xs := xs) rfl]
      · simp [hx, allB_map, itemsD]
      · intro x hx
        have hv := (v_tup h).2 x hx
        simp [v_slot hv, row_ok t (n := n) (by omega) hv]
    | _ => cases hb
def isMassesD (d : D) : Bool := isIntsD d && decide (1 ≤ (itemsD d).length) && decide ((itemsD d).length ≤ 8) && (itemsD d).all fun x => match x with | .int i => decide (0 < i) | _ => false
theorem masses_ok (t : GraphT T) (hn : 3 ≤ n) (h : vD S d = true) : phi T n "is_masses" [d] [] [] S = .ok (.bl (isMassesD d)) S := by
  obtain ⟨n, rfl⟩ : ∃ m, n = m + 1 := ⟨n - 1, by omega⟩
  obtain ⟨fz, p⟩ := t.masses
  rw [phi_whole p rfl]
  cases hb : isIntsD d with
  | false => simp [isMassesB, startE, v_slot h, integers_ok t.toShapeT (n := n) (by omega) h, hb, isMassesD]
  | true =>
    obtain ⟨xs, rfl, hi⟩ := isInts_tup hb
    have hx := (v_tup h).1
    by_cases h1 : (1 : Int) ≤ xs.length
    · by_cases h8 : (xs.length : Int) ≤ 8
      · have h8' : xs.length ≤ 8 := by omega
        simp [isMassesB, startE, integers_ok t.toShapeT (n := n) (by omega) h, hb, isMassesD, cmpI, h1, h8, itemsD, srcOf]
        rw [srcR_map (g := fun x => .bl (match x with | .int i => decide (0 < i) | _ => false)) (xs := xs) rfl]
        · simp [hx, allB_map, h8', show 1 ≤ xs.length by omega]
        · intro x hx
          rw [List.all_eq_true] at hi
          have hxi := hi x hx
          cases x with
          | int i => simp [cmpI]
          | _ => cases hxi
      · simp [isMassesB, startE, integers_ok t.toShapeT (n := n) (by omega) h, hb, isMassesD, cmpI, h1, h8, itemsD, show ¬ xs.length ≤ 8 by omega]
    · simp [isMassesB, startE, integers_ok t.toShapeT (n := n) (by omega) h, hb, isMassesD, cmpI, h1, itemsD, show ¬ 1 ≤ xs.length by omega]
/-! ### rows, matrices, graphs of numbers -/
abbrev iD (r : List Int) : D := .tup (r.map .int)
abbrev mD (ws : List (List Int)) : D := .tup (ws.map iD)
abbrev gD (ms : List Int) (ws : List (List Int)) : D := .tup [iD ms, mD ws]
def ent (ws : List (List Int)) (i j : Nat) : Int := (ws.getD i []).getD j 0
def balB (ms : List Int) (ws : List (List Int)) : Bool := (List.range ms.length).all fun i => (List.range i).all fun j => decide (ms.getD i 0 * ent ws i j = ms.getD j 0 * ent ws j i)
theorem even_by_ok (t : GraphT T) (hn : 1 ≤ n) {ms : List Int} {ws : List (List Int)} (h8 : ms.length ≤ 1000) (hw : ws.length = ms.length) (hr : ∀ r ∈ ws, r.length = ms.length) (bm : ∀ i ∈ ms, i.natAbs < 2 ^ 1000) (bw : ∀ r ∈ ws, ∀ i ∈ r, i.natAbs < 2 ^ 1000) :
    phi T n "is_even_by" [iD ms, mD ws] [] [] S = .ok (.bl (balB ms ws)) S := by
  obtain ⟨n, rfl⟩ : ∃ m, n = m + 1 := ⟨n - 1, by omega⟩
  obtain ⟨fz, p⟩ := t.even_by
  have hl : line = 16777216 := rfl
  rw [phi_whole p rfl]
  have gm : ∀ i, i < ms.length → (ms.getD i 0).natAbs < 2 ^ 1000 := fun i hi => bm _ (by simp [List.getD_eq_getElem?_getD, hi])
  have gr : ∀ i, i < ms.length → ws.getD i [] ∈ ws := fun i hi => by simp [List.getD_eq_getElem?_getD, hw, hi]
  have gl : ∀ i, i < ms.length → (ws.getD i []).length = ms.length := fun i hi => hr _ (gr i hi)
  have ge : ∀ i j, i < ms.length → j < ms.length → (ent ws i j).natAbs < 2 ^ 1000 := fun i j hi hj => bw _ (gr i hi) _ (by
    have := gl i hi
    unfold ent
    rw [List.getD_eq_getElem?_getD (l := ws.getD i [])]
    rw [List.getElem?_eq_getElem (by omega)]
    exact List.getElem_mem _)
  have mo : ∀ a b : Int, a.natAbs < 2 ^ 1000 → b.natAbs < 2 ^ 1000 → mulOk a b = true := fun a b ha hb => mulOk_of ha hb (by decide)
  simp [isEvenByB, startE, rng_of (show ms.length ≤ line by rw [hl]; omega)]
  rw [srcR_rngF (g := fun i => ((List.range i).map fun j => decide (ms.getD i 0 * ent ws i j = ms.getD j 0 * ent ws j i)).map .bl)]
  · have hlen : ((List.range ms.length).flatMap fun i => ((List.range i).map fun j => decide (ms.getD i 0 * ent ws i j = ms.getD j 0 * ent ws j i)).map D.bl).length ≤ 16777216 := by
      have : ∀ l : List Nat, (∀ i ∈ l, i ≤ 1000) → (l.flatMap fun i => ((List.range i).map fun j => decide (ms.getD i 0 * ent ws i j = ms.getD j 0 * ent ws j i)).map D.bl).length ≤ l.length * 1000 := by
        intro l
        induction l with
        | nil => intro _; simp
        | cons i l ih =>
          intro h
          have h1 := h i List.mem_cons_self
          have h2 := ih fun j hj => h j (List.mem_cons_of_mem _ hj)
          rw [List.flatMap_cons, List.length_append, List.length_map, List.length_map, List.length_range, List.length_cons]
          omega
      have h2 := this (List.range ms.length) (fun i hi => by have := List.mem_range.mp hi; omega)
      rw [List.length_range] at h2
      omega
    have hA : allB ((List.range ms.length).flatMap fun i => ((List.range i).map fun j => decide (ms.getD i 0 * ent ws i j = ms.getD j 0 * ent ws j i)).map D.bl) = some (balB ms ws) := by
      rw [allB_flat]
      simp [balB, List.all_map]
    generalize (List.range ms.length).flatMap (fun i => ((List.range i).map fun j => decide (ms.getD i 0 * ent ws i j = ms.getD j 0 * ent ws j i)).map D.bl) = X at hlen hA ⊢
    simp [hlen, hA]
  · intro i hi
    have hI : i ≤ line := by rw [hl]; omega
    simp [rng_of hI]
    rw [srcR_rng (g := fun j => .bl (decide (ms.getD i 0 * ent ws i j = ms.getD j 0 * ent ws j i)))]
    · simp
    · intro j hj
      have hj' : j < ms.length := by omega
      have e1 := atI_map D.int ms 0 hi
      have e2 := atI_map D.int ms 0 hj'
      have e3 := atI_map iD ws [] (i := i) (by omega)
      have e4 := atI_map iD ws [] (i := j) (by omega)
      have e5 := atI_map D.int (ws.getD i []) 0 (i := j) (by rw [gl i hi]; omega)
      have e6 := atI_map D.int (ws.getD j []) 0 (i := i) (by rw [gl j hj']; omega)
      have q1 := mo _ _ (gm i hi) (ge i j hi hj')
      have q2 := mo _ _ (gm j hj') (ge j i hj' hi)
      unfold ent at q1 q2
      simp only [iD] at e3 e4
      simp only [List.getD_eq_getElem?_getD] at *
      simp [e1, e2, e3, e4, e5, e6, binI, q1, q2, cmpI, ent]
/-- what is told of a graph -/
structure GrOk (ms : List Int) (ws : List (List Int)) : Prop where
  pos : 1 ≤ ms.length
  most : ms.length ≤ 8
  mp : ∀ m ∈ ms, 0 < m
  len : ws.length = ms.length
  row : ∀ r ∈ ws, r.length = ms.length
  bal : balB ms ws = true
def toInts : D → List Int | .tup xs => xs.map (fun x => match x with | .int i => i | _ => 0) | _ => []
def toMat (d : D) : List (List Int) := (itemsD d).map toInts
theorem ints_eq {d : D} (h : isIntsD d = true) : d = iD (toInts d) := by
  obtain ⟨xs, rfl, hi⟩ := isInts_tup h
  show D.tup xs = D.tup ((xs.map _).map _)
  congr 1
  rw [List.all_eq_true] at hi
  clear h
  induction xs with
  | nil => rfl
  | cons x xs ih =>
    rw [List.map_cons, List.map_cons, ← ih fun y hy => hi y (List.mem_cons_of_mem _ hy)]
    have := hi x List.mem_cons_self
    cases x <;> first | rfl | cases this
theorem square_eq {m : Int} {d : D} (h : isSquareD m d = true) : d = mD (toMat d) ∧ ((toMat d).length : Int) = m ∧ ∀ r ∈ toMat d, (r.length : Int) = m := by
  unfold isSquareD at h
  simp only [Bool.and_eq_true, List.all_eq_true] at h
  obtain ⟨h1, h2⟩ := h
  cases d with
  | tup xs =>
    have e1 := of_decide_eq_true (show decide ((xs.length : Int) = m) = true from h1)
    have key : ∀ x ∈ xs, x = iD (toInts x) ∧ ((toInts x).length : Int) = m := by
      intro x hx
      have h3 := h2 x hx
      simp only [isRowD, Bool.and_eq_true] at h3
      have e := ints_eq h3.1
      refine ⟨e, ?_⟩
      have h4 := h3.2
      rw [e] at h4
      have := of_decide_eq_true (show decide ((((toInts x).map D.int).length : Int) = m) = true from h4)
      simpa using this
    refine ⟨?_, by simpa [toMat, itemsD] using e1, fun r hr => ?_⟩
    · show D.tup xs = D.tup ((xs.map toInts).map iD)
      congr 1
      clear h1 h2 e1
      induction xs with
      | nil => rfl
      | cons x xs ih =>
        rw [List.map_cons, List.map_cons, ← ih fun y hy => key y (List.mem_cons_of_mem _ hy), ← (key x List.mem_cons_self).1]
    · obtain ⟨x, hx, rfl⟩ := List.mem_map.mp (show r ∈ xs.map toInts from hr)
      exact (key x hx).2
  | _ => cases h1
def isGraphD (d : D) : Bool := match d with
  | .tup [a, b] => isMassesD a && isSquareD ((itemsD a).length : Int) b && balB (toInts a) (toMat b)
  | _ => false
theorem graph_iff {d : D} : isGraphD d = true ↔ ∃ ms ws, d = gD ms ws ∧ GrOk ms ws := by
  constructor
  · intro h
    unfold isGraphD at h
    split at h
    · rename_i a b
      simp only [Bool.and_eq_true] at h
      obtain ⟨⟨h1, h2⟩, h3⟩ := h
      simp only [isMassesD, Bool.and_eq_true, decide_eq_true_eq, List.all_eq_true] at h1
      obtain ⟨⟨⟨a1, a2⟩, a3⟩, a4⟩ := h1
      have ea := ints_eq a1
      have la : (toInts a).length = (itemsD a).length := by
        obtain ⟨xs, rfl, _⟩ := isInts_tup a1
        simp [toInts, itemsD]
      obtain ⟨eb, b1, b2⟩ := square_eq h2
      refine ⟨toInts a, toMat b, by show D.tup [a, b] = D.tup [iD (toInts a), mD (toMat b)]; rw [← ea, ← eb], by omega, by omega, fun m hm => ?_, by omega, fun r hr => by have := b2 r hr; omega, h3⟩
      rw [ea] at a4
      have := a4 (.int m) (by simpa [itemsD] using hm)
      simpa using this
    · cases h
  · rintro ⟨ms, ws, rfl, h⟩
    have hi : ∀ l : List Int, isIntsD (iD l) = true := by
      intro l
      show (l.map D.int).all isIntD = true
      simp [isIntD]
    have ti : ∀ l : List Int, toInts (iD l) = l := by
      intro l
      induction l with
      | nil => rfl
      | cons i l ih => exact congrArg (List.cons i) ih
    have tm : toMat (mD ws) = ws := by
      show (ws.map iD).map toInts = ws
      rw [List.map_map]
      have : ∀ r, (toInts ∘ iD) r = r := ti
      rw [List.map_congr_left (g := id) fun r _ => this r]
      simp
    show (isMassesD (iD ms) && isSquareD ((itemsD (iD ms)).length : Int) (mD ws) && balB (toInts (iD ms)) (toMat (mD ws))) = true
    rw [ti, tm, h.bal]
    have h1 : isMassesD (iD ms) = true := by
      simp only [isMassesD, hi, itemsD, List.length_map, Bool.and_eq_true, decide_eq_true_eq, List.all_eq_true, List.mem_map]
      refine ⟨⟨⟨trivial, h.pos⟩, h.most⟩, ?_⟩
      rintro x ⟨m, hm, rfl⟩
      exact decide_eq_true (h.mp m hm)
    have h2 : isSquareD ((itemsD (iD ms)).length : Int) (mD ws) = true := by
      simp only [isSquareD, isTupD, itemsD, List.length_map, Bool.and_eq_true, decide_eq_true_eq, List.all_eq_true, List.mem_map]
      refine ⟨by have := h.len; omega, ?_⟩
      rintro x ⟨r, hr, rfl⟩
      simp only [isRowD, hi, isTupD, List.length_map, h.row r hr]
      simp
    rw [h1, h2]
    rfl
theorem v_ints {l : List Int} (h : vD S (iD l) = true) : ∀ i ∈ l, i.natAbs < 2 ^ 1000 := by
  intro i hi
  have := (v_tup h).2 (.int i) (List.mem_map.mpr ⟨i, hi, rfl⟩)
  exact of_decide_eq_true this
theorem graph_ok (t : GraphT T) (hn : 5 ≤ n) (h : vD S d = true) : phi T n "is_graph" [d] [] [] S = .ok (.bl (isGraphD d)) S := by
  obtain ⟨n, rfl⟩ : ∃ m, n = m + 1 := ⟨n - 1, by omega⟩
  obtain ⟨fz, p⟩ := t.graph
  rw [phi_whole p rfl]
  have f0 : ∀ b, isTupD 2 d = b → phi T n "is_tuple" [d, .int 2] [] [] S = .ok (.bl b) S := fun b hb => by rw [tuple_ok t.toShapeT (n := n) (by omega) h, hb]
  cases hb : isTupD 2 d with
  | false =>
    have : isGraphD d = false := by
      unfold isGraphD
      split
      · rw [show isTupD 2 _ = true from rfl] at hb; cases hb
      · rfl
    simp [isGraphB, startE, v_slot h, f0 _ hb, this]
  | true =>
    obtain ⟨a, b, rfl⟩ : ∃ a b, d = .tup [a, b] := by
      cases d with
      | tup xs =>
        have e := of_decide_eq_true (show decide ((xs.length : Int) = 2) = true from hb)
        match xs, e with
        | [a, b], _ => exact ⟨a, b, rfl⟩
      | _ => cases hb
    have va : vD S a = true := (v_tup h).2 a (by simp)
    have vb : vD S b = true := (v_tup h).2 b (by simp)
    have g0 : L2.atI [a, b] 0 = some a := rfl
    have g1 : L2.atI [a, b] 1 = some b := rfl
    have fm := masses_ok t (n := n) (by omega) va
    show _ = R.ok (D.bl (isMassesD a && isSquareD ((itemsD a).length : Int) b && balB (toInts a) (toMat b))) S
    cases ha : isMassesD a with
    | false =>
      rw [ha] at fm
      simp [isGraphB, startE, f0 _ hb, g0, fm]
    | true =>
      have hai : isIntsD a = true := by
        simp only [isMassesD, Bool.and_eq_true] at ha
        exact ha.1.1.1
      have ha8 : (itemsD a).length ≤ 8 := by
        simp only [isMassesD, Bool.and_eq_true, decide_eq_true_eq] at ha
        exact ha.1.2
      have ea := ints_eq hai
      have la : lenOf S a = some (itemsD a).length := by
        obtain ⟨xs, rfl, _⟩ := isInts_tup hai
        rfl
      have fs := square_ok t.toShapeT (n := n) (by omega) vb ((itemsD a).length : Int)
      rw [ha] at fm
      cases hs : isSquareD ((itemsD a).length : Int) b with
      | false =>
        rw [hs] at fs
        simp [isGraphB, startE, f0 _ hb, g0, g1, fm, la, fs]
      | true =>
        rw [hs] at fs
        obtain ⟨eb, b1, b2⟩ := square_eq hs
        have lt : (toInts a).length = (itemsD a).length := by
          obtain ⟨xs, rfl, _⟩ := isInts_tup hai
          simp [toInts, itemsD]
        have fe : phi T n "is_even_by" [a, b] [] [] S = .ok (.bl (balB (toInts a) (toMat b))) S := by
          have := even_by_ok t (n := n) (S := S) (by omega) (ms := toInts a) (ws := toMat b) (by omega) (by omega) (fun r hr => by have := b2 r hr; omega) (v_ints (S := S) (by rw [← ea]; exact va)) (fun r hr => v_ints (S := S) (by
            rw [eb] at vb
            exact (v_tup vb).2 _ (List.mem_map.mpr ⟨r, hr, rfl⟩)))
          rw [← ea, ← eb] at this
          exact this
        simp [isGraphB, startE, f0 _ hb, g0, g1, fm, la, fs, fe]
end
end Mp
/-! Pl, part F: values that stand by themselves; the very object; boxes; cells. -/
namespace Mp
open PySem
/-- data without references, alike with itself -/
def okD : Nat → D → Bool
  | 0, _ => false
  | k + 1, d => match d with
    | .non => true | .bl _ => true | .int _ => true
    | .str s => shp (.str s)
    | .tup xs => decide (xs.length ≤ 16777216) && xs.all (okD k)
    | .lst xs => decide (xs.length ≤ 16777216) && xs.all (okD k)
    | .dic ks vs => decide (ks.length ≤ 16777216) && decide (ks.length = vs.length) && vs.all (okD k)
    | _ => false
theorem okD_mono : ∀ {k k' : Nat} {d : D}, okD k d = true → k ≤ k' → okD k' d = true
  | 0, _, _, h, _ => by cases h
  | k + 1, 0, _, _, hk => by omega
  | k + 1, k' + 1, d, h, hk => by
    have ih : ∀ xs : List D, xs.all (okD k) = true → xs.all (okD k') = true := fun xs hx => by
      rw [List.all_eq_true] at *
      exact fun x hm => okD_mono (hx x hm) (by omega)
    cases d with
    | tup xs => simp only [okD, Bool.and_eq_true] at *; exact ⟨h.1, ih _ h.2⟩
    | lst xs => simp only [okD, Bool.and_eq_true] at *; exact ⟨h.1, ih _ h.2⟩
    | dic ks vs => simp only [okD, Bool.and_eq_true] at *; exact ⟨h.1, ih _ h.2⟩
    | non => rfl
    | bl _ => rfl
    | int _ => rfl
    | str s => exact h
    | ref _ => cases h
    | ty _ => cases h
    | exc _ _ _ => cases h
theorem findK_some {q : Key} : ∀ {ks : List Key} {vs : List D}, q ∈ ks → ks.length = vs.length → ∃ x ∈ vs, findK q ks vs = some x
  | [], _, h, _ => by cases h
  | k :: ks, [], _, e => by cases e
  | k :: ks, v :: vs, h, e => by
    by_cases hk : k = q
    · exact ⟨v, List.mem_cons_self, by simp [findK, hk]⟩
    · rcases List.mem_cons.mp h with rfl | h
      · exact absurd rfl hk
      · obtain ⟨x, hx, ex⟩ := findK_some h (by simpa using e)
        exact ⟨x, List.mem_cons_of_mem _ hx, by simp [findK, hk, ex]⟩
theorem Sm_ok {S : Store} : ∀ {k : Nat} {d : D}, okD k d = true → Sm S k d d
  | 0, _, h => by cases h
  | k + 1, d, h => by
    cases d with
    | non => exact .inl ⟨rfl, rfl⟩
    | bl b => exact .inr (.inl ⟨b, rfl, rfl⟩)
    | int i => exact .inr (.inr (.inl ⟨i, rfl, rfl⟩))
    | str s => exact .inr (.inr (.inr (.inl ⟨s, rfl, rfl, h⟩)))
    | tup xs =>
      simp only [okD, Bool.and_eq_true, decide_eq_true_eq, List.all_eq_true] at h
      exact .inr (.inr (.inr (.inr (.inl ⟨xs, xs, rfl, rfl, rfl, h.1, fun i x y e1 e2 => by
        rw [e1] at e2; cases e2
        exact Sm_ok (h.2 x (List.mem_of_getElem? e1))⟩))))
    | lst xs =>
      simp only [okD, Bool.and_eq_true, decide_eq_true_eq, List.all_eq_true] at h
      exact .inr (.inr (.inr (.inr (.inr (.inl ⟨xs, xs, rfl, rfl, rfl, h.1, fun i x y e1 e2 => by
        rw [e1] at e2; cases e2
        exact Sm_ok (h.2 x (List.mem_of_getElem? e1))⟩)))))
    | dic ks vs =>
      simp only [okD, Bool.and_eq_true, decide_eq_true_eq, List.all_eq_true] at h
      refine .inr (.inr (.inr (.inr (.inr (.inr ⟨ks, vs, vs, rfl, rfl, h.1.1, fun q hq => ?_⟩)))))
      obtain ⟨x, hx, e⟩ := findK_some hq h.1.2
      exact ⟨x, x, e, e, Sm_ok (h.2 x hx)⟩
    | ref _ => cases h
    | ty _ => cases h
    | exc _ _ _ => cases h
/-- an object of the store, alike with itself -/
def okO (k : Nat) : O → Bool
  | .lst xs => decide (xs.length < 16777216) && xs.all (okD k)
  | .dic ks vs => decide (ks.length < 16777216) && decide (ks.length = vs.length) && vs.all (okD k)
  | .lok _ _ => false
theorem Sm_ref {S : Store} {r k : Nat} {o : O} (hS : S[r]? = some o) (h : okO k o = true) : Sm S (k + 1) (.ref r) (.ref r) := by
  cases o with
  | lst xs =>
    simp only [okO, Bool.and_eq_true, decide_eq_true_eq, List.all_eq_true] at h
    have e : lstOf S (.ref r) = some xs := by simp only [lstOf, hS]
    exact .inr (.inr (.inr (.inr (.inr (.inl ⟨xs, xs, e, e, rfl, Nat.le_of_lt h.1, fun i x y e1 e2 => by
        rw [e1] at e2; cases e2
        exact Sm_ok (h.2 x (List.mem_of_getElem? e1))⟩)))))
  | dic ks vs =>
    simp only [okO, Bool.and_eq_true, decide_eq_true_eq, List.all_eq_true] at h
    have e : dicOf S (.ref r) = some (ks, vs) := by simp only [dicOf, hS]
    refine .inr (.inr (.inr (.inr (.inr (.inr ⟨ks, vs, vs, e, e, Nat.le_of_lt h.1.1, fun q hq => ?_⟩)))))
    obtain ⟨x, hx, e⟩ := findK_some hq h.1.2
    exact ⟨x, x, e, e, Sm_ok (h.2 x hx)⟩
  | lok _ _ => cases h
/-- a value that may be kept by an error: data that is no list or dict, or an object of the store -/
def Kp (S : Store) (k : Nat) (d : D) : Prop := (okD k d = true ∧ tyName d S ≠ "list" ∧ tyName d S ≠ "dict") ∨ ∃ r o, d = .ref r ∧ S[r]? = some o ∧ okO k o = true
def veryB : Ss := (.cons (.ife (.bnot (.call "_law_same" (.cons (.v 0) (.cons (.v 1) .nil)) [] .nil)) (.cons (.ret (.k (.bl false))) .nil) .nil) (.cons (.ife (.blt .isinst true (.cons (.v 1) (.cons (.kty "list") .nil))) (.cons (.ex (.meth .append (.v 1) (.cons (.k (.str "more")) .nil))) .nil) .nil) (.cons (.ife (.blt .isinst true (.cons (.v 1) (.cons (.kty "dict") .nil))) (.cons (.asg (.s (.v 1) (.k (.str "more"))) (.k (.int 1))) .nil) .nil) (.cons (.ret (.call "_law_same" (.cons (.v 0) (.cons (.v 1) .nil)) [] .nil)) .nil))))
theorem okD_slot {S : Store} {k : Nat} {d : D} (h : okD k d = true) : slotR (some (some d)) S = .ok d S := by
  cases k with
  | zero => cases h
  | succ k => cases d <;> first | rfl | cases h
theorem okD_ty {S : Store} {k : Nat} {d : D} (h : okD k d = true) : (tyName d S == "?") = false := by
  cases k with
  | zero => cases h
  | succ k => cases d <;> first | rfl | cases h
theorem shp_more : shp (.str "more") = true := by decide +kernel
theorem ss_get {S : Store} {r : Nat} {o o' : O} (hS : S[r]? = some o) : (S.set r o')[r]? = some o' := by
  have hlt := (List.getElem?_eq_some_iff.mp hS).1
  simp [hlt]
theorem okO_more {k : Nat} (hk : 1 ≤ k) {ks : List Key} {vs : List D} (h : okO k (.dic ks vs) = true) (hs : ks.length + 1 < 16777216) : okO k (.dic (putK (.inr "more") (.int 1) ks vs).1 (putK (.inr "more") (.int 1) ks vs).2) = true := by
  obtain ⟨k, rfl⟩ : ∃ m, k = m + 1 := ⟨k - 1, by omega⟩
  simp only [okO, Bool.and_eq_true, decide_eq_true_eq, List.all_eq_true] at h
  unfold putK
  split
  · simp only [okO, Bool.and_eq_true, decide_eq_true_eq, List.all_eq_true]
    refine ⟨⟨h.1.1, by rw [List.length_zipWith, h.1.2]; simp⟩, fun x hx => ?_⟩
    obtain ⟨i, hi, rfl⟩ := List.mem_iff_getElem.mp hx
    rw [List.getElem_zipWith]
    split
    · rfl
    · exact h.2 _ (List.getElem_mem _)
  · simp only [okO, Bool.and_eq_true, decide_eq_true_eq, List.all_eq_true, List.length_append, List.mem_append]
    refine ⟨⟨hs, by rw [h.1.2]; rfl⟩, fun x hx => ?_⟩
    rcases hx with hx | hx
    · exact h.2 x hx
    · have : x = .int 1 := by simpa using hx
      rw [this]; rfl
theorem very_ok {T : Tab} {fz fz' : Bool} (p : T "_law_same" = some ((["given", "due"] : List Str), (⟨2, 4, true, fz, sameB⟩ : Fn))) (q : T "_law_very" = some ((["given", "value"] : List Str), (⟨2, 2, true, fz', veryB⟩ : Fn))) {k n : Nat} (hk : 1 ≤ k) (hn : k + 2 ≤ n) {S : Store} {d : D} (h : Kp S k d)
    (hs : ∀ r o, d = .ref r → S[r]? = some o → (match o with | .lst xs => xs.length + 1 < 16777216 | .dic ks _ => ks.length + 1 < 16777216 | .lok _ _ => False)) :
    ∃ S', phi T n "_law_very" [d, d] [] [] S = .ok (.bl true) S' ∧ ∀ m, d ≠ .ref m → S'[m]? = S[m]? := by
  obtain ⟨n, rfl⟩ : ∃ m, n = m + 1 := ⟨n - 1, by omega⟩
  rw [phi_whole q rfl]
  rcases h with ⟨h1, h2, h3⟩ | ⟨r, o, rfl, hS, ho⟩
  · refine ⟨S, ?_, fun _ _ => rfl⟩
    have e := same_ok p (n := n) (by omega) (Sm_ok (S := S) h1)
    have t1 := isinst_ty (n := "list") (S := S) (d := d) rfl (okD_ty h1) (by rfl)
    have t2 := isinst_ty (n := "dict") (S := S) (d := d) rfl (okD_ty h1) (by rfl)
    have f1 : isOne (tyName d S) "list" = false := by
      simp only [isOne, show (("list" : String) == "int") = false by decide, Bool.and_false, Bool.or_false]
      exact beq_false_of_ne fun z => h2 z.symm
    have f2 : isOne (tyName d S) "dict" = false := by
      simp only [isOne, show (("dict" : String) == "int") = false by decide, Bool.and_false, Bool.or_false]
      exact beq_false_of_ne fun z => h3 z.symm
    simp [veryB, startE, okD_slot h1, e, t1, t2, f1, f2]
  · have e := same_ok p (n := n) (by omega) (Sm_ref hS ho)
    cases o with
    | lst xs =>
      have hs := hs r _ rfl hS
      dsimp only at hs
      have ho' : okO k (.lst (xs ++ [.str "more"])) = true := by
        simp only [okO, Bool.and_eq_true, decide_eq_true_eq, List.all_eq_true, List.length_append, List.mem_append] at ho ⊢
        refine ⟨hs, fun x hx => ?_⟩
        rcases hx with hx | hx
        · exact ho.2 x hx
        · have : x = .str "more" := by simpa using hx
          rw [this]
          obtain ⟨k, rfl⟩ : ∃ m, k = m + 1 := ⟨k - 1, by omega⟩
          exact shp_more
      refine ⟨S.set r (.lst (xs ++ [.str "more"])), ?_, fun m hm => by rw [List.getElem?_set_ne (fun z => hm (by rw [z]))]⟩
      have hS' : (S.set r (.lst (xs ++ [.str "more"])))[r]? = some (.lst (xs ++ [.str "more"])) := ss_get hS
      have e2 := same_ok p (n := n) (by omega) (Sm_ref hS' ho')
      simp [veryB, startE, e, isinst, tyName, hS, knownTy, isOne, lstOf, meth, methL, show xs.length < 16777216 by omega, hS', e2]
    | dic ks vs =>
      have hs := hs r _ rfl hS
      dsimp only at hs
      have ho' := okO_more hk ho hs
      refine ⟨S.set r (.dic (putK (.inr "more") (.int 1) ks vs).1 (putK (.inr "more") (.int 1) ks vs).2), ?_, fun m hm => by rw [List.getElem?_set_ne (fun z => hm (by rw [z]))]⟩
      have hS' := ss_get (o' := .dic (putK (.inr "more") (.int 1) ks vs).1 (putK (.inr "more") (.int 1) ks vs).2) hS
      have e2 := same_ok p (n := n) (by omega) (Sm_ref hS' ho')
      have st : setop (.ref r) (.str "more") (.int 1) S = some (S.set r (.dic (putK (.inr "more") (.int 1) ks vs).1 (putK (.inr "more") (.int 1) ks vs).2)) := by
        simp [setop, hS, keyOf, show ks.length < 16777216 by omega]
      simp [veryB, startE, e, isinst, tyName, hS, knownTy, isOne, st, e2]
    | lok _ _ => cases ho
/-! ### cells, boxes -/
def boxB : Ss := (.cons (.ret (.lst false (.cons (.blt .abs true (.cons (.v 0) .nil)) (.cons (.cmp .GtE (.blt .abs true (.cons (.v 0) .nil)) (.bin .Pow true (.k (.int 10)) (.k (.int 18)))) (.cons (.bin .Mod true (.blt .int true (.cons (.blt .abs true (.cons (.v 0) .nil)) .nil)) (.k (.int 2147483629))) (.cons (.k (.int 0)) .nil)))))) .nil)
theorem box_ok {T : Tab} (p : T "_law_box" = some ((["great"] : List Str), (⟨1, 1, false, false, boxB⟩ : Fn))) {n : Nat} (hn : 1 ≤ n) (i : Int) (S : Store) : ∃ o, phi T n "_law_box" [.int i] [] [] S = .ok (.ref S.length) (S ++ [o]) ∧ BoxOk 0 o := by
  obtain ⟨n, rfl⟩ : ∃ m, n = m + 1 := ⟨n - 1, by omega⟩
  have pw : powOk 10 18 = true := by decide
  refine ⟨.lst [.int (if i < 0 then -i else i), .bl (decide (10 ^ 18 ≤ (if i < 0 then -i else i))), .int ((if i < 0 then -i else i).fmod 2147483629), .int 0], ?_, _, _, _, _, rfl, by split <;> omega, (fmod_bd _ (by omega)).1, (fmod_bd _ (by omega)).2, by omega, by omega⟩
  rw [phi_own0 p rfl rfl]
  simp [boxB, startE, binI, pw, cmpI, backR, back, D.pure, O.pure, pureL]
def cellB (c : Int) (m : Int) : Ss := (.cons (.ret (.ife (.cmp .Lt (.v 1) (.blt .len true (.cons (.v 0) .nil))) (.ix (.v 0) (.v 1)) (.bin .Add true (.bin .Mult true (.k (.int c)) (.v 1)) (.bin .Mod true (.blt .int true (.cons (.blt .sum true (.cons (.sl true (.v 0) .nil (.cons (.k (.int 1)) .nil)) .nil)) .nil)) (.k (.int m)))))) .nil)
theorem cut1 (xs : List D) : cutD xs none (some 1) = xs.take 1 := by
  unfold cutD
  cases xs with
  | nil => simp
  | cons x xs => rfl
theorem sum_take1 (ns : List Int) : sumI ((ns.map D.int).take 1) = some ((ns.take 1).sum) := by
  cases ns with
  | nil => rfl
  | cons i ns => simp [sumI]
theorem cell_ok {T : Tab} {c m : Int} {fz : Bool} (hc : c.natAbs < 2 ^ 32) (hm : 0 < m) (p : T "_law_cell" = some ((["script", "k"] : List Str), (⟨2, 2, true, fz, cellB c m⟩ : Fn))) {n : Nat} (hn : 1 ≤ n) (ns : List Int) {k : Nat} (hk : k < 1000) (S : Store) : ∃ i, phi T n "_law_cell" [.lst (ns.map .int), .int k] [] [] S = .ok (.int i) S := by
  obtain ⟨n, rfl⟩ : ∃ m, n = m + 1 := ⟨n - 1, by omega⟩
  rw [phi_whole p rfl]
  by_cases h : k < ns.length
  · refine ⟨ns.getD k 0, ?_⟩
    have e := atI_map D.int ns 0 h
    simp only [List.getD_eq_getElem?_getD] at e ⊢
    simp [cellB, startE, cmpI, h, e]
  · have mo : mulOk c k = true := mulOk_small (by omega) (by omega)
    refine ⟨c * k + ((ns.take 1).sum).fmod m, ?_⟩
    simp [cellB, startE, cmpI, h, binI, mo, part, slop, slAny, cut1, ← List.map_take, show sumI ((ns.take 1).map D.int) = some ((ns.take 1).sum) by rw [List.map_take]; exact sum_take1 ns, show m ≠ 0 by omega]
end Mp
/-! Pl, part G: comprehensions at once; operators. -/
namespace Mp
open PySem
@[simp] theorem add_tt (fz : Bool) (x y : List D) (S : Store) : binop .Add fz (.tup x) (.tup y) S = if x.length + y.length ≤ 16777216 then .ok (.tup (x ++ y)) S else .bad := Eq.trans rfl rfl
@[simp] theorem add_ll (fz : Bool) (x y : List D) (S : Store) : binop .Add fz (.lst x) (.lst y) S = if x.length + y.length ≤ 16777216 then alloc fz (x ++ y) S else .bad := Eq.trans rfl rfl
@[simp] theorem mul_ti (fz : Bool) (x : List D) (k : Int) (S : Store) : binop .Mult fz (.tup x) (.int k) S = if -(2 ^ 63) ≤ k ∧ k ≤ 1000 ∧ x.length ≤ 1000 then .ok (.tup (repL x k.toNat)) S else .bad := Eq.trans rfl rfl
theorem mul_li (fz : Bool) (x : List D) (k : Int) (S : Store) : binop .Mult fz (.lst x) (.int k) S = if -(2 ^ 63) ≤ k ∧ k < 2 ^ 63 ∧ x.length * k.toNat ≤ line then alloc fz (repL x k.toNat) S else .bad := rfl
theorem repL_one (d : D) (k : Nat) : repL [d] k = List.replicate k d := by
  unfold repL
  induction k with
  | zero => rfl
  | succ k ih => rw [List.replicate_succ, List.flatten_cons, ih]; rfl
theorem mul_one (fz : Bool) (d : D) {k : Nat} (hk : k ≤ 1000) (S : Store) : binop .Mult fz (.tup [d]) (.int (k : Int)) S = .ok (.tup (List.replicate k d)) S := by
  rw [mul_ti, if_pos ⟨by omega, by omega, by simp⟩, ← repL_one]
  simp
theorem mul_lone (d : D) {k : Nat} (hk : k ≤ 1000) (S : Store) : binop .Mult false (.lst [d]) (.int (k : Int)) S = .ok (.ref S.length) (S ++ [.lst (List.replicate k d)]) := by
  have h3 : [d].length * ((k : Int)).toNat ≤ line := by
    rw [List.length_singleton, Nat.one_mul, Int.toNat_natCast]
    exact Nat.le_trans hk (by decide)
  rw [mul_li, if_pos ⟨by omega, by omega, h3⟩, Int.toNat_natCast, repL_one]
  rfl
section
variable {Φ : Phi} {ρ : Env} {S : Store} {fz : Bool} {vs : List Nat} {t : T} {it : I} {rest : Cl} {src : Src}
theorem comp_flat {α : Type} {F : α → D} {l : List α} {g : α → List D} (h1 : evI Φ it ρ S = .ok src S) (h2 : itemsOf S src = some (l.map F)) (hl : (l.flatMap g).length ≤ 16777216)
    (h3 : ∀ x ∈ l, (match evT Φ t (F x) (wipe ρ vs) S with | .ok ρ' S => evCl Φ rest ρ' S | .bad => .bad) = .ok (g x) S) : evE Φ (.comp fz vs t it .nil rest) ρ S = alloc fz (l.flatMap g) S := by
  rw [e_comp, h1, R.bind_ok]
  have key : ∀ f : D → Store → R (List D), (∀ x ∈ l, f (F x) S = .ok (g x) S) → ((noExc (srcR f src S)).bind fun xs S => if xs.length ≤ line then alloc fz xs S else .bad) = alloc fz (l.flatMap g) S := by
    intro f hf
    have e : srcR f src S = .ok (l.flatMap g) S := by
      rw [srcR_flat (g := fun x => match f x S with | .ok a _ => a | _ => []) h2]
      · congr 1
        have : ∀ l' : List α, (∀ x ∈ l', x ∈ l) → (l'.map F).flatMap (fun x => match f x S with | .ok a _ => a | _ => []) = l'.flatMap g := by
          intro l'
          induction l' with
          | nil => intro _; rfl
          | cons x l' ih =>
            intro hm
            rw [List.map_cons, List.flatMap_cons, List.flatMap_cons, hf x (hm x List.mem_cons_self), ih fun y hy => hm y (List.mem_cons_of_mem _ hy)]
        exact this l fun _ h => h
      · intro x hx
        obtain ⟨y, hy, rfl⟩ := List.mem_map.mp hx
        rw [hf y hy]
    rw [e, noExc_ok, R.bind_ok, if_pos (show _ ≤ line from hl)]
  refine key _ fun x hx => ?_
  have h := h3 x hx
  cases ht : evT Φ t (F x) (wipe ρ vs) S with
  | ok ρ' S' => rw [ht] at h; simpa using h
  | bad => rw [ht] at h; cases h
theorem flatMap_one {α β : Type} (l : List α) (g : α → β) : (l.flatMap fun x => [g x]) = l.map g := by
  induction l with
  | nil => rfl
  | cons x l ih => rw [List.flatMap_cons, ih]; rfl
theorem comp_list {α : Type} {F : α → D} {l : List α} {g : α → D} (h1 : evI Φ it ρ S = .ok src S) (h2 : itemsOf S src = some (l.map F)) (hl : l.length ≤ 16777216)
    (h3 : ∀ x ∈ l, (match evT Φ t (F x) (wipe ρ vs) S with | .ok ρ' S => evCl Φ rest ρ' S | .bad => .bad) = .ok [g x] S) : evE Φ (.comp fz vs t it .nil rest) ρ S = alloc fz (l.map g) S := by
  rw [comp_flat (g := fun x => [g x]) h1 h2 (by rw [flatMap_one]; simpa using hl) h3, flatMap_one]
theorem rngL_map (m : Nat) : rngL 0 m = (List.range m).map fun i : Nat => D.int (i : Int) := by simp [rngL]
theorem rngL_mapF (lo : Int) (m : Nat) : rngL lo m = (List.range m).map fun i : Nat => D.int (lo + (i : Int)) := by simp [rngL]
theorem comp_rng {m : Nat} {g : Nat → D} (h1 : evI Φ it ρ S = .ok src S) (h2 : itemsOf S src = some (rngL 0 m)) (hl : m ≤ 16777216)
    (h3 : ∀ i, i < m → (match evT Φ t (.int (i : Int)) (wipe ρ vs) S with | .ok ρ' S => evCl Φ rest ρ' S | .bad => .bad) = .ok [g i] S) : evE Φ (.comp fz vs t it .nil rest) ρ S = alloc fz ((List.range m).map g) S :=
  comp_list (F := fun i : Nat => D.int (i : Int)) h1 (by rw [h2, rngL_map]) (by simpa using hl) fun i hi => h3 i (List.mem_range.mp hi)
theorem comp_rngF {m : Nat} {g : Nat → List D} (h1 : evI Φ it ρ S = .ok src S) (h2 : itemsOf S src = some (rngL 0 m)) (hl : ((List.range m).flatMap g).length ≤ 16777216)
    (h3 : ∀ i, i < m → (match evT Φ t (.int (i : Int)) (wipe ρ vs) S with | .ok ρ' S => evCl Φ rest ρ' S | .bad => .bad) = .ok (g i) S) : evE Φ (.comp fz vs t it .nil rest) ρ S = alloc fz ((List.range m).flatMap g) S :=
  comp_flat (F := fun i : Nat => D.int (i : Int)) h1 (by rw [h2, rngL_map]) hl fun i hi => h3 i (List.mem_range.mp hi)
/-- all([.. for i in range(m) for j in range(k)]): its length -/
theorem flat_len {α : Type} {g : α → List D} {k : Nat} : ∀ {l : List α}, (∀ x ∈ l, (g x).length ≤ k) → (l.flatMap g).length ≤ l.length * k
  | [], _ => by simp
  | x :: l, h => by
    rw [List.flatMap_cons, List.length_append, List.length_cons, Nat.add_mul, Nat.one_mul]
    have h1 := h x List.mem_cons_self
    have h2 := flat_len fun y hy => h y (List.mem_cons_of_mem _ hy)
    omega
end
end Mp
/-! Pl, part H: comprehensions that draw, rows of lists in the store. -/
namespace Mp
open PySem
theorem eachR_inv {f : D → Store → R (List D)} {P : D → Prop} : ∀ {xs : List D} (I : Nat → Store → Prop) (h : ∀ i (hi : i < xs.length) S, I i S → ∃ ys S', f xs[i] S = .ok ys S' ∧ I (i + 1) S' ∧ ys.length ≤ 1 ∧ ∀ y ∈ ys, P y) {S : Store}, I 0 S →
    ∃ ys S', eachR f xs S = .ok ys S' ∧ I xs.length S' ∧ ys.length ≤ xs.length ∧ ∀ y ∈ ys, P y
  | [], I, h, S, h0 => ⟨[], S, rfl, h0, Nat.le_refl _, fun y hy => by cases hy⟩
  | x :: xs, I, h, S, h0 => by
    obtain ⟨ys, S1, e, i1, l1, p1⟩ := h 0 (by simp) S h0
    obtain ⟨zs, S2, e2, i2, l2, p2⟩ := eachR_inv (P := P) (fun i => I (i + 1)) (fun i hi S hI => h (i + 1) (by simpa using hi) S hI) i1
    refine ⟨ys ++ zs, S2, ?_, by simpa using i2, by simp; omega, fun y hy => (List.mem_append.mp hy).elim (p1 y) (p2 y)⟩
    have e : f x S = .ok ys S1 := e
    simp only [eachR, e, R.bind_ok, e2]
section
variable {Φ : Phi} {ρ : Env} {S : Store} {fz : Bool} {vs : List Nat} {t : T} {it : I} {cond : Es} {rest : Cl} {src : Src}
theorem comp_draw {xs : List D} (I : Nat → Store → Prop) (P : D → Prop) (h1 : evI Φ it ρ S = .ok (.items xs) S) (h0 : I 0 S) (hl : xs.length ≤ 16777216)
    (h3 : ∀ i (hi : i < xs.length) S, I i S → ∃ ys S', (match evT Φ t xs[i] (wipe ρ vs) S with | .ok ρ' S => (evConds Φ cond ρ' S).bind fun b S => if b then evCl Φ rest ρ' S else .ok [] S | .bad => .bad) = .ok ys S' ∧ I (i + 1) S' ∧ ys.length ≤ 1 ∧ ∀ y ∈ ys, P y) :
    ∃ ys S', evE Φ (.comp fz vs t it cond rest) ρ S = alloc fz ys S' ∧ I xs.length S' ∧ ys.length ≤ xs.length ∧ ∀ y ∈ ys, P y := by
  rw [e_comp, h1, R.bind_ok]
  have key : ∀ f : D → Store → R (List D), (∀ i (hi : i < xs.length) S, I i S → ∃ ys S', f xs[i] S = .ok ys S' ∧ I (i + 1) S' ∧ ys.length ≤ 1 ∧ ∀ y ∈ ys, P y) →
      ∃ ys S', ((noExc (srcR f (.items xs) S)).bind fun xs S => if xs.length ≤ line then alloc fz xs S else .bad) = alloc fz ys S' ∧ I xs.length S' ∧ ys.length ≤ xs.length ∧ ∀ y ∈ ys, P y := by
    intro f hf
    obtain ⟨ys, S', e, i2, l2, p2⟩ := eachR_inv (P := P) I hf h0
    refine ⟨ys, S', ?_, i2, l2, p2⟩
    have e : srcR f (.items xs) S = .ok ys S' := e
    rw [e, noExc_ok, R.bind_ok, if_pos (show ys.length ≤ line from Nat.le_trans l2 hl)]
  exact key _ h3
theorem comp_rows {α : Type} {F : α → D} {g : α → List D} {l : List α} (h1 : evI Φ it ρ S = .ok (.items (l.map F)) S) (hl : l.length ≤ 16777216)
    (h3 : ∀ x ∈ l, ∀ S', (match evT Φ t (F x) (wipe ρ vs) S' with | .ok ρ' S'' => evCl Φ rest ρ' S'' | .bad => .bad) = .ok [.ref S'.length] (S' ++ [.lst (g x)])) :
    evE Φ (.comp false vs t it .nil rest) ρ S = .ok (.ref (S.length + l.length)) (S ++ l.map (fun x => .lst (g x)) ++ [.lst ((List.range l.length).map fun i => .ref (S.length + i))]) := by
  rw [e_comp, h1, R.bind_ok]
  have key : ∀ f : D → Store → R (List D), (∀ x ∈ l, ∀ S', f (F x) S' = .ok [.ref S'.length] (S' ++ [.lst (g x)])) →
      ((noExc (srcR f (.items (l.map F)) S)).bind fun xs S => if xs.length ≤ line then alloc false xs S else .bad) = .ok (.ref (S.length + l.length)) (S ++ l.map (fun x => .lst (g x)) ++ [.lst ((List.range l.length).map fun i => .ref (S.length + i))]) := by
    intro f hf
    have e : ∀ (l' : List α) (S' : Store), (∀ x ∈ l', x ∈ l) → eachR f (l'.map F) S' = .ok ((List.range l'.length).map fun i => .ref (S'.length + i)) (S' ++ l'.map fun x => .lst (g x)) := by
      intro l'
      induction l' with
      | nil => intro S' _; simp [eachR]
      | cons x l' ih =>
        intro S' hm
        simp only [List.map_cons, eachR]
        rw [hf x (hm x List.mem_cons_self), R.bind_ok, ih _ fun y hy => hm y (List.mem_cons_of_mem _ hy), R.bind_ok]
        congr 1
        · rw [List.length_cons, List.range_succ_eq_map, List.map_cons, List.map_map, List.length_append]
          simp only [List.singleton_append, Nat.add_zero, List.length_singleton]
          congr 1
          refine List.map_congr_left fun i _ => ?_
          show D.ref _ = D.ref _
          congr 1
          omega
        · simp
    have e1 : srcR f (.items (l.map F)) S = _ := e l S fun _ h => h
    rw [e1, noExc_ok, R.bind_ok, if_pos (show _ ≤ line by simpa using hl)]
    simp
  refine key _ fun x hx S' => ?_
  have h := h3 x hx S'
  cases ht : evT Φ t (F x) (wipe ρ vs) S' with
  | ok ρ' S'' => rw [ht] at h; simpa using h
  | bad => rw [ht] at h; cases h
end
theorem i_rng2 {Φ : Phi} {es : Es} {ρ : Env} {S S' : Store} {x y : Int} {l : List D} (e : evEs Φ es ρ S = .ok [.int x, .int y] S') (q : rngOf [.int x, .int y] = some l) : evI Φ (.rng es) ρ S = .ok (.items l) S' := by
  rw [i_rng, e, R.bind_ok]
  rw [q]
theorem i_rng1 {Φ : Phi} {es : Es} {ρ : Env} {S S' : Store} {x : Int} {l : List D} (e : evEs Φ es ρ S = .ok [.int x] S') (q : rngOf [.int x] = some l) : evI Φ (.rng es) ρ S = .ok (.items l) S' := by
  rw [i_rng, e, R.bind_ok]
  rw [q]
/-- a matrix as lists of the store -/
def rowsO (m : Nat) (f : Nat → Nat → D) : Store := (List.range m).map fun i => .lst ((List.range m).map fun j => f i j)
@[simp] theorem rowsO_len (m : Nat) (f : Nat → Nat → D) : (rowsO m f).length = m := by simp [rowsO]
theorem rows_get {m : Nat} {f : Nat → Nat → D} (pre post : Store) {i : Nat} (hi : i < m) : (pre ++ rowsO m f ++ post)[pre.length + i]? = some (.lst ((List.range m).map fun j => f i j)) := by
  rw [List.append_assoc, List.getElem?_append_right (by omega), show pre.length + i - pre.length = i by omega, List.getElem?_append_left (by simpa using hi)]
  simp [rowsO, hi]
theorem rows_end {m : Nat} {f : Nat → Nat → D} (pre : Store) (o : O) (post : Store) : (pre ++ rowsO m f ++ o :: post)[pre.length + m]? = some o := by
  rw [List.getElem?_append_right (by simp)]
  simp
theorem rows_set {m : Nat} {f : Nat → Nat → D} (pre post : Store) {i j : Nat} (hi : i < m) (hj : j < m) (x : D) :
    (pre ++ rowsO m f ++ post).set (pre.length + i) (.lst (((List.range m).map fun j => f i j).set j x)) = pre ++ rowsO m (fun a b => if a = i ∧ b = j then x else f a b) ++ post := by
  rw [List.append_assoc, List.set_append_right _ _ (by omega), show pre.length + i - pre.length = i by omega, List.set_append_left _ _ (by simpa using hi), ← List.append_assoc]
  congr 2
  refine List.ext_getElem (by simp) fun a h1 h2 => ?_
  have ha : a < m := by simpa using h2
  rw [List.getElem_set]
  by_cases e : i = a
  · subst e
    rw [if_pos rfl]
    simp only [rowsO, List.getElem_map, List.getElem_range]
    congr 1
    refine List.ext_getElem (by simp) fun b h3 h4 => ?_
    have hb : b < m := by simpa using h4
    rw [List.getElem_set]
    by_cases e2 : j = b
    · subst e2; simp
    · simp [e2, Ne.symm e2]
  · rw [if_neg e]
    simp only [rowsO, List.getElem_map, List.getElem_range]
    congr 1
    refine List.map_congr_left fun b _ => ?_
    rw [if_neg (fun z => e z.1.symm)]
theorem rowsO_congr {m : Nat} {f g : Nat → Nat → D} (h : ∀ i j, i < m → j < m → f i j = g i j) : rowsO m f = rowsO m g := by
  unfold rowsO
  refine List.map_congr_left fun i hi => ?_
  congr 1
  exact List.map_congr_left fun j hj => h i j (List.mem_range.mp hi) (List.mem_range.mp hj)
theorem ixN_of {i : Int} {n : Nat} (h0 : 0 ≤ i) (h1 : i < n) : L2.ixN n i = some i.toNat := by
  unfold L2.ixN
  rw [if_pos h0, if_pos h1]
theorem ixN_nat {i n : Nat} (h1 : i < n) : L2.ixN n (i : Int) = some i := by
  rw [ixN_of (by omega) (by omega)]
  simp
theorem pure_ints (l : List Int) : pureL (l.map D.int) = true := by
  rw [pureL_all, List.all_eq_true]
  intro x hx
  obtain ⟨i, _, rfl⟩ := List.mem_map.mp hx
  rfl
theorem pureL_app {xs ys : List D} (h1 : pureL xs = true) (h2 : pureL ys = true) : pureL (xs ++ ys) = true := by
  rw [pureL_all, List.all_append, ← pureL_all, ← pureL_all, h1, h2]
  rfl
theorem in_ints (x : Int) (st : List Int) (S : Store) : cmpop .In (.int x) (.lst (st.map .int)) S = some (decide (x ∈ st)) := by
  have h : ∀ l : List Int, ((l.map D.int).all flat) = true ∧ ((l.map D.int).any fun z => eqF z (.int x)) = decide (x ∈ l) := by
    intro l
    induction l with
    | nil => exact ⟨rfl, by simp⟩
    | cons y l ih =>
      refine ⟨by simp only [List.map_cons, List.all_cons, ih.1]; rfl, ?_⟩
      rw [List.map_cons, List.any_cons, ih.2]
      show ((y == x) || _) = _
      by_cases e : y = x
      · subst e; simp
      · rw [beq_false_of_ne e]
        simp [Ne.symm e]
  show (if flat (.int x) && (st.map D.int).all flat then some ((st.map D.int).any fun z => eqF z (.int x)) else none) = _
  rw [(h st).1, (h st).2]
  rfl
theorem in_intsT (x : Int) (st : List Int) (S : Store) : cmpop .In (.int x) (.tup (st.map .int)) S = some (decide (x ∈ st)) := in_ints x st S
/-- drawn ints -/
theorem ints_form {P : Int → Prop} : ∀ {ys : List D}, (∀ y ∈ ys, ∃ i, y = D.int i ∧ P i) → ∃ st : List Int, ys = st.map D.int ∧ ∀ i ∈ st, P i
  | [], _ => ⟨[], rfl, fun i hi => by cases hi⟩
  | y :: ys, h => by
    obtain ⟨i, rfl, hp⟩ := h y List.mem_cons_self
    obtain ⟨st, e, hs⟩ := ints_form fun y hy => h y (List.mem_cons_of_mem _ hy)
    refine ⟨i :: st, by rw [e]; rfl, fun j hj => ?_⟩
    rcases List.mem_cons.mp hj with rfl | hj
    · exact hp
    · exact hs j hj
end Mp
/-! Pl, part I: sums; what a graph does with rows; moments by halves. -/
namespace Mp
def sumR (n : Nat) (f : Nat → Int) : Int := ((List.range n).map f).sum
theorem sumR_zero (f : Nat → Int) : sumR 0 f = 0 := rfl
theorem sumR_succ (n : Nat) (f : Nat → Int) : sumR (n + 1) f = sumR n f + f n := by
  unfold sumR
  rw [List.range_succ, List.map_append, List.sum_append]
  simp
theorem sumR_congr {n : Nat} {f g : Nat → Int} (h : ∀ i, i < n → f i = g i) : sumR n f = sumR n g := by
  unfold sumR
  congr 1
  exact List.map_congr_left fun i hi => h i (List.mem_range.mp hi)
theorem sumR_add (n : Nat) (f g : Nat → Int) : sumR n (fun i => f i + g i) = sumR n f + sumR n g := by
  induction n with
  | zero => rfl
  | succ n ih => rw [sumR_succ, sumR_succ, sumR_succ, ih]; omega
theorem sumR_mul (n : Nat) (c : Int) (f : Nat → Int) : sumR n (fun i => c * f i) = c * sumR n f := by
  induction n with
  | zero => simp [sumR]
  | succ n ih => rw [sumR_succ, sumR_succ, ih, Int.mul_add]
theorem sumR_mulr (n : Nat) (c : Int) (f : Nat → Int) : sumR n (fun i => f i * c) = sumR n f * c := by
  rw [Int.mul_comm, ← sumR_mul]
  exact sumR_congr fun i _ => Int.mul_comm _ _
theorem sumR_null (n : Nat) : sumR n (fun _ => 0) = 0 := by
  induction n with
  | zero => rfl
  | succ n ih => rw [sumR_succ, ih]; rfl
theorem sumR_swap (n m : Nat) (f : Nat → Nat → Int) : sumR n (fun i => sumR m (fun j => f i j)) = sumR m (fun j => sumR n (fun i => f i j)) := by
  induction n with
  | zero => rw [sumR_zero]; exact (sumR_null m).symm
  | succ n ih =>
    rw [sumR_succ, ih, ← sumR_add]
    exact sumR_congr fun j _ => (sumR_succ n _).symm
theorem sumR_bd {n : Nat} {f : Nat → Int} {b : Nat} (h : ∀ i, i < n → (f i).natAbs < 2 ^ b) (hn : n ≤ 8) : (sumR n f).natAbs < 2 ^ (b + 3) := by
  have key : ∀ m, m ≤ n → (sumR m f).natAbs ≤ m * 2 ^ b := by
    intro m
    induction m with
    | zero => intro _; simp [sumR]
    | succ m ih =>
      intro hm
      have h1 := ih (by omega)
      have h2 := h m (by omega)
      rw [sumR_succ, Nat.succ_mul]
      omega
  by_cases z : n = 0
  · subst z
    rw [sumR_zero]
    exact Nat.two_pow_pos _
  have h0 : (sumR n f).natAbs ≤ (n - 1) * 2 ^ b + (sumR n f - sumR (n - 1) f).natAbs := by
    have := key (n - 1) (by omega)
    omega
  have h1 : (sumR n f - sumR (n - 1) f).natAbs < 2 ^ b := by
    have e := sumR_succ (n - 1) f
    rw [show n - 1 + 1 = n by omega] at e
    rw [e]
    have := h (n - 1) (by omega)
    omega
  have h2 : (n - 1) * 2 ^ b ≤ 7 * 2 ^ b := Nat.mul_le_mul_right _ (by omega)
  rw [Nat.pow_add]
  have e8 : (2 : Nat) ^ 3 = 8 := rfl
  omega
theorem mul_bd {x y : Int} {a b : Nat} (hx : x.natAbs < 2 ^ a) (hy : y.natAbs < 2 ^ b) : (x * y).natAbs < 2 ^ (a + b) := by
  rw [Int.natAbs_mul, Nat.pow_add]
  rcases Nat.eq_zero_or_pos y.natAbs with h | h
  · rw [h, Nat.mul_zero]
    exact Nat.mul_pos (Nat.two_pow_pos _) (Nat.two_pow_pos _)
  · exact Nat.lt_of_lt_of_le (Nat.mul_lt_mul_of_pos_right hx h) (Nat.mul_le_mul_left _ (Nat.le_of_lt hy))
theorem bd_mono {x : Int} {a b : Nat} (hx : x.natAbs < 2 ^ a) (h : a ≤ b) : x.natAbs < 2 ^ b := Nat.lt_of_lt_of_le hx (Nat.pow_le_pow_right (by omega) h)
/-! ### a graph's matrix, products by masses -/
/-- one item of the row to which a matrix leads a row -/
def leadF (ws : List (List Int)) (r : List Int) (w : List Int) : Int := sumR r.length fun j => w.getD j 0 * r.getD j 0
def leadsL (ws : List (List Int)) (r : List Int) : List Int := ws.map (leadF ws r)
def prodL (ms x y : List Int) : Int := sumR ms.length fun k => ms.getD k 0 * x.getD k 0 * y.getD k 0
theorem leadsL_len (ws : List (List Int)) (r : List Int) : (leadsL ws r).length = ws.length := List.length_map _
theorem leadsL_get (ws : List (List Int)) (r : List Int) {i : Nat} (h : i < ws.length) : (leadsL ws r).getD i 0 = sumR r.length fun j => ent ws i j * r.getD j 0 := by
  unfold leadsL ent
  simp [List.getD_eq_getElem?_getD, h, leadF]
theorem bal_all {ms : List Int} {ws : List (List Int)} (h : balB ms ws = true) {i j : Nat} (hi : i < ms.length) (hj : j < ms.length) : ms.getD i 0 * ent ws i j = ms.getD j 0 * ent ws j i := by
  have key : ∀ i j, i < ms.length → j < i → ms.getD i 0 * ent ws i j = ms.getD j 0 * ent ws j i := fun i j hi hj => by
    unfold balB at h
    rw [List.all_eq_true] at h
    have h1 := h i (List.mem_range.mpr hi)
    rw [List.all_eq_true] at h1
    exact of_decide_eq_true (h1 j (List.mem_range.mpr hj))
  rcases Nat.lt_trichotomy i j with z | z | z
  · exact (key j i hj z).symm
  · rw [z]
  · exact key i j hi z
/-- the matrix of a graph may be moved from the one row to the other -/
theorem prod_leads {ms : List Int} {ws : List (List Int)} (g : GrOk ms ws) {x y : List Int} (hx : x.length = ms.length) (hy : y.length = ms.length) : prodL ms (leadsL ws x) y = prodL ms x (leadsL ws y) := by
  unfold prodL
  have e1 : sumR ms.length (fun k => ms.getD k 0 * (leadsL ws x).getD k 0 * y.getD k 0) = sumR ms.length fun k => sumR ms.length fun j => ms.getD k 0 * ent ws k j * x.getD j 0 * y.getD k 0 :=
    sumR_congr fun k hk => by
      rw [leadsL_get ws x (by rw [g.len]; exact hk), hx, ← sumR_mul, ← sumR_mulr]
      exact sumR_congr fun j _ => by simp only [Int.mul_assoc]
  have e2 : sumR ms.length (fun k => ms.getD k 0 * x.getD k 0 * (leadsL ws y).getD k 0) = sumR ms.length fun k => sumR ms.length fun j => ms.getD k 0 * x.getD k 0 * (ent ws k j * y.getD j 0) :=
    sumR_congr fun k hk => by rw [leadsL_get ws y (by rw [g.len]; exact hk), hy, ← sumR_mul]
  rw [e1, e2, sumR_swap]
  refine sumR_congr fun j hj => sumR_congr fun k hk => ?_
  rw [bal_all g.bal hk hj]
  simp only [Int.mul_assoc, Int.mul_comm, Int.mul_left_comm]
def itL (ws : List (List Int)) (r : List Int) : Nat → List Int
  | 0 => r
  | k + 1 => leadsL ws (itL ws r k)
theorem itL_len {ms : List Int} {ws : List (List Int)} (g : GrOk ms ws) {r : List Int} (hr : r.length = ms.length) : ∀ k, (itL ws r k).length = ms.length
  | 0 => hr
  | k + 1 => by rw [itL, leadsL_len, g.len]
/-- the k-th moment may be told by halves -/
theorem mom_half {ms : List Int} {ws : List (List Int)} (g : GrOk ms ws) {r : List Int} (hr : r.length = ms.length) : ∀ a b, prodL ms (itL ws r a) (itL ws r b) = prodL ms r (itL ws r (a + b))
  | 0, b => by rw [Nat.zero_add]; rfl
  | a + 1, b => by
    rw [itL, prod_leads g (itL_len g hr a) (itL_len g hr b)]
    have := mom_half g hr a (b + 1)
    rw [itL] at this
    rw [this, show a + (b + 1) = a + 1 + b by omega]
theorem getD_bd {r : List Int} {b : Nat} (h : ∀ x ∈ r, x.natAbs < 2 ^ b) (j : Nat) : (r.getD j 0).natAbs < 2 ^ b := by
  rw [List.getD_eq_getElem?_getD]
  cases e : r[j]? with
  | none => exact Nat.two_pow_pos _
  | some x => exact h x (List.mem_of_getElem? e)
theorem itL_bd {ms : List Int} {ws : List (List Int)} (g : GrOk ms ws) {r : List Int} (hr : r.length = ms.length) {a b : Nat} (hw : ∀ w ∈ ws, ∀ x ∈ w, x.natAbs < 2 ^ a) (h : ∀ x ∈ r, x.natAbs < 2 ^ b) :
    ∀ k, ∀ x ∈ itL ws r k, x.natAbs < 2 ^ (b + (a + 3) * k)
  | 0 => fun x hx => by simpa using h x hx
  | k + 1 => fun x hx => by
    have ih := itL_bd g hr hw h k
    rw [itL] at hx
    obtain ⟨w, hw', rfl⟩ := List.mem_map.mp hx
    have h8 := g.most
    have := sumR_bd (n := (itL ws r k).length) (f := fun j => w.getD j 0 * (itL ws r k).getD j 0) (b := a + (b + (a + 3) * k)) (fun j _ => mul_bd (getD_bd (hw w hw') j) (getD_bd ih j)) (by rw [itL_len g hr]; exact h8)
    refine bd_mono this ?_
    rw [Nat.mul_succ]
    omega
/-! ### divisors -/
def gcdL (l : List Int) (a : Nat) : Nat := l.foldl (fun d x => Nat.gcd d x.natAbs) a
theorem gcdL_dvd : ∀ (l : List Int) (a : Nat), gcdL l a ∣ a ∧ ∀ x ∈ l, (gcdL l a) ∣ x.natAbs
  | [], a => ⟨Nat.dvd_refl _, fun x hx => by cases hx⟩
  | y :: l, a => by
    obtain ⟨h1, h2⟩ := gcdL_dvd l (Nat.gcd a y.natAbs)
    refine ⟨Nat.dvd_trans h1 (Nat.gcd_dvd_left _ _), fun x hx => ?_⟩
    rcases List.mem_cons.mp hx with rfl | hx
    · exact Nat.dvd_trans h1 (Nat.gcd_dvd_right _ _)
    · exact h2 x hx
theorem dvd_gcdL : ∀ (l : List Int) (a : Nat) {d : Nat}, d ∣ a → (∀ x ∈ l, d ∣ x.natAbs) → d ∣ gcdL l a
  | [], a, d, h, _ => h
  | y :: l, a, d, h, h2 => dvd_gcdL l _ (Nat.dvd_gcd h (h2 y List.mem_cons_self)) fun x hx => h2 x (List.mem_cons_of_mem _ hx)
/-- the turns of Euclid -/
theorem euclid_half {b r : Nat} (hr : r < b) (h0 : 0 < r) {m : Nat} (hb : b < 2 ^ (m + 1)) : b % r < 2 ^ m := by
  have h1 := Nat.mod_lt b h0
  have h2 : b % r + r ≤ b := by
    have := Nat.mod_add_div b r
    have h3 : 1 ≤ b / r := Nat.div_pos (by omega) h0
    have h4 : r * 1 ≤ r * (b / r) := Nat.mul_le_mul_left _ h3
    omega
  rw [Nat.pow_succ] at hb
  omega
end Mp
/-! Pl, part J: the law's own gcd by Euclid; the divisor of a row; the ray of a row. -/
namespace Mp
open PySem
/-! ### general helpers -/
theorem ss_step {Φ : Phi} {s : Mp.S} {ss : Ss} {ρ ρ' : Env} {S S' : Store} (h : evS Φ s ρ S = .nx ρ' S') : evSs Φ (.cons s ss) ρ S = evSs Φ ss ρ' S' := by
  rw [ss_cons, h, next_nx]
theorem each_rng {Φ : Phi} {v : Nat} {es : Es} {b : Ss} {ρ ρ' : Env} {S S' : Store} {x : Int} {l : List D} (e : evEs Φ es ρ S = .ok [.int x] S) (q : rngOf [.int x] = some l) (h : eachF (fun x ρ S => evSs Φ b (ρ.set v (some x)) S) l ρ S = .nx ρ' S') : evS Φ (.each (.n v) (.rng es) b) ρ S = .nx ρ' S' := by
  rw [s_each, i_rng1 e q, stm_ok]
  refine Eq.trans ?_ h
  show eachF _ l ρ S = _
  exact eachF_lst fun x ρ S => by rw [t_n]; rfl
theorem each_items {Φ : Phi} {v : Nat} {e : E} {b : Ss} {ρ ρ' : Env} {S S1 S' : Store} {d : D} {l : List D} (he : evE Φ e ρ S = .ok d S1) (q : srcOf S1 d = some (.items l)) (h : eachF (fun x ρ S => evSs Φ b (ρ.set v (some x)) S) l ρ S1 = .nx ρ' S') : evS Φ (.each (.n v) (.e e) b) ρ S = .nx ρ' S' := by
  rw [s_each, i_e, he, R.bind_ok, q]
  refine Eq.trans ?_ h
  show eachF _ l ρ S1 = _
  exact eachF_lst fun x ρ S => by rw [t_n]; rfl
theorem app_get {S T : Store} {k : Nat} {o : O} (h : S[k]? = some o) : (S ++ T)[k]? = some o := by
  rw [List.getElem?_append_left (List.getElem?_eq_some_iff.mp h).1]
  exact h
theorem end_get (S : Store) (o : O) : (S ++ [o])[S.length]? = some o := by simp
theorem set_last (S : Store) (o o' : O) : (S ++ [o]).set S.length o' = S ++ [o'] := by simp
theorem set_back {S : Store} {r : Nat} {o o' : O} (hlt : r < S.length) : (S.set r o)[r]? = some o := by simp [hlt]
theorem add_rr {S : Store} {a b : Nat} {x y : List D} (h1 : S[a]? = some (.lst x)) (h2 : S[b]? = some (.lst y)) (hl : x.length + y.length ≤ 16777216) : binop .Add false (.ref a) (.ref b) S = .ok (.ref S.length) (S ++ [.lst (x ++ y)]) := by
  have e1 : lstOf S (.ref a) = some x := by simp only [lstOf, h1]
  have e2 : lstOf S (.ref b) = some y := by simp only [lstOf, h2]
  show (match lstOf S (.ref a) with
      | some x => (match lstOf S (.ref b) with | some y => if x.length + y.length ≤ line then alloc false (x ++ y) S else R.bad | none => R.bad)
      | none => R.bad) = _
  rw [e1, e2]
  dsimp only
  rw [if_pos (show x.length + y.length ≤ line from hl)]
  rfl
theorem iD_pure (l : List Int) : (iD l).pure = true := pure_ints l
theorem mD_pure (G : List (List Int)) : (mD G).pure = true := by
  show pureL (G.map iD) = true
  rw [pureL_all, List.all_eq_true]
  intro x hx
  obtain ⟨r, _, rfl⟩ := List.mem_map.mp hx
  exact iD_pure r
theorem gD_pure (ms : List Int) (G : List (List Int)) : (gD ms G).pure = true := by
  show ((iD ms).pure && ((mD G).pure && true)) = true
  rw [iD_pure, mD_pure]
  rfl
theorem at0 (a b : D) : L2.atI [a, b] 0 = some a := rfl
theorem at1 (a b : D) : L2.atI [a, b] 1 = some b := rfl
/-! ### Euclid -/
def gcdT : Ss := (.cons (.ife (.cmp .Eq (.v 1) (.k (.int 0))) (.cons (.brk) .nil) .nil) (.cons (.asg (.t (.cons (.n 0) (.cons (.n 1) .nil))) (.tup (.cons (.v 1) (.cons (.bin .Mod true (.blt .int true (.cons (.v 0) .nil)) (.v 1)) .nil)))) .nil))
def gcdB : Ss := (.cons (.asg (.t (.cons (.n 0) (.cons (.n 1) .nil))) (.tup (.cons (.blt .abs true (.cons (.v 0) .nil)) (.cons (.blt .abs true (.cons (.v 1) .nil)) .nil)))) (.cons (.each (.n 2) (.rng (.cons (.k (.int 4000)) .nil)) gcdT) (.cons (.ret (.v 0)) .nil)))
section
variable {Φ : Phi} {S : Store}
theorem gcd_turn (a b : Nat) (x : Option D) : evSs Φ gcdT [some (.int (a : Int)), some (.int (b : Int)), x] S = if b = 0 then .bk [some (.int (a : Int)), some (.int (b : Int)), x] S else .nx [some (.int (b : Int)), some (.int ((a % b : Nat) : Int)), x] S := by
  by_cases z : b = 0
  · simp [gcdT, cmpI, z]
  · have z' : ¬ (b : Int) = 0 := by omega
    simp [gcdT, cmpI, binI, z, z', Int.fmod_eq_emod_of_nonneg]
theorem gcd_loop : ∀ (m : Nat) (xs : List D) (a b : Nat) (e : Option D), b < 2 ^ m → 2 * m ≤ xs.length →
    ∃ e1 e2, eachF (fun x ρ S => evSs Φ gcdT (ρ.set 2 (some x)) S) xs [some (.int (a : Int)), some (.int (b : Int)), e] S = .nx [some (.int ((Nat.gcd a b : Nat) : Int)), e1, e2] S
  | m, [], a, b, e, hb, hl => by
    have : m = 0 := by simp at hl; omega
    subst this
    have : b = 0 := by simpa using hb
    subst this
    exact ⟨_, _, by rw [Nat.gcd_zero_right]; rfl⟩
  | m, x :: xs, a, b, e, hb, hl => by
    by_cases z : b = 0
    · subst z
      refine ⟨some (.int ((0 : Nat) : Int)), some x, ?_⟩
      rw [Nat.gcd_zero_right]
      show ((evSs Φ gcdT [some (.int (a : Int)), some (.int ((0 : Nat) : Int)), some x] S).turn _ _) = _
      rw [gcd_turn, if_pos rfl, turn_bk]
    · obtain ⟨m, rfl⟩ : ∃ k, m = k + 1 := ⟨m - 1, by
        rcases Nat.eq_zero_or_pos m with h | h
        · subst h; simp at hb; omega
        · omega⟩
      cases xs with
      | nil => simp at hl; omega
      | cons y xs =>
        have hr := Nat.mod_lt a (Nat.pos_of_ne_zero z)
        show ∃ e1 e2, ((evSs Φ gcdT [some (.int (a : Int)), some (.int (b : Int)), some x] S).turn (eachF (fun x ρ S => evSs Φ gcdT (ρ.set 2 (some x)) S) (y :: xs)) .nx) = _
        rw [gcd_turn, if_neg z, turn_nx]
        show ∃ e1 e2, ((evSs Φ gcdT [some (.int (b : Int)), some (.int ((a % b : Nat) : Int)), some y] S).turn (eachF (fun x ρ S => evSs Φ gcdT (ρ.set 2 (some x)) S) xs) .nx) = _
        rw [gcd_turn]
        have eg : Nat.gcd a b = Nat.gcd b (a % b) := by rw [Nat.gcd_comm a b, Nat.gcd_rec b a, Nat.gcd_comm]
        by_cases q : a % b = 0
        · refine ⟨some (.int ((a % b : Nat) : Int)), some y, ?_⟩
          rw [if_pos q, turn_bk, eg, q, Nat.gcd_zero_right]
        · rw [if_neg q, turn_nx]
          have hm := euclid_half hr (Nat.pos_of_ne_zero q) hb
          obtain ⟨e1, e2, h⟩ := gcd_loop m xs (a % b) (b % (a % b)) (some y) hm (by simp at hl; omega)
          refine ⟨e1, e2, ?_⟩
          rw [h, eg]
          congr 5
          rw [Nat.gcd_comm b (a % b), Nat.gcd_rec (a % b) b, Nat.gcd_comm]
end
section
variable {T : Tab} {n : Nat} {S : Store}
theorem gcd_ok {fz : Bool} (p : T "_law_gcd" = some ((["one", "other"] : List Str), (⟨2, 3, true, fz, gcdB⟩ : Fn))) (hn : 1 ≤ n) {a b : Int} (hb : b.natAbs < 2 ^ 1900) :
    phi T n "_law_gcd" [.int a, .int b] [] [] S = .ok (.int ((Nat.gcd a.natAbs b.natAbs : Nat) : Int)) S := by
  obtain ⟨n, rfl⟩ : ∃ m, n = m + 1 := ⟨n - 1, by omega⟩
  rw [phi_whole p rfl]
  have r4 : rngOf [.int 4000] = some (rngL 0 4000) := rng_of (n := 4000) (by decide)
  have hlen : (rngL 0 4000).length = 4000 := by simp [rngL]
  generalize rngL 0 4000 = L at *
  obtain ⟨e1, e2, h⟩ := gcd_loop (Φ := phi T n) (S := S) 1900 L a.natAbs b.natAbs none hb (by omega)
  have run : evSs (phi T n) gcdB (startE 3 [.int a, .int b]) S = .rt (.int ((Nat.gcd a.natAbs b.natAbs : Nat) : Int)) S := by
    refine (ss_step (ρ' := [some (.int (a.natAbs : Int)), some (.int (b.natAbs : Int)), none]) (S' := S) (by simp [startE]; omega)).trans ?_
    exact (ss_step (each_rng (x := 4000) (by simp) r4 h)).trans (by simp)
  rw [run]
  rfl
/-! ### the divisor of a row -/
def divT : Ss := (.cons (.asg (.n 1) (.blt .gcd true (.cons (.v 1) (.cons (.v 2) .nil)))) .nil)
def divB : Ss := (.cons (.asg (.n 1) (.k (.int 0))) (.cons (.each (.n 2) (.e (.v 0)) divT) (.cons (.ret (.v 1)) .nil)))
theorem div_loop {Φ : Phi} {S : Store} {x0 : Option D} {b : Ss} {h : ∀ (a : Nat) (x : Int), evSs Φ b [x0, some (.int (a : Int)), some (.int x)] S = .nx [x0, some (.int ((Nat.gcd a x.natAbs : Nat) : Int)), some (.int x)] S} :
    ∀ (l : List Int) (a : Nat) (e : Option D), ∃ e', eachF (fun x ρ S => evSs Φ b (ρ.set 2 (some x)) S) (l.map .int) [x0, some (.int (a : Int)), e] S = .nx [x0, some (.int ((gcdL l a : Nat) : Int)), e'] S
  | [], a, e => ⟨e, rfl⟩
  | x :: l, a, e => by
    obtain ⟨e', h2⟩ := div_loop (h := h) l (Nat.gcd a x.natAbs) (some (.int x))
    refine ⟨e', ?_⟩
    show ((evSs Φ b [x0, some (.int (a : Int)), some (.int x)] S).turn _ _) = _
    rw [h, turn_nx, h2]
    rfl
theorem divisor_ok {fz : Bool} (p : T "divisor_of" = some ((["items"] : List Str), (⟨1, 3, true, fz, divB⟩ : Fn))) (hn : 1 ≤ n) (l : List Int) :
    phi T n "divisor_of" [iD l] [] [] S = .ok (.int ((gcdL l 0 : Nat) : Int)) S := by
  obtain ⟨n, rfl⟩ : ∃ m, n = m + 1 := ⟨n - 1, by omega⟩
  rw [phi_whole p rfl]
  obtain ⟨e', h⟩ := div_loop (Φ := phi T n) (S := S) (x0 := some (iD l)) (b := divT) (h := fun a x => by simp [divT, blt, blt1, blt2, int2]) l 0 none
  have run : evSs (phi T n) divB (startE 3 [iD l]) S = .rt (.int ((gcdL l 0 : Nat) : Int)) S := by
    refine (ss_step (ρ' := [some (iD l), some (.int 0), none]) (S' := S) (by simp [startE])).trans ?_
    exact (ss_step (each_items (d := iD l) (by simp) rfl h)).trans (by simp)
  rw [run]
  rfl
/-! ### what a graph's matrix does, products by masses -/
def leadC1 : E := (.comp true [2] (.n 2) (.rng (.cons (.blt .len true (.cons (.v 1) .nil)) .nil)) .nil (.elt (.bin .Mult true (.ix (.v 3) (.v 2)) (.ix (.v 1) (.v 2)))))
def leadC2 : E := (.comp true [3] (.n 3) (.e (.ix (.v 0) (.k (.int 1)))) .nil (.elt (.blt .sum true (.cons leadC1 .nil))))
def leadB : Ss := (.cons (.ret (.blt .tuple true (.cons leadC2 .nil))) .nil)
theorem leads_ok {f : Str} {ps : List Str} {fz : Bool} (p : T f = some (ps, (⟨2, 4, true, fz, leadB⟩ : Fn))) (hp : ps.length = 2) (hn : 1 ≤ n) {ms : List Int} {ws : List (List Int)} {r : List Int} {a b : Nat} (hl : ws.length ≤ 8) (hr : r.length ≤ 8) (hw : ∀ w ∈ ws, w.length = r.length) (ba : ∀ w ∈ ws, ∀ x ∈ w, x.natAbs < 2 ^ a) (bb : ∀ x ∈ r, x.natAbs < 2 ^ b) (hab : a + b ≤ 134217728) :
    phi T n f [gD ms ws, iD r] [] [] S = .ok (iD (leadsL ws r)) S := by
  obtain ⟨n, rfl⟩ : ∃ m, n = m + 1 := ⟨n - 1, by omega⟩
  rw [phi_whole p (by rw [hp]; rfl)]
  have hli : line = 16777216 := rfl
  have inner : ∀ (w : List Int), w ∈ ws → evE (phi T n) leadC1 [some (gD ms ws), some (iD r), none, some (iD w)] S = .ok (.lst ((List.range r.length).map fun j => .int (w.getD j 0 * r.getD j 0))) S := fun w hw' => by
    refine comp_rng (m := r.length) (src := .items (rngL 0 r.length)) (i_rng1 (x := (r.length : Int)) (by simp) (rng_of (by rw [hli]; omega))) rfl (by omega) fun j hj => ?_
    have e1 := atI_map D.int w 0 (i := j) (by rw [hw w hw']; exact hj)
    have e2 := atI_map D.int r 0 hj
    have q := mulOk_of (getD_bd (ba w hw') j) (getD_bd bb j) hab
    simp only [List.getD_eq_getElem?_getD] at e1 e2 q ⊢
    simp [e1, e2, binI, q]
  have outer : evE (phi T n) leadC2 [some (gD ms ws), some (iD r), none, none] S = .ok (.lst (ws.map fun w => .int (leadF ws r w))) S := by
    refine comp_list (F := iD) (l := ws) (src := .items (ws.map iD)) (by simp [at1, srcOf]) rfl (by omega) fun w hw' => ?_
    have := inner w hw'
    simp only [t_n, setN_eq, cl_elt, e_blt, es_cons_, wipe_cons, wipe_nil, List.set_cons_succ, List.set_cons_zero]
    rw [this]
    have es := sumI_map (fun j => w.getD j 0 * r.getD j 0) (List.range r.length)
    simp only [List.getD_eq_getElem?_getD] at es
    simp [blt, blt1, es, leadF, sumR]
  have e : (leadsL ws r).map D.int = ws.map fun w => .int (leadF ws r w) := by simp [leadsL]
  simp [leadB, startE, outer, e]
def prodC : E := (.comp true [3] (.n 3) (.rng (.cons (.blt .len true (.cons (.v 0) .nil)) .nil)) .nil (.elt (.bin .Mult true (.bin .Mult true (.ix (.v 0) (.v 3)) (.ix (.v 1) (.v 3))) (.ix (.v 2) (.v 3)))))
def prodB : Ss := (.cons (.ret (.blt .sum true (.cons prodC .nil))) .nil)
theorem product_ok {f : Str} {ps : List Str} {fz : Bool} (p : T f = some (ps, (⟨3, 4, true, fz, prodB⟩ : Fn))) (hp : ps.length = 3) (hn : 1 ≤ n) {ms x y : List Int} {a b c : Nat} (hl : ms.length ≤ 8) (hx : x.length = ms.length) (hy : y.length = ms.length) (ba : ∀ i ∈ ms, i.natAbs < 2 ^ a) (bb : ∀ i ∈ x, i.natAbs < 2 ^ b) (bc : ∀ i ∈ y, i.natAbs < 2 ^ c) (hab : a + b + c ≤ 134217728) :
    phi T n f [iD ms, iD x, iD y] [] [] S = .ok (.int (prodL ms x y)) S := by
  obtain ⟨n, rfl⟩ : ∃ m, n = m + 1 := ⟨n - 1, by omega⟩
  rw [phi_whole p (by rw [hp]; rfl)]
  have hli : line = 16777216 := rfl
  have inner : evE (phi T n) prodC [some (iD ms), some (iD x), some (iD y), none] S = .ok (.lst ((List.range ms.length).map fun k => .int (ms.getD k 0 * x.getD k 0 * y.getD k 0))) S := by
    refine comp_rng (m := ms.length) (src := .items (rngL 0 ms.length)) (i_rng1 (x := (ms.length : Int)) (by simp) (rng_of (by rw [hli]; omega))) rfl (by omega) fun j hj => ?_
    have e1 := atI_map D.int ms 0 hj
    have e2 := atI_map D.int x 0 (i := j) (by omega)
    have e3 := atI_map D.int y 0 (i := j) (by omega)
    have q1 := mulOk_of (getD_bd ba j) (getD_bd bb j) (by omega)
    have q2 := mulOk_of (mul_bd (getD_bd ba j) (getD_bd bb j)) (getD_bd bc j) hab
    simp only [List.getD_eq_getElem?_getD] at e1 e2 e3 q1 q2 ⊢
    simp [e1, e2, e3, binI, q1, q2]
  have es := sumI_map (fun k => ms.getD k 0 * x.getD k 0 * y.getD k 0) (List.range ms.length)
  simp only [List.getD_eq_getElem?_getD] at es inner
  simp [prodB, startE, inner, blt, blt1, es, prodL, sumR]
def dotC : E := (.comp true [3] (.n 3) (.rng (.cons (.blt .len true (.cons (.v 1) .nil)) .nil)) .nil (.elt (.bin .Mult true (.bin .Mult true (.ix (.ix (.v 0) (.k (.int 0))) (.v 3)) (.ix (.v 1) (.v 3))) (.ix (.v 2) (.v 3)))))
def dotB : Ss := (.cons (.ret (.blt .sum true (.cons dotC .nil))) .nil)
theorem dot_ok {f : Str} {ps : List Str} {fz : Bool} (p : T f = some (ps, (⟨3, 4, true, fz, dotB⟩ : Fn))) (hp : ps.length = 3) (hn : 1 ≤ n) {ms x y : List Int} {ws : List (List Int)} {a b c : Nat} (hl : ms.length ≤ 8) (hx : x.length = ms.length) (hy : y.length = ms.length) (ba : ∀ i ∈ ms, i.natAbs < 2 ^ a) (bb : ∀ i ∈ x, i.natAbs < 2 ^ b) (bc : ∀ i ∈ y, i.natAbs < 2 ^ c) (hab : a + b + c ≤ 134217728) :
    phi T n f [gD ms ws, iD x, iD y] [] [] S = .ok (.int (prodL ms x y)) S := by
  obtain ⟨n, rfl⟩ : ∃ m, n = m + 1 := ⟨n - 1, by omega⟩
  rw [phi_whole p (by rw [hp]; rfl)]
  have hli : line = 16777216 := rfl
  have inner : evE (phi T n) dotC [some (gD ms ws), some (iD x), some (iD y), none] S = .ok (.lst ((List.range ms.length).map fun k => .int (ms.getD k 0 * x.getD k 0 * y.getD k 0))) S := by
    refine comp_rng (m := ms.length) (src := .items (rngL 0 ms.length)) (i_rng1 (x := (ms.length : Int)) (by simp [hx]) (rng_of (by rw [hli]; omega))) rfl (by omega) fun j hj => ?_
    have e1 := atI_map D.int ms 0 hj
    have e2 := atI_map D.int x 0 (i := j) (by omega)
    have e3 := atI_map D.int y 0 (i := j) (by omega)
    have q1 := mulOk_of (getD_bd ba j) (getD_bd bb j) (by omega)
    have q2 := mulOk_of (mul_bd (getD_bd ba j) (getD_bd bb j)) (getD_bd bc j) hab
    simp only [List.getD_eq_getElem?_getD] at e1 e2 e3 q1 q2 ⊢
    simp [at0, e1, e2, e3, binI, q1, q2]
  have es := sumI_map (fun k => ms.getD k 0 * x.getD k 0 * y.getD k 0) (List.range ms.length)
  simp only [List.getD_eq_getElem?_getD] at es inner
  simp [dotB, startE, inner, blt, blt1, es, prodL, sumR]
end
end Mp
/-! Pl, part K: rays. -/
namespace Mp
open PySem
section
variable {Φ : Phi} {ρ : Env} {S : Store} {fz : Bool} {vs : List Nat} {t : T} {it : I} {rest : Cl} {src : Src} {cond : Es}
/-- a comprehension with a test -/
theorem comp_flatC {α : Type} {F : α → D} {l : List α} {g : α → List D} (h1 : evI Φ it ρ S = .ok src S) (h2 : itemsOf S src = some (l.map F)) (hl : (l.flatMap g).length ≤ 16777216)
    (h3 : ∀ x ∈ l, (match evT Φ t (F x) (wipe ρ vs) S with | .ok ρ' S => (evConds Φ cond ρ' S).bind fun b S => if b then evCl Φ rest ρ' S else .ok [] S | .bad => .bad) = .ok (g x) S) : evE Φ (.comp fz vs t it cond rest) ρ S = alloc fz (l.flatMap g) S := by
  rw [e_comp, h1, R.bind_ok]
  have key : ∀ f : D → Store → R (List D), (∀ x ∈ l, f (F x) S = .ok (g x) S) → ((noExc (srcR f src S)).bind fun xs S => if xs.length ≤ line then alloc fz xs S else .bad) = alloc fz (l.flatMap g) S := by
    intro f hf
    have e : srcR f src S = .ok (l.flatMap g) S := by
      rw [srcR_flat (g := fun x => match f x S with | .ok a _ => a | _ => []) h2]
      · congr 1
        have : ∀ l' : List α, (∀ x ∈ l', x ∈ l) → (l'.map F).flatMap (fun x => match f x S with | .ok a _ => a | _ => []) = l'.flatMap g := by
          intro l'
          induction l' with
          | nil => intro _; rfl
          | cons x l' ih =>
            intro hm
            rw [List.map_cons, List.flatMap_cons, List.flatMap_cons, hf x (hm x List.mem_cons_self), ih fun y hy => hm y (List.mem_cons_of_mem _ hy)]
        exact this l fun _ h => h
      · intro x hx
        obtain ⟨y, hy, rfl⟩ := List.mem_map.mp hx
        rw [hf y hy]
    rw [e, noExc_ok, R.bind_ok, if_pos (show _ ≤ line from hl)]
  exact key _ h3
end
theorem filter_flat (l : List Int) : (l.flatMap fun x => if x ≠ 0 then [D.int x] else []) = (l.filter (fun x => decide (x ≠ 0))).map .int := by
  induction l with
  | nil => rfl
  | cons x l ih =>
    rw [List.flatMap_cons, ih, List.filter_cons]
    by_cases z : x = 0 <;> simp [z]
/-- the first item that is not 0, or 0 -/
def firstNZ (l : List Int) : Int := (l.filter (fun x => decide (x ≠ 0))).headD 0
theorem gcdL_zero : ∀ {l : List Int}, l.filter (fun x => decide (x ≠ 0)) = [] → gcdL l 0 = 0
  | [], _ => rfl
  | x :: l, h => by
    rw [List.filter_cons] at h
    by_cases z : x = 0
    · subst z
      exact gcdL_zero (l := l) (by simpa using h)
    · simp [z] at h
/-- a row is a ray -/
structure RayOk (l : List Int) : Prop where
  pos : 1 ≤ l.length
  most : l.length ≤ 8
  one : gcdL l 0 = 1
  first : 0 < firstNZ l
def isRayD (d : D) : Bool := isIntsD d && decide (1 ≤ (itemsD d).length) && decide ((itemsD d).length ≤ 8) && decide (gcdL (toInts d) 0 = 1) && decide (0 < firstNZ (toInts d))
theorem items_iD (l : List Int) : itemsD (iD l) = l.map .int := rfl
theorem toInts_iD (l : List Int) : toInts (iD l) = l := by
  show (l.map D.int).map _ = l
  rw [List.map_map]
  exact List.map_id' l
theorem ints_iD (l : List Int) : isIntsD (iD l) = true := by
  show (l.map D.int).all isIntD = true
  rw [List.all_map, List.all_eq_true]
  exact fun _ _ => rfl
theorem ray_iff {l : List Int} : isRayD (iD l) = true ↔ RayOk l := by
  unfold isRayD
  rw [ints_iD, items_iD, toInts_iD, List.length_map]
  simp only [Bool.true_and, Bool.and_eq_true, decide_eq_true_eq]
  exact ⟨fun ⟨⟨⟨a, b⟩, c⟩, d⟩ => ⟨a, b, c, d⟩, fun ⟨a, b, c, d⟩ => ⟨⟨⟨a, b⟩, c⟩, d⟩⟩
theorem ray_is {d : D} (h : isRayD d = true) : ∃ l, d = iD l ∧ RayOk l := by
  have hi : isIntsD d = true := by
    unfold isRayD at h
    simp only [Bool.and_eq_true] at h
    exact h.1.1.1.1
  have e := ints_eq hi
  exact ⟨toInts d, e, ray_iff.mp (e ▸ h)⟩
def plainRayC : E := (.comp true [1] (.n 1) (.e (.v 0)) (.cons (.cmp .NotEq (.v 1) (.k (.int 0))) .nil) (.elt (.v 1)))
def plainRayB : Ss := (.cons (.ife (.bor (.cons (.bnot (.call "is_integers" (.cons (.v 0) .nil) [] .nil)) (.cons (.bnot (.chain .LtE .LtE (.k (.int 1)) (.blt .len true (.cons (.v 0) .nil)) (.gk "MOST_NODES" (.int 8)))) (.cons (.cmp .NotEq (.call "divisor_of" (.cons (.v 0) .nil) [] .nil) (.k (.int 1))) .nil)))) (.cons (.ret (.k (.bl false))) .nil) .nil) (.cons (.ret (.cmp .Gt (.ix plainRayC (.k (.int 0))) (.k (.int 0)))) .nil))
def fitsRayB : Ss := (.cons (.ret (.band (.cons (.call "is_plain_ray" (.cons (.v 1) .nil) [] .nil) (.cons (.cmp .Eq (.blt .len true (.cons (.v 1) .nil)) (.blt .len true (.cons (.ix (.v 0) (.k (.int 0))) .nil))) .nil)))) .nil)
def checkRayB : Ss := (.cons (.ife (.bnot (.call "fits_ray" (.cons (.v 0) (.cons (.v 1) .nil)) [] .nil)) (.cons (.raise "InvalidRay" (.cons (.v 1) .nil)) .nil) .nil) .nil)
def checkGraphB : Ss := (.cons (.ife (.bnot (.call "is_graph" (.cons (.v 0) .nil) [] .nil)) (.cons (.raise "InvalidGraph" (.cons (.v 0) .nil)) .nil) .nil) .nil)
structure RayT (T : Tab) : Prop extends GraphT T where
  divisor : ∃ fz, T "divisor_of" = some ((["items"] : List Str), (⟨1, 3, true, fz, divB⟩ : Fn))
  plain : ∃ fz, T "is_plain_ray" = some ((["value"] : List Str), (⟨1, 2, true, fz, plainRayB⟩ : Fn))
  fits : ∃ fz, T "fits_ray" = some ((["graph", "value"] : List Str), (⟨2, 2, true, fz, fitsRayB⟩ : Fn))
  checkR : ∃ fz, T "check_ray" = some ((["graph", "ray"] : List Str), (⟨2, 2, true, fz, checkRayB⟩ : Fn))
  checkG : ∃ fz, T "check_graph" = some ((["graph"] : List Str), (⟨1, 1, true, fz, checkGraphB⟩ : Fn))
section
variable {T : Tab} {n : Nat} {S : Store} {d : D}
theorem plain_ray_ok (t : RayT T) (hn : 3 ≤ n) (h : vD S d = true) : phi T n "is_plain_ray" [d] [] [] S = .ok (.bl (isRayD d)) S := by
  obtain ⟨n, rfl⟩ : ∃ m, n = m + 1 := ⟨n - 1, by omega⟩
  obtain ⟨fz, p⟩ := t.plain
  obtain ⟨fz', q⟩ := t.divisor
  rw [phi_whole p rfl]
  have hi := integers_ok t.toGraphT.toShapeT (n := n) (by omega) h
  have sd := v_slot h
  by_cases z : isIntsD d = true
  · have e := ints_eq z
    generalize toInts d = l at e
    subst e
    have hl : lenOf S (iD l) = some l.length := by show some _ = _; rw [List.length_map]
    have dv := divisor_ok (T := T) (n := n) (S := S) q (by omega) l
    have bl := blt_len hl
    rw [z] at hi
    unfold isRayD
    rw [z, items_iD, toInts_iD, List.length_map]
    have c : evE (phi T n) plainRayC [some (iD l), none] S = .ok (.lst ((l.filter (fun x => decide (x ≠ 0))).map .int)) S := by
      rw [← filter_flat]
      have hlen : l.length ≤ 16777216 := by have := (v_tup h).1; simpa using this
      refine comp_flatC (F := D.int) (l := l) (g := fun x => if x ≠ 0 then [D.int x] else []) (src := .items (l.map .int)) (by simp [srcOf]) rfl ?_ fun x hx => ?_
      · rw [filter_flat, List.length_map]
        exact Nat.le_trans (List.length_filter_le _ _) hlen
      · by_cases zx : x = 0
        · simp [cmpI, zx]
        · simp [cmpI, zx]
    by_cases h1 : 1 ≤ l.length
    · by_cases h8 : l.length ≤ 8
      · by_cases hg : gcdL l 0 = 1
        · have hg' : ((gcdL l 0 : Nat) : Int) = 1 := by omega
          cases ef : l.filter (fun x => decide (x ≠ 0)) with
          | nil => rw [gcdL_zero ef] at hg; cases hg
          | cons x r =>
            rw [ef] at c
            have ex : firstNZ l = x := by unfold firstNZ; rw [ef]; rfl
            have a0 : L2.atI (D.int x :: r.map .int) 0 = some (.int x) := by
              have := atI_nat (xs := D.int x :: r.map .int) (k := 0) (by simp)
              exact this
            simp [plainRayB, startE, hi, bl, dv, cmpI, h1, h8, hg, hg', ex, c, a0, show (1 : Int) ≤ l.length by omega, show (l.length : Int) ≤ 8 by omega]
        · have hg' : ¬ ((gcdL l 0 : Nat) : Int) = 1 := by omega
          simp [plainRayB, startE, hi, bl, dv, cmpI, h1, h8, hg, hg', show (1 : Int) ≤ l.length by omega, show (l.length : Int) ≤ 8 by omega]
      · simp [plainRayB, startE, hi, bl, cmpI, h1, h8, show (1 : Int) ≤ l.length by omega, show ¬ (l.length : Int) ≤ 8 by omega]
    · simp [plainRayB, startE, hi, bl, cmpI, h1, show ¬ (1 : Int) ≤ l.length by omega]
  · have z' : isIntsD d = false := by simpa using z
    rw [z'] at hi
    have : isRayD d = false := by unfold isRayD; rw [z']; rfl
    simp [plainRayB, startE, sd, hi, this]
def fitsD (m : Nat) (d : D) : Bool := isRayD d && decide ((itemsD d).length = m)
theorem fits_ok (t : RayT T) (hn : 4 ≤ n) (h : vD S d = true) (ms : List Int) (ws : List (List Int)) : phi T n "fits_ray" [gD ms ws, d] [] [] S = .ok (.bl (fitsD ms.length d)) S := by
  obtain ⟨n, rfl⟩ : ∃ m, n = m + 1 := ⟨n - 1, by omega⟩
  obtain ⟨fz, p⟩ := t.fits
  rw [phi_whole p rfl]
  have sd := v_slot h
  have hp := plain_ray_ok t (n := n) (S := S) (by omega) h
  by_cases z : isRayD d = true
  · obtain ⟨l, rfl, hr⟩ := ray_is z
    have bl := blt_len (S := S) (d := iD l) (k := l.length) (by show some _ = _; rw [List.length_map])
    have bm := blt_len (S := S) (d := iD ms) (k := ms.length) (by show some _ = _; rw [List.length_map])
    rw [z] at hp
    have e : fitsD ms.length (iD l) = decide ((l.length : Int) = ms.length) := by
      unfold fitsD
      rw [z, items_iD, List.length_map, Bool.true_and]
      exact decide_eq_decide.mpr (by omega)
    simp [fitsRayB, startE, hp, bl, bm, at0, cmpI, e]
  · have z' : isRayD d = false := by simpa using z
    rw [z'] at hp
    have e : fitsD ms.length d = false := by unfold fitsD; rw [z']; rfl
    simp [fitsRayB, startE, hp, sd, e]
theorem fits_iff {m : Nat} {d : D} : fitsD m d = true ↔ ∃ l, d = iD l ∧ RayOk l ∧ l.length = m := by
  constructor
  · intro h
    unfold fitsD at h
    rw [Bool.and_eq_true] at h
    obtain ⟨l, rfl, hr⟩ := ray_is h.1
    exact ⟨l, rfl, hr, by simpa [items_iD] using h.2⟩
  · rintro ⟨l, rfl, hr, hl⟩
    unfold fitsD
    rw [ray_iff.mpr hr, items_iD, List.length_map]
    simpa using hl
theorem check_graph_ok (t : RayT T) (hn : 6 ≤ n) (h : vD S d = true) (hg : isGraphD d = true) : phi T n "check_graph" [d] [] [] S = .ok .non S := by
  obtain ⟨n, rfl⟩ : ∃ m, n = m + 1 := ⟨n - 1, by omega⟩
  obtain ⟨fz, p⟩ := t.checkG
  rw [phi_whole p rfl]
  have sd := v_slot h
  have e := graph_ok t.toGraphT (n := n) (by omega) h
  rw [hg] at e
  simp [checkGraphB, startE, sd, e]
theorem check_graph_no (t : RayT T) (hn : 6 ≤ n) (h : vD S d = true) (hg : isGraphD d = false) : phi T n "check_graph" [d] [] [] S = .exc "InvalidGraph" [fldN "InvalidGraph"] [d] S := by
  obtain ⟨n, rfl⟩ : ∃ m, n = m + 1 := ⟨n - 1, by omega⟩
  obtain ⟨fz, p⟩ := t.checkG
  rw [phi_whole p rfl]
  have sd := v_slot h
  have e := graph_ok t.toGraphT (n := n) (by omega) h
  rw [hg] at e
  simp [checkGraphB, startE, sd, e]
theorem check_ray_ok (t : RayT T) (hn : 5 ≤ n) {ms l : List Int} {ws : List (List Int)} (h : vD S (iD l) = true) (hr : RayOk l) (hl : l.length = ms.length) : phi T n "check_ray" [gD ms ws, iD l] [] [] S = .ok .non S := by
  obtain ⟨n, rfl⟩ : ∃ m, n = m + 1 := ⟨n - 1, by omega⟩
  obtain ⟨fz, p⟩ := t.checkR
  rw [phi_whole p rfl]
  have e := fits_ok t (n := n) (by omega) h ms ws
  rw [fits_iff.mpr ⟨l, rfl, hr, hl⟩] at e
  simp [checkRayB, startE, e]
theorem check_ray_no (t : RayT T) (hn : 5 ≤ n) {ms : List Int} {ws : List (List Int)} (h : vD S d = true) (hr : fitsD ms.length d = false) : phi T n "check_ray" [gD ms ws, d] [] [] S = .exc "InvalidRay" [fldN "InvalidRay"] [d] S := by
  obtain ⟨n, rfl⟩ : ∃ m, n = m + 1 := ⟨n - 1, by omega⟩
  obtain ⟨fz, p⟩ := t.checkR
  rw [phi_whole p rfl]
  have sd := v_slot h
  have e := fits_ok t (n := n) (by omega) h ms ws
  rw [hr] at e
  simp [checkRayB, startE, sd, e]
end
theorem meth_append {S : Store} {r : Nat} {xs : List D} (h : S[r]? = some (.lst xs)) (hl : xs.length < 16777216) (x : D) : meth .append (.ref r) [x] S = .ok .non (S.set r (.lst (xs ++ [x]))) := by
  show (match S[r]? with | some (.lst xs) => methL .append r xs [x] S | _ => .bad) = _
  rw [h]
  exact if_pos (show xs.length < line from hl)
def withinB : Ss := (.cons (.ret (.band (.cons (.call "is_integer" (.cons (.v 0) .nil) [] .nil) (.cons (.chain .LtE .LtE (.v 1) (.v 0) (.v 2)) .nil)))) .nil)
def inD (lo hi : Int) : D → Bool | .int i => decide (lo ≤ i) && decide (i ≤ hi) | _ => false
theorem within_ok {T : Tab} {fz : Bool} (p : T "is_within" = some ((["value", "low", "high"] : List Str), (⟨3, 3, true, fz, withinB⟩ : Fn))) (t : ShapeT T) {n : Nat} (hn : 2 ≤ n) {S : Store} {d : D} (h : vD S d = true) (lo hi : Int) :
    phi T n "is_within" [d, .int lo, .int hi] [] [] S = .ok (.bl (inD lo hi d)) S := by
  obtain ⟨n, rfl⟩ : ∃ m, n = m + 1 := ⟨n - 1, by omega⟩
  rw [phi_whole p rfl]
  have e := integer_ok t (n := n) (by omega) h
  have sd := v_slot h
  cases d with
  | int i =>
    have e : phi T n "is_integer" [.int i] [] [] S = .ok (.bl true) S := e
    by_cases z : lo ≤ i
    · simp [withinB, startE, e, cmpI, z, inD]
    · simp [withinB, startE, e, cmpI, z, inD]
  | _ =>
    simp only [isIntD] at e
    simp [withinB, startE, sd, e, inD]
end Mp
/-! Pl, part L: slices; data that are alike with themselves. -/
namespace Mp
open PySem
theorem okI (k : Nat) {l : List Int} (h : l.length ≤ 1000) : okD (k + 2) (iD l) = true := by
  show (decide ((l.map D.int).length ≤ 16777216) && (l.map D.int).all (okD (k + 1))) = true
  rw [Bool.and_eq_true, List.all_eq_true]
  refine ⟨decide_eq_true (by rw [List.length_map]; omega), fun x hx => ?_⟩
  obtain ⟨i, _, rfl⟩ := List.mem_map.mp hx
  rfl
theorem okT (k : Nat) {xs : List D} (h : xs.length ≤ 1000) (hx : ∀ x ∈ xs, okD k x = true) : okD (k + 1) (.tup xs) = true := by
  show (decide (xs.length ≤ 16777216) && xs.all (okD k)) = true
  rw [Bool.and_eq_true, List.all_eq_true]
  exact ⟨decide_eq_true (by omega), hx⟩
theorem okL (k : Nat) {xs : List D} (h : xs.length ≤ 1000) (hx : ∀ x ∈ xs, okD k x = true) : okD (k + 1) (.lst xs) = true := okT k h hx
theorem okM (k : Nat) {G : List (List Int)} (h : G.length ≤ 1000) (hr : ∀ r ∈ G, r.length ≤ 1000) : okD (k + 3) (mD G) = true := by
  refine okT (k + 2) (by rw [List.length_map]; exact h) fun x hx => ?_
  obtain ⟨r, h', rfl⟩ := List.mem_map.mp hx
  exact okI k (hr r h')
theorem ok2 {a b : D} {k : Nat} (ha : okD k a = true) (hb : okD k b = true) : okD (k + 1) (.lst [a, b]) = true := okL k (by simp) fun x hx => by
  rcases List.mem_cons.mp hx with rfl | hx
  · exact ha
  · rcases List.mem_cons.mp hx with rfl | hx
    · exact hb
    · cases hx
theorem cut_to (xs : List D) (k : Nat) : cutD xs none (some (k : Int)) = xs.take k := by
  unfold cutD
  have e0 : HT.sIx xs.length 0 none = 0 := rfl
  have e1 : HT.sIx xs.length xs.length (some (k : Int)) = min k xs.length := HT.sIx_nat _ _ _
  rw [e0, e1, List.drop_zero, Nat.sub_zero]
  rw [List.take_eq_take_iff]
  omega
theorem cut_from (xs : List D) (k : Nat) : cutD xs (some (k : Int)) none = xs.drop k := by
  unfold cutD
  have e0 : HT.sIx xs.length xs.length none = xs.length := rfl
  have e1 : HT.sIx xs.length 0 (some (k : Int)) = min k xs.length := HT.sIx_nat _ _ _
  rw [e0, e1]
  rcases Nat.le_total k xs.length with h | h
  · rw [Nat.min_eq_left h, List.take_of_length_le (by rw [List.length_drop]; omega)]
  · rw [Nat.min_eq_right h, Nat.sub_self, List.take_zero, List.drop_eq_nil_of_le h]
theorem cut_ends (xs : List D) : cutD xs none (some (-1)) = xs.dropLast := by
  unfold cutD
  have e0 : HT.sIx xs.length 0 none = 0 := rfl
  have e1 : HT.sIx xs.length xs.length (some (-1)) = xs.length - 1 := by
    show (if (-1 : Int) < 0 then ((-1 : Int) + (xs.length : Int)).toNat else min (-1 : Int).toNat xs.length) = _
    rw [if_pos (by omega)]
    omega
  rw [e0, e1, List.drop_zero, Nat.sub_zero, List.dropLast_eq_take]
end Mp
/-! Pl, part M: the ray of a row; a walk over a list of the store. -/
namespace Mp
open PySem
section
variable {f : D → Env → Store → F}
/-- a for over a list of the store that its turns leave as it is -/
theorem liveF_inv (I : Nat → Env → Store → Prop) {xs : List D} {q : Nat} (hk : ∀ i ρ S, I i ρ S → lstOf S (.ref q) = some xs) (h : ∀ i (hi : i < xs.length) ρ S, I i ρ S → ∃ ρ' S', (f xs[i] ρ S = .nx ρ' S' ∨ f xs[i] ρ S = .ct ρ' S') ∧ I (i + 1) ρ' S') :
    ∀ (m i : Nat) {ρ : Env} {S : Store}, m + i = xs.length → I i ρ S → ∃ ρ' S', liveF f q m i ρ S = .nx ρ' S' ∧ I xs.length ρ' S'
  | 0, i, ρ, S, e, h0 => by
    have hi : i = xs.length := by omega
    subst hi
    refine ⟨ρ, S, ?_, h0⟩
    unfold liveF
    rw [hk _ _ _ h0]
    exact if_pos (Nat.le_refl _)
  | m + 1, i, ρ, S, e, h0 => by
    have hi : i < xs.length := by omega
    obtain ⟨ρ1, S1, e1, i1⟩ := h i hi ρ S h0
    obtain ⟨ρ2, S2, e2, i2⟩ := liveF_inv I hk h m (i + 1) (by omega) i1
    refine ⟨ρ2, S2, ?_, i2⟩
    unfold liveF
    rw [hk _ _ _ h0]
    dsimp only
    rw [List.getElem?_eq_getElem hi]
    dsimp only
    rcases e1 with e1 | e1 <;> rw [e1] <;> exact e2
end
theorem each_live {Φ : Phi} {v : Nat} {e : E} {b : Ss} {ρ ρ' : Env} {S S1 S' : Store} {q : Nat} {xs : List D} (he : evE Φ e ρ S = .ok (.ref q) S1) (hq : S1[q]? = some (.lst xs)) (h : liveF (fun x ρ S => evSs Φ b (ρ.set v (some x)) S) q xs.length 0 ρ S1 = .nx ρ' S') : evS Φ (.each (.n v) (.e e) b) ρ S = .nx ρ' S' := by
  have hs : srcOf S1 (.ref q) = some (.live q) := by simp only [srcOf, hq]
  have hl : lstOf S1 (.ref q) = some xs := by simp only [lstOf, hq]
  rw [s_each, i_e, he, R.bind_ok, hs]
  refine Eq.trans ?_ h
  show (match lstOf S1 (.ref q) with | some xs => liveF _ q xs.length 0 ρ S1 | none => .bad) = _
  rw [hl]
  refine congrArg (fun f => liveF f q xs.length 0 ρ S1) ?_
  funext x ρ S
  rw [t_n]
  rfl
/-! ### the ray of a row -/
def sgnL (l : List Int) : Int := if 0 < firstNZ l then 1 else -1
def rayL (l : List Int) : List Int := l.map fun x => sgnL l * x.fdiv ((gcdL l 0 : Nat) : Int)
theorem rayL_len (l : List Int) : (rayL l).length = l.length := List.length_map _
theorem gcdL_pos {l : List Int} (h : ∃ x ∈ l, x ≠ 0) : 0 < gcdL l 0 := by
  obtain ⟨x, hx, hz⟩ := h
  have hd := (gcdL_dvd l 0).2 x hx
  rcases Nat.eq_zero_or_pos (gcdL l 0) with z | z
  · rw [z] at hd
    have := Nat.eq_zero_of_zero_dvd hd
    omega
  · exact z
theorem gcdL_le {l : List Int} {b : Nat} (h : ∃ x ∈ l, x ≠ 0) (hb : ∀ x ∈ l, x.natAbs < b) : gcdL l 0 < b := by
  obtain ⟨x, hx, hz⟩ := h
  have hd := (gcdL_dvd l 0).2 x hx
  exact Nat.lt_of_le_of_lt (Nat.le_of_dvd (by omega) hd) (hb x hx)
theorem sgnL_cases (l : List Int) : sgnL l = 1 ∨ sgnL l = -1 := by
  unfold sgnL
  by_cases z : 0 < firstNZ l
  · rw [if_pos z]; exact .inl rfl
  · rw [if_neg z]; exact .inr rfl
/-- an item of the row, by its share -/
theorem share {l : List Int} {x : Int} (hx : x ∈ l) : x = (gcdL l 0 : Int) * x.fdiv ((gcdL l 0 : Nat) : Int) := by
  have hd : ((gcdL l 0 : Nat) : Int) ∣ x := Int.ofNat_dvd_left.mpr ((gcdL_dvd l 0).2 x hx)
  rw [Int.fdiv_eq_ediv_of_nonneg _ (by omega), Int.mul_ediv_cancel' hd]
theorem filter_ray {l : List Int} : ∀ (m : List Int), (∀ x ∈ m, x ∈ l) → ∀ s : Int, s = 1 ∨ s = -1 → 0 < gcdL l 0 → (m.map fun x => s * x.fdiv ((gcdL l 0 : Nat) : Int)).filter (fun x => decide (x ≠ 0)) = (m.filter (fun x => decide (x ≠ 0))).map fun x => s * x.fdiv ((gcdL l 0 : Nat) : Int)
  | [], _, s, _, _ => rfl
  | x :: m, hm, s, hs, hg => by
    have ih := filter_ray m (fun y hy => hm y (List.mem_cons_of_mem _ hy)) s hs hg
    have hx := share (hm x List.mem_cons_self)
    rw [List.map_cons, List.filter_cons, List.filter_cons, ih]
    generalize hyy : x.fdiv ((gcdL l 0 : Nat) : Int) = y at *
    by_cases z : x = 0
    · have y0 : y = 0 := by
        rw [z] at hx
        rcases Int.mul_eq_zero.mp hx.symm with h | h
        · omega
        · exact h
      simp [z, y0]
    · have y0 : y ≠ 0 := fun e => z (by rw [hx, e, Int.mul_zero])
      have y1 : s * y ≠ 0 := fun e => (Int.mul_eq_zero.mp e).elim (fun h => by omega) y0
      simp [z, y1, hyy]
theorem rayL_ok {l : List Int} (h1 : 1 ≤ l.length) (h8 : l.length ≤ 8) (h : ∃ x ∈ l, x ≠ 0) : RayOk (rayL l) where
  pos := by rw [rayL_len]; exact h1
  most := by rw [rayL_len]; exact h8
  one := by
    have hg := gcdL_pos h
    have hd : gcdL l 0 * gcdL (rayL l) 0 ∣ gcdL l 0 := by
      refine dvd_gcdL l 0 (Nat.dvd_zero _) fun x hx => ?_
      have hy := (gcdL_dvd (rayL l) 0).2 (sgnL l * x.fdiv ((gcdL l 0 : Nat) : Int)) (List.mem_map.mpr ⟨x, hx, rfl⟩)
      have e : (sgnL l * x.fdiv ((gcdL l 0 : Nat) : Int)).natAbs = (x.fdiv ((gcdL l 0 : Nat) : Int)).natAbs := by
        rcases sgnL_cases l with s | s <;> rw [s] <;> omega
      rw [e] at hy
      have hx' := congrArg Int.natAbs (share hx)
      rw [Int.natAbs_mul, Int.natAbs_natCast] at hx'
      rw [hx']
      exact Nat.mul_dvd_mul_left _ hy
    have := Nat.le_of_dvd hg hd
    have h0 : gcdL (rayL l) 0 ≠ 0 := fun e => by
      rw [e, Nat.mul_zero] at hd
      have := Nat.eq_zero_of_zero_dvd hd
      omega
    rcases Nat.lt_or_ge 1 (gcdL (rayL l) 0) with z | z
    · have := Nat.mul_le_mul_left (gcdL l 0) z
      omega
    · omega
  first := by
    have hg := gcdL_pos h
    obtain ⟨x, hx, hz⟩ := h
    have ef := filter_ray l (fun _ h => h) (sgnL l) (sgnL_cases l) hg
    have e : firstNZ (rayL l) = ((l.filter (fun x => decide (x ≠ 0))).map fun x => sgnL l * x.fdiv ((gcdL l 0 : Nat) : Int)).headD 0 := by
      unfold firstNZ
      rw [← ef]
      rfl
    cases ec : l.filter (fun x => decide (x ≠ 0)) with
    | nil =>
      have : x ∈ l.filter (fun x => decide (x ≠ 0)) := List.mem_filter.mpr ⟨hx, by simpa using hz⟩
      rw [ec] at this
      cases this
    | cons y r =>
      rw [e, ec]
      show 0 < sgnL l * y.fdiv ((gcdL l 0 : Nat) : Int)
      have hy : y ∈ l.filter (fun x => decide (x ≠ 0)) := by rw [ec]; exact List.mem_cons_self
      have hy2 := List.mem_filter.mp hy
      have y0 : y ≠ 0 := by simpa using hy2.2
      have sh := share hy2.1
      have fn : firstNZ l = y := by unfold firstNZ; rw [ec]; rfl
      unfold sgnL
      rw [fn]
      generalize y.fdiv ((gcdL l 0 : Nat) : Int) = z at *
      have gp : (0 : Int) < (gcdL l 0 : Int) := by omega
      by_cases yp : 0 < y
      · rw [if_pos yp, Int.one_mul]
        rw [sh] at yp
        exact Int.pos_of_mul_pos_right yp gp
      · rw [if_neg yp]
        have z0 : z ≠ 0 := fun e => y0 (by rw [sh, e, Int.mul_zero])
        have zn : ¬ 0 < z := fun zp => yp (by rw [sh]; exact Int.mul_pos gp zp)
        omega
theorem rayL_bd {l : List Int} {b : Nat} (hb : ∀ x ∈ l, x.natAbs < b) (h : ∃ x ∈ l, x ≠ 0) : ∀ y ∈ rayL l, y.natAbs < b := by
  intro y hy
  obtain ⟨x, hx, rfl⟩ := List.mem_map.mp hy
  have hg := gcdL_pos h
  have sh := congrArg Int.natAbs (share hx)
  rw [Int.natAbs_mul, Int.natAbs_natCast] at sh
  have e : (sgnL l * x.fdiv ((gcdL l 0 : Nat) : Int)).natAbs = (x.fdiv ((gcdL l 0 : Nat) : Int)).natAbs := by
    rcases sgnL_cases l with s | s <;> rw [s] <;> omega
  rw [e]
  have := hb x hx
  have h2 := Nat.le_mul_of_pos_left (x.fdiv ((gcdL l 0 : Nat) : Int)).natAbs hg
  omega
end Mp
/-! Pl, part N: the law's own ray of a row; draws, one each. -/
namespace Mp
open PySem
theorem eachR_inv1 {f : D → Store → R (List D)} {P : D → Prop} : ∀ {xs : List D} (I : Nat → Store → Prop) (h : ∀ i (hi : i < xs.length) S, I i S → ∃ y S', f xs[i] S = .ok [y] S' ∧ I (i + 1) S' ∧ P y) {S : Store}, I 0 S →
    ∃ ys S', eachR f xs S = .ok ys S' ∧ I xs.length S' ∧ ys.length = xs.length ∧ ∀ y ∈ ys, P y
  | [], I, h, S, h0 => ⟨[], S, rfl, h0, rfl, fun y hy => by cases hy⟩
  | x :: xs, I, h, S, h0 => by
    obtain ⟨y, S1, e, i1, p1⟩ := h 0 (by simp) S h0
    obtain ⟨zs, S2, e2, i2, l2, p2⟩ := eachR_inv1 (P := P) (fun i => I (i + 1)) (fun i hi S hI => h (i + 1) (by simpa using hi) S hI) i1
    refine ⟨[y] ++ zs, S2, ?_, by simpa using i2, by simp; omega, fun z hz => (List.mem_append.mp hz).elim (fun q => by rw [List.mem_singleton.mp q]; exact p1) (p2 z)⟩
    have e : f x S = .ok [y] S1 := e
    simp only [eachR, e, R.bind_ok, e2]
section
variable {Φ : Phi} {ρ : Env} {S : Store} {fz : Bool} {vs : List Nat} {t : T} {it : I} {cond : Es} {rest : Cl} {src : Src}
theorem comp_draw1 {xs : List D} (I : Nat → Store → Prop) (P : D → Prop) (h1 : evI Φ it ρ S = .ok (.items xs) S) (h0 : I 0 S) (hl : xs.length ≤ 16777216)
    (h3 : ∀ i (hi : i < xs.length) S, I i S → ∃ y S', (match evT Φ t xs[i] (wipe ρ vs) S with | .ok ρ' S => (evConds Φ cond ρ' S).bind fun b S => if b then evCl Φ rest ρ' S else .ok [] S | .bad => .bad) = .ok [y] S' ∧ I (i + 1) S' ∧ P y) :
    ∃ ys S', evE Φ (.comp fz vs t it cond rest) ρ S = alloc fz ys S' ∧ I xs.length S' ∧ ys.length = xs.length ∧ ∀ y ∈ ys, P y := by
  rw [e_comp, h1, R.bind_ok]
  have key : ∀ f : D → Store → R (List D), (∀ i (hi : i < xs.length) S, I i S → ∃ y S', f xs[i] S = .ok [y] S' ∧ I (i + 1) S' ∧ P y) →
      ∃ ys S', ((noExc (srcR f (.items xs) S)).bind fun xs S => if xs.length ≤ line then alloc fz xs S else .bad) = alloc fz ys S' ∧ I xs.length S' ∧ ys.length = xs.length ∧ ∀ y ∈ ys, P y := by
    intro f hf
    obtain ⟨ys, S', e, i2, l2, p2⟩ := eachR_inv1 (P := P) I hf h0
    refine ⟨ys, S', ?_, i2, l2, p2⟩
    have e : srcR f (.items xs) S = .ok ys S' := e
    rw [e, noExc_ok, R.bind_ok, if_pos (show ys.length ≤ line from by rw [l2]; exact hl)]
  exact key _ h3
end
def lrayC1 : E := (.comp true [2] (.n 2) (.e (.v 0)) .nil (.elt (.bin .Mult true (.v 3) (.bin .FloorDiv true (.v 2) (.v 1)))))
def lrayC2 : E := (.comp true [2] (.n 2) (.e (.v 0)) (.cons (.cmp .NotEq (.v 2) (.k (.int 0))) .nil) (.elt (.v 2)))
def lrayT : Ss := (.cons (.asg (.n 1) (.call "_law_gcd" (.cons (.v 1) (.cons (.v 2) .nil)) [] .nil)) .nil)
def lrayB : Ss := (.cons (.asg (.n 1) (.k (.int 0))) (.cons (.each (.n 2) (.e (.v 0)) lrayT) (.cons (.asg (.n 3) (.ife (.cmp .Gt (.ix lrayC2 (.k (.int 0))) (.k (.int 0))) (.k (.int 1)) (.neg (.k (.int 1))))) (.cons (.ret (.blt .tuple true (.cons lrayC1 .nil))) .nil))))
theorem gcdL_append (l : List Int) (x : Int) (a : Nat) : gcdL (l ++ [x]) a = Nat.gcd (gcdL l a) x.natAbs := by
  unfold gcdL
  rw [List.foldl_append]
  rfl
theorem lray_ok {T : Tab} {fz fz' : Bool} (p : T "_law_ray" = some ((["row"] : List Str), (⟨1, 4, true, fz, lrayB⟩ : Fn))) (pg : T "_law_gcd" = some ((["one", "other"] : List Str), (⟨2, 3, true, fz', gcdB⟩ : Fn))) {n : Nat} (hn : 2 ≤ n) {S : Store} {q : Nat} {l : List Int}
    (hS : S[q]? = some (.lst (l.map .int))) (hl : l.length ≤ 1000) (hb : ∀ x ∈ l, x.natAbs < 2 ^ 60) (h : ∃ x ∈ l, x ≠ 0) : phi T n "_law_ray" [.ref q] [] [] S = .ok (iD (rayL l)) S := by
  obtain ⟨n, rfl⟩ : ∃ m, n = m + 1 := ⟨n - 1, by omega⟩
  rw [phi_whole p rfl]
  have lq : lstOf S (.ref q) = some (l.map .int) := by simp only [lstOf, hS]
  obtain ⟨ρ', S', e, e2, rfl, eS⟩ := liveF_inv (f := fun x ρ S => evSs (phi T n) lrayT (ρ.set 2 (some x)) S) (q := q) (xs := l.map D.int)
    (fun i ρ S' => ∃ e2, ρ = [some (.ref q), some (.int ((gcdL (l.take i) 0 : Nat) : Int)), e2, none] ∧ S' = S) (fun i ρ S' hI => by
      obtain ⟨_, _, rfl⟩ := hI
      exact lq) (fun i hi ρ S' hI => by
      obtain ⟨e2, rfl, rfl⟩ := hI
      rw [List.length_map] at hi
      rw [List.getElem_map]
      have hg := gcd_ok (T := T) (n := n) (S := S') pg (by omega) (a := ((gcdL (l.take i) 0 : Nat) : Int)) (b := l[i]) (bd_mono (hb _ (List.getElem_mem hi)) (by omega))
      refine ⟨_, _, .inl ?_, some (.int l[i]), rfl, rfl⟩
      rw [List.take_succ_eq_append_getElem hi, gcdL_append]
      simp [lrayT, hg]) (l.map D.int).length 0 (ρ := [some (.ref q), some (.int 0), none, none]) (S := S) (by omega) ⟨none, by simp [gcdL], rfl⟩
  rw [List.length_map, List.take_length, eS] at e
  have hgp := gcdL_pos h
  have hgl := gcdL_le h hb
  obtain ⟨src, q1, q2⟩ := seq_src (S := S) (d := .ref q) (xs := l.map D.int) (by simp only [seqOf, lq])
  have c2 : ∀ e2, evE (phi T n) lrayC2 [some (.ref q), some (.int ((gcdL l 0 : Nat) : Int)), e2, none] S = .ok (.lst ((l.filter (fun x => decide (x ≠ 0))).map .int)) S := fun e2 => by
    rw [← filter_flat]
    refine comp_flatC (F := D.int) (l := l) (g := fun x => if x ≠ 0 then [D.int x] else []) (src := src) ?_ q2 ?_ fun x hx => ?_
    · rw [i_e, e_v]
      show (match srcOf S (.ref q) with | some s => R.ok s S | none => .bad) = _
      rw [q1]
    · rw [filter_flat, List.length_map]
      exact Nat.le_trans (List.length_filter_le _ _) (by omega)
    · by_cases zx : x = 0
      · simp [cmpI, zx]
      · simp [cmpI, zx]
  have c1 : ∀ e2, evE (phi T n) lrayC1 [some (.ref q), some (.int ((gcdL l 0 : Nat) : Int)), e2, some (.int (sgnL l))] S = .ok (.lst ((rayL l).map .int)) S := fun e2 => by
    have er : (rayL l).map D.int = l.map fun x => .int (sgnL l * x.fdiv ((gcdL l 0 : Nat) : Int)) := by simp [rayL]
    rw [er]
    refine comp_list (F := D.int) (l := l) (src := src) ?_ q2 (by omega) fun x hx => ?_
    · rw [i_e, e_v]
      show (match srcOf S (.ref q) with | some s => R.ok s S | none => .bad) = _
      rw [q1]
    · have d := divOk_small (i := x) (j := ((gcdL l 0 : Nat) : Int)) (by omega) (by omega)
      have sb : (x.fdiv ((gcdL l 0 : Nat) : Int)).natAbs < 2 ^ 64 := by
        have sh := congrArg Int.natAbs (share hx)
        rw [Int.natAbs_mul, Int.natAbs_natCast] at sh
        have h1 := hb x hx
        have h2 := Nat.le_mul_of_pos_left (x.fdiv ((gcdL l 0 : Nat) : Int)).natAbs hgp
        omega
      have m : mulOk (sgnL l) (x.fdiv ((gcdL l 0 : Nat) : Int)) = true := mulOk_small (by rcases sgnL_cases l with s | s <;> rw [s] <;> decide) sb
      simp [binI, d, m]
  obtain ⟨x0, hx0, hz0⟩ := h
  have ef : ∃ y r, l.filter (fun x => decide (x ≠ 0)) = y :: r ∧ firstNZ l = y := by
    cases ec : l.filter (fun x => decide (x ≠ 0)) with
    | nil =>
      have : x0 ∈ l.filter (fun x => decide (x ≠ 0)) := List.mem_filter.mpr ⟨hx0, by simpa using hz0⟩
      rw [ec] at this
      cases this
    | cons y r => exact ⟨y, r, rfl, by unfold firstNZ; rw [ec]; rfl⟩
  obtain ⟨y, r, ef, fn⟩ := ef
  have a0 : L2.atI (D.int y :: r.map .int) 0 = some (.int y) := atI_nat (xs := D.int y :: r.map .int) (k := 0) (by simp)
  have run : evSs (phi T n) lrayB (startE 4 [.ref q]) S = .rt (iD (rayL l)) S := by
    refine (ss_step (ρ' := [some (.ref q), some (.int 0), none, none]) (S' := S) (by simp [startE])).trans ?_
    refine (ss_step (each_live (q := q) (xs := l.map D.int) (S1 := S) (by simp) hS (by rw [List.length_map]; exact e))).trans ?_
    refine (ss_step (ρ' := [some (.ref q), some (.int ((gcdL l 0 : Nat) : Int)), e2, some (.int (sgnL l))]) (S' := S) ?_).trans ?_
    · have c := c2 e2
      rw [ef] at c
      unfold sgnL
      rw [fn]
      by_cases z : 0 < y
      · simp [c, a0, cmpI, z]
      · simp [c, a0, cmpI, z]
    · simp [c1]
  rw [run]
  rfl
end Mp
/-! Pl, part O: a matrix in the store behind a box. -/
namespace Mp
open PySem
def mk (n : Nat) (f : Nat → Nat → Int) : List (List Int) := (List.range n).map fun i => (List.range n).map fun j => f i j
theorem mk_ent {n : Nat} {f : Nat → Nat → Int} {i j : Nat} (hi : i < n) (hj : j < n) : ent (mk n f) i j = f i j := by
  simp [ent, mk, List.getD_eq_getElem?_getD, hi, hj]
theorem get_cons {o : O} {S : Store} {k : Nat} : (o :: S)[k + 1]? = S[k]? := rfl
/-- the matrix of a function in the store, behind a box -/
def stS (b : O) (m : Nat) (f : Nat → Nat → Int) : Store := [b] ++ rowsO m (fun i j => .int (f i j)) ++ [.lst ((List.range m).map fun i => .ref (1 + i))]
theorem stS_row (b : O) {m : Nat} (f : Nat → Nat → Int) {i : Nat} (hi : i < m) : (stS b m f)[1 + i]? = some (.lst ((List.range m).map fun j => .int (f i j))) := rows_get (pre := [b]) _ hi
theorem stS_end (b : O) (m : Nat) (f : Nat → Nat → Int) : (stS b m f)[1 + m]? = some (.lst ((List.range m).map fun i => .ref (1 + i))) := rows_end [b] _ []
theorem stS_box (b : O) (m : Nat) (f : Nat → Nat → Int) : (stS b m f)[0]? = some b := rfl
theorem stS_setbox (b b' : O) (m : Nat) (f : Nat → Nat → Int) : (stS b m f).set 0 b' = stS b' m f := rfl
def updF (f : Nat → Nat → Int) (i j : Nat) (x : Int) (a b : Nat) : Int := if a = i ∧ b = j then x else f a b
theorem stS_set (b : O) {m : Nat} (f : Nat → Nat → Int) {i j : Nat} (hi : i < m) (hj : j < m) (x : Int) : (stS b m f).set (1 + i) (.lst (((List.range m).map fun j => D.int (f i j)).set j (.int x))) = stS b m (updF f i j x) := by
  have := rows_set (f := fun i j => D.int (f i j)) (pre := [b]) [.lst ((List.range m).map fun i => .ref (1 + i))] hi hj (.int x)
  refine this.trans ?_
  unfold stS
  congr 2
  refine rowsO_congr fun a b _ _ => ?_
  unfold updF
  split <;> rfl
theorem seq_ref {S : Store} {r : Nat} {xs : List D} (h : S[r]? = some (.lst xs)) : seqOf S (.ref r) = some xs := by
  show (match S[r]? with | some (.lst xs) => some xs | _ => none) = some xs
  rw [h]
theorem set_row {S : Store} {r : Nat} {xs : List D} (h : S[r]? = some (.lst xs)) {j : Nat} (hj : j < xs.length) (v : D) : setop (.ref r) (.int (j : Int)) v S = some (S.set r (.lst (xs.set j v))) := set_lstR h (ixN_nat hj) v
theorem at_refs {m i : Nat} (hi : i < m) : L2.atI ((List.range m).map fun i => D.ref (1 + i)) (i : Int) = some (.ref (1 + i)) := by
  rw [atI_nat (by simpa using hi)]
  simp
/-- rows of zeros made in the store -/
theorem zero_rows {Φ : Phi} {m v : Nat} {ρ : Env} (h8 : m ≤ 8) (o1 : O) (hi : evEs Φ (.cons (.v 1) .nil) ρ [o1] = .ok [.int (m : Int)] [o1]) (hv : ∀ x S', evE Φ (.v 1) ((ρ.set v none).set v (some x)) S' = .ok (.int (m : Int)) S') :
    evE Φ (.comp false [v] (.n v) (.rng (.cons (.v 1) .nil)) .nil (.elt (.bin .Mult false (.lst true (.cons (.k (.int 0)) .nil)) (.v 1)))) ρ [o1] = .ok (.ref (1 + m)) (stS o1 m fun _ _ => 0) := by
  have rm := rng_of (show m ≤ line from Nat.le_trans h8 (by decide))
  have := comp_rows (Φ := Φ) (S := [o1]) (t := .n v) (it := .rng (.cons (.v 1) .nil)) (rest := .elt (.bin .Mult false (.lst true (.cons (.k (.int 0)) .nil)) (.v 1))) (vs := [v]) (ρ := ρ) (F := fun i : Nat => D.int (i : Int)) (g := fun _ => List.replicate m (.int 0)) (l := List.range m) (by
    rw [← rngL_map]
    exact i_rng1 hi rm) (by simp; omega) (fun x hx S' => by
      have e := mul_lone (.int 0) (show m ≤ 1000 by omega) S'
      have hv' := hv (.int (x : Int)) S'
      simp only [t_n, wipe_cons, wipe_nil, setN_eq, cl_elt, e_bin, e_lst, es_cons_, es_nil_, e_k, R.bind_ok]
      rw [if_pos (by show 1 ≤ line; decide), alloc_fz, R.bind_ok, hv', R.bind_ok, e, R.bind_ok])
  refine this.trans ?_
  have e2 : (List.range m).map (fun _ => O.lst (List.replicate m (D.int 0))) = rowsO m fun i j => .int 0 := by
    unfold rowsO
    refine List.map_congr_left fun i _ => ?_
    congr 1
    simp [List.map_const']
  simp only [List.length_range, List.length_singleton, e2]
  rfl
end Mp
/-! Pl, part P: values with objects of the store within, alike with themselves. -/
namespace Mp
open PySem
/-- data whose references stand from lo on, below r -/
def okS (S : Store) (lo : Nat) : Nat → Nat → D → Bool
  | 0, _, _ => false
  | k + 1, r, d => match d with
    | .non => true | .bl _ => true | .int i => decide (i.natAbs < 2 ^ 1000)
    | .str s => shp (.str s)
    | .tup xs => decide (xs.length ≤ 16777216) && xs.all (okS S lo k r)
    | .lst xs => decide (xs.length ≤ 16777216) && xs.all (okS S lo k r)
    | .ref n => (decide (lo ≤ n) && decide (n < r)) && match S[n]? with
      | some (.lst xs) => decide (xs.length + 1 < 16777216) && xs.all (okS S lo k n)
      | some (.dic ks vs) => decide (ks.length + 1 < 16777216) && decide (ks.length = vs.length) && vs.all (okS S lo k n)
      | _ => false
    | _ => false
theorem all_imp {α : Type} {p q : α → Bool} {xs : List α} (h : ∀ x ∈ xs, p x = true → q x = true) (hx : xs.all p = true) : xs.all q = true := by
  rw [List.all_eq_true] at *
  exact fun x hm => h x hm (hx x hm)
theorem okS_ref {S : Store} {lo k r n : Nat} (h : okS S lo (k + 1) r (.ref n) = true) : lo ≤ n ∧ n < r ∧ ((∃ xs, S[n]? = some (.lst xs) ∧ xs.length + 1 < 16777216 ∧ ∀ x ∈ xs, okS S lo k n x = true) ∨ ∃ ks vs, S[n]? = some (.dic ks vs) ∧ ks.length + 1 < 16777216 ∧ ks.length = vs.length ∧ ∀ x ∈ vs, okS S lo k n x = true) := by
  have h : ((decide (lo ≤ n) && decide (n < r)) && (match S[n]? with
      | some (.lst xs) => decide (xs.length + 1 < 16777216) && xs.all (okS S lo k n)
      | some (.dic ks vs) => decide (ks.length + 1 < 16777216) && decide (ks.length = vs.length) && vs.all (okS S lo k n)
      | _ => false)) = true := h
  rw [Bool.and_eq_true, Bool.and_eq_true] at h
  obtain ⟨⟨h1, h2⟩, h3⟩ := h
  refine ⟨of_decide_eq_true h1, of_decide_eq_true h2, ?_⟩
  cases e : S[n]? with
  | none => rw [e] at h3; cases h3
  | some o =>
    rw [e] at h3
    cases o with
    | lst xs =>
      simp only [Bool.and_eq_true, decide_eq_true_eq, List.all_eq_true] at h3
      exact .inl ⟨xs, rfl, h3.1, h3.2⟩
    | dic ks vs =>
      simp only [Bool.and_eq_true, decide_eq_true_eq, List.all_eq_true] at h3
      exact .inr ⟨ks, vs, rfl, h3.1.1, h3.1.2, h3.2⟩
    | lok _ _ => cases h3
theorem okS_lst {S : Store} {lo k r n : Nat} {xs : List D} (h1 : lo ≤ n) (h2 : n < r) (e : S[n]? = some (.lst xs)) (hl : xs.length + 1 < 16777216) (h : ∀ x ∈ xs, okS S lo k n x = true) : okS S lo (k + 1) r (.ref n) = true := by
  show ((decide (lo ≤ n) && decide (n < r)) && (match S[n]? with
      | some (.lst xs) => decide (xs.length + 1 < 16777216) && xs.all (okS S lo k n)
      | some (.dic ks vs) => decide (ks.length + 1 < 16777216) && decide (ks.length = vs.length) && vs.all (okS S lo k n)
      | _ => false)) = true
  rw [e]
  simp only [Bool.and_eq_true, decide_eq_true_eq, List.all_eq_true]
  exact ⟨⟨h1, h2⟩, hl, h⟩
theorem okS_dic {S : Store} {lo k r n : Nat} {ks : List Key} {vs : List D} (h1 : lo ≤ n) (h2 : n < r) (e : S[n]? = some (.dic ks vs)) (hl : ks.length + 1 < 16777216) (hv : ks.length = vs.length) (h : ∀ x ∈ vs, okS S lo k n x = true) : okS S lo (k + 1) r (.ref n) = true := by
  show ((decide (lo ≤ n) && decide (n < r)) && (match S[n]? with
      | some (.lst xs) => decide (xs.length + 1 < 16777216) && xs.all (okS S lo k n)
      | some (.dic ks vs) => decide (ks.length + 1 < 16777216) && decide (ks.length = vs.length) && vs.all (okS S lo k n)
      | _ => false)) = true
  rw [e]
  simp only [Bool.and_eq_true, decide_eq_true_eq, List.all_eq_true]
  exact ⟨⟨h1, h2⟩, ⟨hl, hv⟩, h⟩
theorem okS_seq {S : Store} {lo k r : Nat} {xs : List D} (h : okS S lo (k + 1) r (.tup xs) = true) : xs.length ≤ 16777216 ∧ ∀ x ∈ xs, okS S lo k r x = true := by
  have h : (decide (xs.length ≤ 16777216) && xs.all (okS S lo k r)) = true := h
  simpa only [Bool.and_eq_true, decide_eq_true_eq, List.all_eq_true] using h
theorem okS_tup {S : Store} {lo k r : Nat} {xs : List D} (hl : xs.length ≤ 16777216) (h : ∀ x ∈ xs, okS S lo k r x = true) : okS S lo (k + 1) r (.tup xs) = true := by
  show (decide (xs.length ≤ 16777216) && xs.all (okS S lo k r)) = true
  simpa only [Bool.and_eq_true, decide_eq_true_eq, List.all_eq_true] using ⟨hl, h⟩
/-- what stands from lo to r may not change -/
theorem okS_keep {S S' : Store} {lo lo' : Nat} (hlo : lo' ≤ lo) : ∀ {k r r' : Nat} {d : D}, r ≤ r' → (∀ n, lo ≤ n → n < r → S'[n]? = S[n]?) → okS S lo k r d = true → okS S' lo' k r' d = true
  | 0, _, _, _, _, _, h => by cases h
  | k + 1, r, r', d, hr, h, hd => by
    have all : ∀ {xs : List D}, (∀ x ∈ xs, okS S lo k r x = true) → ∀ x ∈ xs, okS S' lo' k r' x = true := fun hx x hm => okS_keep hlo hr h (hx x hm)
    cases d with
    | tup xs => obtain ⟨h1, h2⟩ := okS_seq hd; exact okS_tup h1 (all h2)
    | lst xs => obtain ⟨h1, h2⟩ := okS_seq (xs := xs) hd; exact okS_tup (xs := xs) h1 (all h2)
    | dic ks vs => cases hd
    | non => rfl
    | bl _ => rfl
    | int _ => exact hd
    | str s => exact hd
    | ref n =>
      obtain ⟨h1, h2, ⟨xs, e, hl, hx⟩ | ⟨ks, vs, e, hl, hv, hx⟩⟩ := okS_ref hd
      · exact okS_lst (by omega) (by omega) ((h n h1 h2).trans e) hl fun x hm => okS_keep hlo (Nat.le_refl _) (fun m a b => h m a (by omega)) (hx x hm)
      · exact okS_dic (by omega) (by omega) ((h n h1 h2).trans e) hl hv fun x hm => okS_keep hlo (Nat.le_refl _) (fun m a b => h m a (by omega)) (hx x hm)
    | ty _ => cases hd
    | exc _ _ _ => cases hd
theorem okS_mono {S : Store} {lo : Nat} : ∀ {k k' r : Nat} {d : D}, okS S lo k r d = true → k ≤ k' → okS S lo k' r d = true
  | 0, _, _, _, h, _ => by cases h
  | k + 1, 0, _, _, _, hk => by omega
  | k + 1, k' + 1, r, d, h, hk => by
    cases d with
    | tup xs => obtain ⟨h1, h2⟩ := okS_seq h; exact okS_tup h1 fun x hx => okS_mono (h2 x hx) (by omega)
    | lst xs => obtain ⟨h1, h2⟩ := okS_seq (xs := xs) h; exact okS_tup (xs := xs) h1 fun x hx => okS_mono (h2 x hx) (by omega)
    | dic ks vs => cases h
    | non => rfl
    | bl _ => rfl
    | int _ => exact h
    | str s => exact h
    | ref n =>
      obtain ⟨h1, h2, ⟨xs, e, hl, hx⟩ | ⟨ks, vs, e, hl, hv, hx⟩⟩ := okS_ref h
      · exact okS_lst h1 h2 e hl fun x hm => okS_mono (hx x hm) (by omega)
      · exact okS_dic h1 h2 e hl hv fun x hm => okS_mono (hx x hm) (by omega)
    | ty _ => cases h
    | exc _ _ _ => cases h
theorem Sm_okS {S : Store} {lo : Nat} : ∀ {k r : Nat} {d : D}, okS S lo k r d = true → Sm S k d d
  | 0, _, _, h => by cases h
  | k + 1, r, d, h => by
    have seq : ∀ {xs : List D} {r : Nat}, (∀ x ∈ xs, okS S lo k r x = true) → ∀ (i : Nat) (x y : D), xs[i]? = some x → xs[i]? = some y → Sm S k x y := fun h i x y e1 e2 => by
      rw [e1] at e2; cases e2
      exact Sm_okS (h x (List.mem_of_getElem? e1))
    cases d with
    | non => exact .inl ⟨rfl, rfl⟩
    | bl b => exact .inr (.inl ⟨b, rfl, rfl⟩)
    | int i => exact .inr (.inr (.inl ⟨i, rfl, rfl⟩))
    | str s => exact .inr (.inr (.inr (.inl ⟨s, rfl, rfl, h⟩)))
    | tup xs =>
      obtain ⟨h1, h2⟩ := okS_seq h
      exact .inr (.inr (.inr (.inr (.inl ⟨xs, xs, rfl, rfl, rfl, h1, seq h2⟩))))
    | lst xs =>
      obtain ⟨h1, h2⟩ := okS_seq (xs := xs) h
      exact .inr (.inr (.inr (.inr (.inr (.inl ⟨xs, xs, rfl, rfl, rfl, h1, seq h2⟩)))))
    | dic ks vs => cases h
    | ref n =>
      obtain ⟨h1, h2, ⟨xs, e, hl, hx⟩ | ⟨ks, vs, e, hl, hv, hx⟩⟩ := okS_ref h
      · have el : lstOf S (.ref n) = some xs := by simp only [lstOf, e]
        exact .inr (.inr (.inr (.inr (.inr (.inl ⟨xs, xs, el, el, rfl, (by show xs.length ≤ 16777216; omega), seq hx⟩)))))
      · have el : dicOf S (.ref n) = some (ks, vs) := by simp only [dicOf, e]
        refine .inr (.inr (.inr (.inr (.inr (.inr ⟨ks, vs, vs, el, el, (by show ks.length ≤ 16777216; omega), fun q hq => ?_⟩)))))
        obtain ⟨x, hm, e⟩ := findK_some hq hv
        exact ⟨x, x, e, e, Sm_okS (hx x hm)⟩
    | ty _ => cases h
    | exc _ _ _ => cases h
theorem vD_okS {S : Store} {lo : Nat} : ∀ {k r : Nat} {d : D}, okS S lo k r d = true → vD S d = true
  | 0, _, _, h => by cases h
  | k + 1, r, d, h => by
    have seq : ∀ {xs : List D} {r : Nat}, xs.length ≤ 16777216 → (∀ x ∈ xs, okS S lo k r x = true) → (decide (xs.length ≤ 16777216) && vL S xs) = true := fun hl h => by
      rw [Bool.and_eq_true, vL_all, List.all_eq_true]
      exact ⟨decide_eq_true hl, fun x hx => vD_okS (h x hx)⟩
    cases d with
    | non => rfl
    | bl b => rfl
    | int i => exact h
    | str s => rfl
    | tup xs => obtain ⟨h1, h2⟩ := okS_seq h; exact seq h1 h2
    | lst xs => obtain ⟨h1, h2⟩ := okS_seq (xs := xs) h; exact seq h1 h2
    | dic ks vs => cases h
    | ref n =>
      show (S[n]?).isSome = true
      obtain ⟨h1, h2, ⟨xs, e, hl, hx⟩ | ⟨ks, vs, e, hl, hv, hx⟩⟩ := okS_ref h <;> rw [e] <;> rfl
    | ty _ => cases h
    | exc _ _ _ => cases h
theorem okS_noexc {S : Store} {lo k r : Nat} {d : D} (h : okS S lo k r d = true) : noexc d = true := by
  cases k with
  | zero => cases h
  | succ k => cases d <;> first | rfl | cases h
end Mp
/-! Pl, part Q: the very object, with objects within. -/
namespace Mp
open PySem
theorem put_more {P : D → Prop} (h1 : P (.int 1)) {ks : List Key} {vs : List D} (hv : ks.length = vs.length) (h : ∀ x ∈ vs, P x) :
    (putK (.inr "more") (.int 1) ks vs).1.length ≤ ks.length + 1 ∧ (putK (.inr "more") (.int 1) ks vs).1.length = (putK (.inr "more") (.int 1) ks vs).2.length ∧ ∀ x ∈ (putK (.inr "more") (.int 1) ks vs).2, P x := by
  unfold putK
  split
  · refine ⟨Nat.le_succ _, by rw [List.length_zipWith, hv]; simp, fun x hx => ?_⟩
    obtain ⟨i, hi, rfl⟩ := List.mem_iff_getElem.mp hx
    rw [List.getElem_zipWith]
    split
    · exact h1
    · exact h _ (List.getElem_mem _)
  · refine ⟨by simp, by simp [hv], fun x hx => ?_⟩
    rcases List.mem_append.mp hx with hx | hx
    · exact h x hx
    · have : x = .int 1 := by simpa using hx
      rw [this]; exact h1
theorem okS_one (S : Store) (lo k r : Nat) : okS S lo (k + 1) r (.int 1) = true := by
  show decide ((1 : Int).natAbs < 2 ^ 1000) = true
  exact decide_eq_true (Nat.one_lt_two_pow (by omega))
theorem Sm_len {S : Store} {k r : Nat} {xs : List D} (hS : S[r]? = some (.lst xs)) (hl : xs.length ≤ 16777216) (h : ∀ x ∈ xs, Sm S k x x) : Sm S (k + 1) (.ref r) (.ref r) := by
  have e : lstOf S (.ref r) = some xs := by simp only [lstOf, hS]
  exact .inr (.inr (.inr (.inr (.inr (.inl ⟨xs, xs, e, e, rfl, hl, fun i x y e1 e2 => by
    rw [e1] at e2; cases e2
    exact h x (List.mem_of_getElem? e1)⟩)))))
theorem Sm_dicl {S : Store} {k r : Nat} {ks : List Key} {vs : List D} (hS : S[r]? = some (.dic ks vs)) (hl : ks.length ≤ 16777216) (hv : ks.length = vs.length) (h : ∀ x ∈ vs, Sm S k x x) : Sm S (k + 1) (.ref r) (.ref r) := by
  have e : dicOf S (.ref r) = some (ks, vs) := by simp only [dicOf, hS]
  refine .inr (.inr (.inr (.inr (.inr (.inr ⟨ks, vs, vs, e, e, hl, fun q hq => ?_⟩)))))
  obtain ⟨x, hx, e⟩ := findK_some hq hv
  exact ⟨x, x, e, e, h x hx⟩
/-- the very object: a value of the store from lo on; nothing below lo is changed -/
theorem very_S {T : Tab} {fz fz' : Bool} (p : T "_law_same" = some ((["given", "due"] : List Str), (⟨2, 4, true, fz, sameB⟩ : Fn))) (q : T "_law_very" = some ((["given", "value"] : List Str), (⟨2, 2, true, fz', veryB⟩ : Fn))) {k n : Nat} (hk : 2 ≤ k) (hn : k + 2 ≤ n) {S : Store} {lo r : Nat} {d : D} (h : okS S lo k r d = true) (h1 : ∀ xs, d ≠ .lst xs) :
    ∃ S', phi T n "_law_very" [d, d] [] [] S = .ok (.bl true) S' ∧ S'.length = S.length ∧ ∀ m, m < lo → S'[m]? = S[m]? := by
  obtain ⟨n, rfl⟩ : ∃ m, n = m + 1 := ⟨n - 1, by omega⟩
  rw [phi_whole q rfl]
  have e := same_ok p (n := n) (by omega) (Sm_okS h)
  obtain ⟨k, rfl⟩ : ∃ m, k = m + 2 := ⟨k - 2, by omega⟩
  by_cases hr : ∃ n, d = .ref n
  · obtain ⟨r', rfl⟩ := hr
    obtain ⟨a1, a2, ⟨xs, hS, hl, hx⟩ | ⟨ks, vs, hS, hl, hv, hx⟩⟩ := okS_ref h
    · have keep : ∀ o' m, lo ≤ m → m < r' → (S.set r' o')[m]? = S[m]? := fun o' m _ hm => by rw [List.getElem?_set_ne (by omega)]
      refine ⟨S.set r' (.lst (xs ++ [.str "more"])), ?_, List.length_set, fun m hm => by rw [List.getElem?_set_ne (by omega)]⟩
      have hS' : (S.set r' (.lst (xs ++ [.str "more"])))[r']? = some (.lst (xs ++ [.str "more"])) := ss_get hS
      have e2 := same_ok p (n := n) (by omega) (Sm_len (k := k + 1) hS' (by simp; omega) (fun x hx' => by
        rcases List.mem_append.mp hx' with hx' | hx'
        · exact Sm_okS (okS_keep (Nat.le_refl lo) (Nat.le_refl r') (keep _) (hx x hx'))
        · have : x = .str "more" := by simpa using hx'
          rw [this]; exact .inr (.inr (.inr (.inl ⟨_, rfl, rfl, shp_more⟩)))))
      simp [veryB, startE, e, isinst, tyName, hS, knownTy, isOne, lstOf, meth, methL, show xs.length < 16777216 by omega, hS', e2]
    · have keep : ∀ o' m, lo ≤ m → m < r' → (S.set r' o')[m]? = S[m]? := fun o' m _ hm => by rw [List.getElem?_set_ne (by omega)]
      refine ⟨S.set r' (.dic (putK (.inr "more") (.int 1) ks vs).1 (putK (.inr "more") (.int 1) ks vs).2), ?_, List.length_set, fun m hm => by rw [List.getElem?_set_ne (by omega)]⟩
      have hS' := ss_get (o' := .dic (putK (.inr "more") (.int 1) ks vs).1 (putK (.inr "more") (.int 1) ks vs).2) hS
      obtain ⟨l1, l2, l3⟩ := put_more (P := fun x => okS S lo (k + 1) r' x = true) (okS_one _ _ _ _) hv hx
      have e2 := same_ok p (n := n) (by omega) (Sm_dicl (k := k + 1) hS' (by omega) l2 (fun x hx => Sm_okS (okS_keep (Nat.le_refl lo) (Nat.le_refl r') (keep _) (l3 x hx))))
      have st : setop (.ref r') (.str "more") (.int 1) S = some (S.set r' (.dic (putK (.inr "more") (.int 1) ks vs).1 (putK (.inr "more") (.int 1) ks vs).2)) := by
        simp [setop, hS, keyOf, show ks.length < 16777216 by omega]
      simp [veryB, startE, e, isinst, tyName, hS, knownTy, isOne, st, e2]
  · refine ⟨S, ?_, rfl, fun _ _ => rfl⟩
    have hne : noexc d = true ∧ (tyName d S == "?") = false ∧ tyName d S ≠ "list" ∧ tyName d S ≠ "dict" := by
      cases d with
      | lst xs => exact absurd rfl (h1 xs)
      | dic ks vs => cases h
      | ref m => exact absurd ⟨m, rfl⟩ hr
      | ty _ => cases h
      | exc _ _ _ => cases h
      | _ => exact ⟨rfl, rfl, by simp [tyName], by simp [tyName]⟩
    have sd := slotR_some hne.1
    have t1 := isinst_ty (n := "list") (S := S) (d := d) rfl hne.2.1 (by rfl)
    have t2 := isinst_ty (n := "dict") (S := S) (d := d) rfl hne.2.1 (by rfl)
    have f1 : isOne (tyName d S) "list" = false := by
      simp only [isOne, show (("list" : String) == "int") = false by decide, Bool.and_false, Bool.or_false]
      exact beq_false_of_ne fun z => hne.2.2.1 z.symm
    have f2 : isOne (tyName d S) "dict" = false := by
      simp only [isOne, show (("dict" : String) == "int") = false by decide, Bool.and_false, Bool.or_false]
      exact beq_false_of_ne fun z => hne.2.2.2 z.symm
    simp [veryB, startE, sd, e, t1, t2, f1, f2]
end Mp
/-! Pl, part R: copies: lists and dicts anew in the store. -/
namespace Mp
open PySem
/-- flat data -/
def gF : D → Bool
  | .non => true | .bl _ => true | .int i => decide (i.natAbs < 2 ^ 1000) | .str s => shp (.str s) | _ => false
/-- plain data that may be handed about -/
def gv : Nat → D → Bool
  | 0, _ => false
  | k + 1, d => match d with
    | .non => true | .bl _ => true | .int i => decide (i.natAbs < 2 ^ 1000) | .str s => shp (.str s)
    | .tup xs => decide (xs.length ≤ 10000) && xs.all (gv k)
    | .lst xs => decide (xs.length ≤ 10000) && xs.all (gv k)
    | .dic ks vs => decide (0 < k) && ((decide (ks.length ≤ 1000) && decide (ks.length = vs.length)) && (decide ks.Nodup && vs.all gF))
    | _ => false
def gO (k : Nat) : O → Bool
  | .lst xs => decide (xs.length ≤ 10000) && xs.all (gv k)
  | .dic ks vs => (decide (ks.length ≤ 1000) && decide (ks.length = vs.length)) && (decide ks.Nodup && vs.all gF)
  | .lok .. => false
theorem gv_seq {k : Nat} {xs : List D} (h : gv (k + 1) (.tup xs) = true) : xs.length ≤ 10000 ∧ ∀ x ∈ xs, gv k x = true := by
  have h : (decide (xs.length ≤ 10000) && xs.all (gv k)) = true := h
  simpa only [Bool.and_eq_true, decide_eq_true_eq, List.all_eq_true] using h
theorem gv_tup {k : Nat} {xs : List D} (hl : xs.length ≤ 10000) (h : ∀ x ∈ xs, gv k x = true) : gv (k + 1) (.tup xs) = true := by
  show (decide (xs.length ≤ 10000) && xs.all (gv k)) = true
  simpa only [Bool.and_eq_true, decide_eq_true_eq, List.all_eq_true] using ⟨hl, h⟩
theorem gv_lst {k : Nat} {xs : List D} (hl : xs.length ≤ 10000) (h : ∀ x ∈ xs, gv k x = true) : gv (k + 1) (.lst xs) = true := gv_tup hl h
theorem gd_dic {ks : List Key} {vs : List D} (h : ((decide (ks.length ≤ 1000) && decide (ks.length = vs.length)) && (decide ks.Nodup && vs.all gF)) = true) : ks.length ≤ 1000 ∧ ks.length = vs.length ∧ ks.Nodup ∧ ∀ v ∈ vs, gF v = true := by
  simp only [Bool.and_eq_true, decide_eq_true_eq, List.all_eq_true] at h
  exact ⟨h.1.1, h.1.2, h.2.1, h.2.2⟩
theorem gv_dic {k : Nat} {ks : List Key} {vs : List D} (h : gv (k + 1) (.dic ks vs) = true) : 0 < k ∧ ks.length ≤ 1000 ∧ ks.length = vs.length ∧ ks.Nodup ∧ ∀ v ∈ vs, gF v = true := by
  have h : (decide (0 < k) && ((decide (ks.length ≤ 1000) && decide (ks.length = vs.length)) && (decide ks.Nodup && vs.all gF))) = true := h
  rw [Bool.and_eq_true] at h
  exact ⟨of_decide_eq_true h.1, gd_dic h.2⟩
theorem gv_mono : ∀ {k k' : Nat} {d : D}, gv k d = true → k ≤ k' → gv k' d = true
  | 0, _, _, h, _ => by cases h
  | k + 1, 0, _, _, hk => by omega
  | k + 1, k' + 1, d, h, hk => by
    cases d with
    | tup xs => obtain ⟨h1, h2⟩ := gv_seq h; exact gv_tup h1 fun x hx => gv_mono (h2 x hx) (by omega)
    | lst xs => obtain ⟨h1, h2⟩ := gv_seq (xs := xs) h; exact gv_tup (xs := xs) h1 fun x hx => gv_mono (h2 x hx) (by omega)
    | dic ks vs =>
      have h : (decide (0 < k) && ((decide (ks.length ≤ 1000) && decide (ks.length = vs.length)) && (decide ks.Nodup && vs.all gF))) = true := h
      show (decide (0 < k') && ((decide (ks.length ≤ 1000) && decide (ks.length = vs.length)) && (decide ks.Nodup && vs.all gF))) = true
      rw [Bool.and_eq_true] at *
      exact ⟨decide_eq_true (by have := of_decide_eq_true h.1; omega), h.2⟩
    | non => rfl
    | bl _ => rfl
    | int _ => exact h
    | str s => exact h
    | ref n => cases h
    | ty _ => cases h
    | exc _ _ _ => cases h
theorem gF_gv {k : Nat} {d : D} (h : gF d = true) : gv (k + 1) d = true := by cases d <;> first | exact h | cases h
theorem gv_pure : ∀ {k : Nat} {d : D}, gv k d = true → d.pure = true
  | 0, _, h => by cases h
  | k + 1, d, h => by
    have seq : ∀ {xs : List D}, (∀ x ∈ xs, gv k x = true) → pureL xs = true := fun h => by
      rw [pureL_all, List.all_eq_true]
      exact fun x hx => gv_pure (h x hx)
    cases d with
    | tup xs => exact seq (gv_seq h).2
    | lst xs => exact seq (gv_seq (xs := xs) h).2
    | dic ks vs =>
      obtain ⟨_, _, _, _, h⟩ := gv_dic h
      show pureL vs = true
      rw [pureL_all, List.all_eq_true]
      intro x hx
      have := h x hx
      cases x <;> first | rfl | cases this
    | ref n => cases h
    | ty _ => rfl
    | exc _ _ _ => cases h
    | _ => rfl
theorem gv_noexc {k : Nat} {d : D} (h : gv k d = true) : noexc d = true := by
  cases k with
  | zero => cases h
  | succ k => cases d <;> first | rfl | cases h
theorem gv_okD : ∀ {k : Nat} {d : D}, gv k d = true → okD (k + 1) d = true
  | 0, _, h => by cases h
  | k + 1, d, h => by
    have seq : ∀ {xs : List D}, xs.length ≤ 10000 → (∀ x ∈ xs, gv k x = true) → (decide (xs.length ≤ 16777216) && xs.all (okD (k + 1))) = true := fun hl h => by
      rw [Bool.and_eq_true, List.all_eq_true]
      exact ⟨decide_eq_true (by omega), fun x hx => gv_okD (h x hx)⟩
    cases d with
    | tup xs => exact seq (gv_seq h).1 (gv_seq h).2
    | lst xs => exact seq (gv_seq (xs := xs) h).1 (gv_seq (xs := xs) h).2
    | dic ks vs =>
      obtain ⟨_, h1, h2, h3, h4⟩ := gv_dic h
      show (decide (ks.length ≤ 16777216) && decide (ks.length = vs.length) && vs.all (okD (k + 1))) = true
      simp only [Bool.and_eq_true, decide_eq_true_eq, List.all_eq_true]
      refine ⟨⟨by omega, h2⟩, fun x hx => ?_⟩
      have := h4 x hx
      cases x <;> first | rfl | exact this | cases this
    | str s => exact h
    | ref n => cases h
    | ty _ => cases h
    | exc _ _ _ => cases h
    | _ => rfl
theorem gv_vD {S : Store} : ∀ {k : Nat} {d : D}, gv k d = true → vD S d = true
  | 0, _, h => by cases h
  | k + 1, d, h => by
    have seq : ∀ {xs : List D}, xs.length ≤ 10000 → (∀ x ∈ xs, gv k x = true) → (decide (xs.length ≤ 16777216) && vL S xs) = true := fun hl h => by
      rw [Bool.and_eq_true, vL_all, List.all_eq_true]
      exact ⟨decide_eq_true (by omega), fun x hx => gv_vD (h x hx)⟩
    cases d with
    | tup xs => exact seq (gv_seq h).1 (gv_seq h).2
    | lst xs => exact seq (gv_seq (xs := xs) h).1 (gv_seq (xs := xs) h).2
    | dic ks vs =>
      obtain ⟨_, h1, h2, h3, h4⟩ := gv_dic h
      show vL S vs = true
      rw [vL_all, List.all_eq_true]
      intro x hx
      have := h4 x hx
      cases x <;> first | rfl | exact this | cases this
    | int i => exact h
    | ref n => cases h
    | ty _ => cases h
    | exc _ _ _ => cases h
    | _ => rfl
/-- a value that may be handed about: plain data, or an object of the store with plain data within -/
def Bv (S : Store) (k : Nat) (d : D) : Prop := gv k d = true ∨ ∃ m o, d = .ref m ∧ S[m]? = some o ∧ gO k o = true
/-- c is a copy of the plain data d: its lists and dicts stand in the store -/
def Co (S : Store) : Nat → D → D → Prop
  | 0, _, _ => False
  | k + 1, d, c => match d with
    | .tup xs => ∃ ys, c = .tup ys ∧ xs.length = ys.length ∧ ∀ (i : Nat) (x y : D), xs[i]? = some x → ys[i]? = some y → Co S k x y
    | .lst xs => ∃ m ys, c = .ref m ∧ S[m]? = some (.lst ys) ∧ xs.length = ys.length ∧ ∀ (i : Nat) (x y : D), xs[i]? = some x → ys[i]? = some y → Co S k x y
    | .dic ks vs => ∃ m, c = .ref m ∧ S[m]? = some (.dic ks vs)
    | d => c = d
theorem Co.pure {S : Store} : ∀ {k : Nat} {d c : D}, Co S k d c → c.pure = true → d = c
  | 0, _, _, h, _ => h.elim
  | k + 1, d, c, h, hp => by
    cases d with
    | tup xs =>
      obtain ⟨ys, rfl, h⟩ := h
      have hp : pureL ys = true := hp
      rw [pureL_all, List.all_eq_true] at hp
      congr 1
      refine List.ext_getElem h.1 fun i h1 h2 => ?_
      exact Co.pure (h.2 i _ _ (List.getElem?_eq_getElem h1) (List.getElem?_eq_getElem h2)) (hp _ (List.getElem_mem h2))
    | lst xs =>
      obtain ⟨m, ys, rfl, _⟩ := h
      cases hp
    | dic ks vs =>
      obtain ⟨m, rfl, _⟩ := h
      cases hp
    | _ => exact (show _ = _ from h).symm
theorem Co.app {S E : Store} : ∀ {k : Nat} {d c : D}, Co S k d c → Co (S ++ E) k d c
  | 0, _, _, h => h
  | k + 1, d, c, h => by
    cases d with
    | tup xs =>
      obtain ⟨ys, rfl, h1, h2⟩ := h
      exact ⟨ys, rfl, h1, fun i x y a b => (h2 i x y a b).app⟩
    | lst xs =>
      obtain ⟨m, ys, rfl, h0, h1, h2⟩ := h
      exact ⟨m, ys, rfl, app_get h0, h1, fun i x y a b => (h2 i x y a b).app⟩
    | dic ks vs =>
      obtain ⟨m, rfl, h0⟩ := h
      exact ⟨m, rfl, app_get h0⟩
    | _ => exact h
def copyC1 : E := (.comp true [2] (.n 2) (.e (.v 0)) .nil (.elt (.tup (.cons (.v 2) (.cons (.call "_law_copy" (.cons (.ix (.v 0) (.v 2)) .nil) [] .nil) .nil)))))
def copyC2 (fz : Bool) : E := (.comp fz [1] (.n 1) (.e (.v 0)) .nil (.elt (.call "_law_copy" (.cons (.v 1) .nil) [] .nil)))
def copyB : Ss := (.cons (.ife (.blt .isinst true (.cons (.v 0) (.cons (.kty "list") .nil))) (.cons (.ret (copyC2 false)) .nil) .nil) (.cons (.ife (.blt .isinst true (.cons (.v 0) (.cons (.kty "tuple") .nil))) (.cons (.ret (.blt .tuple false (.cons (copyC2 true) .nil))) .nil) .nil) (.cons (.ret (.ife (.blt .isinst true (.cons (.v 0) (.cons (.kty "dict") .nil))) (.blt .dict false (.cons (.lockd 0 copyC1) .nil)) (.v 0))) .nil)))
/-- how a copy ends -/
def Cd (S : Store) (k : Nat) (d : D) (c : D) (E : Store) : Prop := Co (S ++ E) k d c ∧ okS (S ++ E) S.length k (S ++ E).length c = true
def CdL (S : Store) (k : Nat) (xs ys : List D) (E : Store) : Prop := xs.length = ys.length ∧ (∀ (i : Nat) (x y : D), xs[i]? = some x → ys[i]? = some y → Co (S ++ E) k x y) ∧ ∀ y ∈ ys, okS (S ++ E) S.length k (S ++ E).length y = true
theorem eachR_copy {f : D → Store → R (List D)} {k : Nat} (hf : ∀ x S, gv k x = true → ∃ c E, f x S = .ok [c] (S ++ E) ∧ Cd S k x c E) : ∀ (xs : List D) (S : Store), (∀ x ∈ xs, gv k x = true) → ∃ ys E, eachR f xs S = .ok ys (S ++ E) ∧ CdL S k xs ys E
  | [], S, _ => ⟨[], [], by simp [eachR], rfl, (fun i x y e => by cases e), fun y hy => by cases hy⟩
  | x :: xs, S, h => by
    obtain ⟨c, E1, e1, a1, a2⟩ := hf x S (h x List.mem_cons_self)
    obtain ⟨ys, E2, e2, b0, b1, b2⟩ := eachR_copy hf xs (S ++ E1) fun y hy => h y (List.mem_cons_of_mem _ hy)
    rw [List.append_assoc] at e2 b1 b2
    refine ⟨c :: ys, E1 ++ E2, ?_, by simp [b0], fun i u v eu ev => ?_, fun y hy => ?_⟩
    · simp only [eachR, e1, R.bind_ok, e2, List.singleton_append]
    · cases i with
      | zero => cases eu; cases ev; rw [← List.append_assoc]; exact a1.app
      | succ i => exact b1 i u v eu ev
    · rcases List.mem_cons.mp hy with rfl | hy
      · refine okS_keep (Nat.le_refl _) (by simp) (fun n _ hn => ?_) a2
        rw [← List.append_assoc, List.getElem?_append_left hn]
      · exact okS_keep (by simp) (Nat.le_refl _) (fun _ _ _ => rfl) (b2 y hy)
theorem live_each {f : D → Store → R (List D)} {m : Nat} {xs : List D} (hf : ∀ x ∈ xs, ∀ S, ∃ c E, f x S = .ok [c] (S ++ E)) : ∀ (j i : Nat) (S : Store), S[m]? = some (.lst xs) → j + i = xs.length → liveR f m j i S = eachR f (xs.drop i) S
  | 0, i, S, hS, e => by
    rw [List.drop_eq_nil_of_le (by omega)]
    have : lstOf S (.ref m) = some xs := by simp only [lstOf, hS]
    unfold liveR
    rw [this]
    exact if_pos (by omega)
  | j + 1, i, S, hS, e => by
    have hi : i < xs.length := by omega
    have : lstOf S (.ref m) = some xs := by simp only [lstOf, hS]
    rw [List.drop_eq_getElem_cons hi]
    unfold liveR eachR
    rw [this]
    dsimp only
    rw [List.getElem?_eq_getElem hi]
    dsimp only
    obtain ⟨c, E, e1⟩ := hf xs[i] (List.getElem_mem hi) S
    rw [e1, R.bind_ok, R.bind_ok, live_each hf j (i + 1) (S ++ E) (app_get hS) (by omega)]
theorem srcR_copy {f : D → Store → R (List D)} {k : Nat} (hf : ∀ x S, gv k x = true → ∃ c E, f x S = .ok [c] (S ++ E) ∧ Cd S k x c E) {src : Src} {xs : List D} {S : Store} (hs : itemsOf S src = some xs) (hx : ∀ x ∈ xs, gv k x = true) : ∃ ys E, srcR f src S = .ok ys (S ++ E) ∧ CdL S k xs ys E := by
  cases src with
  | items zs => cases hs; exact eachR_copy hf xs S hx
  | live m =>
    have hl : lstOf S (.ref m) = some xs := hs
    have hS : S[m]? = some (.lst xs) := by
      simp only [lstOf] at hl
      split at hl
      · rename_i ys e; cases hl; exact e
      · cases hl
    have e : srcR f (.live m) S = eachR f xs S := by
      simp only [srcR, hl]
      rw [live_each (fun x hm S => by obtain ⟨c, E, e, _⟩ := hf x S (hx x hm); exact ⟨c, E, e⟩) xs.length 0 S hS rfl]
      rfl
    rw [e]
    exact eachR_copy hf xs S hx
theorem findK_map : ∀ {ks : List Key} {vs : List D}, ks.length = vs.length → ks.Nodup → ks.map (fun q => (findK q ks vs).getD .non) = vs
  | [], [], _, _ => rfl
  | [], _ :: _, e, _ => by cases e
  | _ :: _, [], e, _ => by cases e
  | k :: ks, v :: vs, e, hn => by
    have hn := List.nodup_cons.mp hn
    have ih := findK_map (ks := ks) (vs := vs) (by simpa using e) hn.2
    rw [List.map_cons]
    congr 1
    · simp [findK]
    · refine Eq.trans (List.map_congr_left fun q hq => ?_) ih
      have : ¬ k = q := fun z => hn.1 (by rw [z]; exact hq)
      simp [findK, this]
theorem pairsOf_map (g : Key → D) : ∀ ks : List Key, pairsOf (ks.map fun q => .tup [keyD q, g q]) = some (ks, ks.map g)
  | [] => rfl
  | q :: ks => by
    have ih := pairsOf_map g ks
    rw [List.map_cons]
    unfold pairsOf
    rw [ih]
    cases q <;> rfl
section
variable {T : Tab} {fz : Bool} (p : T "_law_copy" = some ((["value"] : List Str), (⟨1, 3, true, fz, copyB⟩ : Fn)))
include p
theorem copy_flat {n : Nat} (hn : 1 ≤ n) {d : D} (h : gF d = true) (S : Store) : phi T n "_law_copy" [d] [] [] S = .ok d S := by
  obtain ⟨n, rfl⟩ : ∃ m, n = m + 1 := ⟨n - 1, by omega⟩
  rw [phi_whole p rfl]
  cases d <;> first | (simp [copyB, startE, isinst, tyName, knownTy, isOne]; done) | cases h
theorem copy_seq {n k : Nat} (ih : ∀ {d : D}, gv k d = true → ∀ S, ∃ c E, phi T n "_law_copy" [d] [] [] S = .ok c (S ++ E) ∧ Cd S k d c E) {S : Store} {d : D} {xs : List D} (hs : seqOf S d = some xs) (hl : xs.length ≤ 10000) (hx : ∀ x ∈ xs, gv k x = true) (b : Bool) :
    ∃ ys E, evE (phi T n) (copyC2 b) [some d, none, none] S = alloc b ys (S ++ E) ∧ CdL S k xs ys E := by
  obtain ⟨src, e1, e2⟩ := seq_src hs
  unfold copyC2
  rw [e_comp, i_e, e_v]
  simp only [List.getElem?_cons_zero, seq_slot hs, R.bind_ok, e1]
  have key : ∀ f : D → Store → R (List D), (∀ x S, gv k x = true → ∃ c E, f x S = .ok [c] (S ++ E) ∧ Cd S k x c E) →
      ∃ ys E, ((noExc (srcR f src S)).bind fun xs S => if xs.length ≤ line then alloc b xs S else .bad) = alloc b ys (S ++ E) ∧ CdL S k xs ys E := by
    intro f hf
    obtain ⟨ys, E, e, c⟩ := srcR_copy hf e2 hx
    refine ⟨ys, E, ?_, c⟩
    rw [e, noExc_ok, R.bind_ok, if_pos (show ys.length ≤ line by show ys.length ≤ 16777216; have := c.1; omega)]
  refine key _ fun x S hx => ?_
  obtain ⟨c, E, e, h⟩ := ih hx S
  refine ⟨c, E, ?_, h⟩
  simp [slotR_some (gv_noexc hx), e]
theorem copy_dic {n : Nat} (hn : 1 ≤ n) {S : Store} {d : D} {ks : List Key} {vs : List D} (hd : dicOf S d = some (ks, vs)) (hs : ∃ src, srcOf S d = some src ∧ itemsOf S src = some (ks.map keyD)) (hl : ks.length ≤ 1000) (hv : ks.length = vs.length) (hn' : ks.Nodup) (hg : ∀ v ∈ vs, gF v = true) :
    evE (phi T n) copyC1 [some d, none, none] S = .ok (.lst (ks.map fun q => .tup [keyD q, (findK q ks vs).getD .non])) S := by
  obtain ⟨src, e1, e2⟩ := hs
  unfold copyC1
  refine comp_list (F := keyD) (l := ks) (src := src) ?_ e2 (by omega) fun q hq => ?_
  · rw [i_e, e_v]
    simp only [List.getElem?_cons_zero, dic_slot hd, R.bind_ok, e1]
  · obtain ⟨x, hx, ex⟩ := findK_some hq hv
    have ec := copy_flat p (n := n) hn (hg x hx) S
    have sk : slotR (some (some (keyD q))) S = .ok (keyD q) S := by cases q <;> rfl
    simp [sk, dic_slot hd, ix_dic hd, ex, ec]
theorem copy_run {n : Nat} {S : Store} {d : D} (hd : (tyName d S == "?") = false) (hs : noexc d = true) : phi T (n + 1) "_law_copy" [d] [] [] S =
    if isOne (tyName d S) "list" = true then evE (phi T n) (copyC2 false) [some d, none, none] S else
    if isOne (tyName d S) "tuple" = true then (evE (phi T n) (copyC2 true) [some d, none, none] S).bind fun x S => ofD ((seqOf S x).map .tup) S else
    if isOne (tyName d S) "dict" = true then (evE (phi T n) (.lockd 0 copyC1) [some d, none, none] S).bind fun x S => blt .dict false [x] S else .ok d S := by
  rw [phi_whole p rfl]
  have t1 := isinst_ty (n := "list") (S := S) (d := d) rfl hd (by rfl)
  have t2 := isinst_ty (n := "dict") (S := S) (d := d) rfl hd (by rfl)
  have t3 := isinst_ty (n := "tuple") (S := S) (d := d) rfl hd (by rfl)
  have sd := slotR_some hs
  by_cases h1 : isOne (tyName d S) "list" = true
  · rw [if_pos h1]
    simp [copyB, startE, sd, t1, h1]
    generalize evE (phi T n) (copyC2 false) [some d, none, none] S = r
    cases r <;> rfl
  · rw [if_neg h1]
    by_cases h2 : isOne (tyName d S) "tuple" = true
    · rw [if_pos h2]
      simp [copyB, startE, sd, t1, h1, t3, h2]
      generalize evE (phi T n) (copyC2 true) [some d, none, none] S = r
      cases r with
      | ok a S' =>
        simp only [R.bind_ok, b_tuple]
        cases seqOf S' a <;> rfl
      | _ => rfl
    · rw [if_neg h2]
      by_cases h3 : isOne (tyName d S) "dict" = true
      · rw [if_pos h3, e_lockd]
        simp [copyB, startE, sd, t1, h1, t3, h2, t2, h3]
        generalize lockR _ _ S = r
        cases r with
        | ok a S' =>
          simp only [R.bind_ok]
          generalize blt .dict false [a] S' = r
          cases r <;> rfl
        | _ => rfl
      · rw [if_neg h3]
        simp [copyB, startE, sd, t1, h1, t3, h2, t2, h3]
theorem dict_of {ks : List Key} {vs : List D} (hv : ks.length = vs.length) (hn : ks.Nodup) (S : Store) : blt .dict false [.lst (ks.map fun q => .tup [keyD q, (findK q ks vs).getD .non])] S = .ok (.ref S.length) (S ++ [.dic ks vs]) := by
  show (match lstOf S (.lst _) with | some xs => (match pairsOf xs with | some (ks, vs) => dicR false ks vs S | none => .bad) | none => .bad) = _
  rw [lst_lst]
  dsimp only
  rw [pairsOf_map]
  dsimp only
  rw [findK_map hv hn]
  unfold dicR
  rw [if_pos hn]
  rfl
theorem okS_gF {S : Store} {lo k r : Nat} {d : D} (h : gF d = true) : okS S lo (k + 1) r d = true := by cases d <;> first | exact h | cases h
theorem copy_ok : ∀ {k n : Nat} (hn : k ≤ n) {d : D}, gv k d = true → ∀ S, ∃ c E, phi T n "_law_copy" [d] [] [] S = .ok c (S ++ E) ∧ Cd S k d c E
  | 0, _, _, _, h => by cases h
  | k + 1, n, hn, d, h => fun S => by
    obtain ⟨n, rfl⟩ : ∃ m, n = m + 1 := ⟨n - 1, by omega⟩
    have ih := fun {d : D} (h : gv k d = true) S => copy_ok (k := k) (n := n) (by omega) h S
    have flat : gF d = true → ∃ c E, phi T (n + 1) "_law_copy" [d] [] [] S = .ok c (S ++ E) ∧ Cd S (k + 1) d c E := fun hf => ⟨d, [], by rw [copy_flat p (by omega) hf, List.append_nil], (by cases d <;> first | rfl | cases hf), okS_gF p hf⟩
    cases d with
    | non => exact flat rfl
    | bl _ => exact flat rfl
    | int _ => exact flat h
    | str _ => exact flat h
    | tup xs =>
      obtain ⟨h1, h2⟩ := gv_seq h
      obtain ⟨ys, E, e, c0, c1, c2⟩ := copy_seq p ih (S := S) (d := .tup xs) rfl h1 h2 true
      rw [copy_run p rfl rfl]
      refine ⟨.tup ys, E, ?_, ⟨ys, rfl, c0, c1⟩, okS_tup (by omega) c2⟩
      rw [show tyName (D.tup xs) S = "tuple" from rfl, if_neg (show ¬ isOne "tuple" "list" = true by decide), if_pos (by rfl), e]
      rfl
    | lst xs =>
      obtain ⟨h1, h2⟩ := gv_seq (xs := xs) h
      obtain ⟨ys, E, e, c0, c1, c2⟩ := copy_seq p ih (S := S) (d := .lst xs) rfl h1 h2 false
      rw [copy_run p rfl rfl]
      have g : (S ++ (E ++ [O.lst ys]))[(S ++ E).length]? = some (.lst ys) := by rw [← List.append_assoc]; exact end_get _ _
      refine ⟨.ref (S ++ E).length, E ++ [.lst ys], ?_, ⟨_, ys, rfl, g, c0, fun i x y a b => by rw [← List.append_assoc]; exact (c1 i x y a b).app⟩, ?_⟩
      · rw [if_pos (by rfl), e, alloc_ref, List.append_assoc]
      · refine okS_lst (by simp) (by simp) g (by omega) fun y hy => okS_keep (Nat.le_refl _) (Nat.le_refl _) (fun m _ hm => ?_) (c2 y hy)
        rw [← List.append_assoc, List.getElem?_append_left hm]
    | dic ks vs =>
      obtain ⟨h0, h1, h2, h3, h4⟩ := gv_dic h
      rw [copy_run p rfl rfl]
      have g : (S ++ [O.dic ks vs])[S.length]? = some (.dic ks vs) := end_get _ _
      have kl : keysOf ks = some (.items (ks.map keyD)) := by
        unfold keysOf
        rw [if_pos (by show ks.length ≤ 16777216; omega)]
      have e := copy_dic p (n := n) (by omega) (S := S) (d := .dic ks vs) rfl ⟨_, kl, rfl⟩ h1 h2 h3 h4
      obtain ⟨k, rfl⟩ : ∃ m, k = m + 1 := ⟨k - 1, by omega⟩
      refine ⟨.ref S.length, [.dic ks vs], ?_, ⟨_, rfl, g⟩, okS_dic (Nat.le_refl _) (by simp) g (by omega) h2 fun v hv => okS_gF p (h4 v hv)⟩
      rw [show tyName (D.dic ks vs) S = "dict" from rfl, if_neg (show ¬ isOne "dict" "list" = true by decide), if_neg (show ¬ isOne "dict" "tuple" = true by decide), if_pos (by rfl), e_lockd]
      have el : lockR (some (some (D.dic ks vs))) (evE (phi T n) copyC1 [some (.dic ks vs), none, none]) S = evE (phi T n) copyC1 [some (.dic ks vs), none, none] S := rfl
      rw [List.getElem?_cons_zero, el, e, R.bind_ok, dict_of p h2 h3]
    | ref n => cases h
    | ty _ => cases h
    | exc _ _ _ => cases h
/-- .. of any value that is handed about -/
theorem copy_bv {k n : Nat} (hn : k + 1 ≤ n) (hk : 2 ≤ k) {S : Store} {d : D} (h : Bv S k d) : ∃ c E, phi T n "_law_copy" [d] [] [] S = .ok c (S ++ E) ∧ okS (S ++ E) S.length (k + 1) (S ++ E).length c = true ∧ (∀ xs, c ≠ .lst xs) ∧ ((∃ m, c = .ref m) ∨ (gv k d = true ∧ (c.pure = true → d = c))) := by
  rcases h with h | ⟨m, o, rfl, hS, ho⟩
  · obtain ⟨c, E, e, h1, h2⟩ := copy_ok p (n := n) (by omega) h S
    refine ⟨c, E, e, okS_mono h2 (by omega), fun xs hc => ?_, .inr ⟨h, fun hp => h1.pure hp⟩⟩
    subst hc
    cases k with
    | zero => cases h
    | succ k =>
      cases d with
      | tup xs => obtain ⟨ys, e, _⟩ := h1; cases e
      | lst xs => obtain ⟨m, ys, e, _⟩ := h1; cases e
      | dic ks vs => obtain ⟨m, e, _⟩ := h1; cases e
      | _ => cases (show _ = _ from h1) <;> cases h
  · obtain ⟨n, rfl⟩ : ∃ m, n = m + 1 := ⟨n - 1, by omega⟩
    cases o with
    | lst xs =>
      have ho : (decide (xs.length ≤ 10000) && xs.all (gv k)) = true := ho
      simp only [Bool.and_eq_true, decide_eq_true_eq, List.all_eq_true] at ho
      have hs : lstOf S (.ref m) = some xs := by simp only [lstOf, hS]
      obtain ⟨ys, E, e, c0, c1, c2⟩ := copy_seq p (n := n) (fun h S => copy_ok p (by omega) h S) (S := S) (d := .ref m) (lst_seq hs) ho.1 ho.2 false
      have g : (S ++ (E ++ [O.lst ys]))[(S ++ E).length]? = some (.lst ys) := by rw [← List.append_assoc]; exact end_get _ _
      have t : tyName (.ref m) S = "list" := ty_lst hs
      rw [copy_run p (by rw [t]; rfl) rfl, t, if_pos (by rfl), e, alloc_ref, List.append_assoc]
      refine ⟨_, _, rfl, ?_, fun _ e => (by cases e), .inl ⟨_, rfl⟩⟩
      refine okS_lst (by simp) (by simp) g (by omega) fun y hy => okS_keep (Nat.le_refl _) (Nat.le_refl _) (fun m _ hm => ?_) (c2 y hy)
      rw [← List.append_assoc, List.getElem?_append_left hm]
    | dic ks vs =>
      obtain ⟨h1, h2, h3, h4⟩ := gd_dic ho
      have hd : dicOf S (.ref m) = some (ks, vs) := by simp only [dicOf, hS]
      have t : tyName (.ref m) S = "dict" := ty_dic hd
      have hlt : m < S.length := (List.getElem?_eq_some_iff.mp hS).1
      have g : (S ++ [O.dic ks vs])[S.length]? = some (.dic ks vs) := end_get _ _
      have kl : keysOf ks = some (.items (ks.map keyD)) := by
        unfold keysOf
        rw [if_pos (by show ks.length ≤ 16777216; omega)]
      have hS1 : (S.set m (.lok ks vs))[m]? = some (.lok ks vs) := by simp [hlt]
      have e := copy_dic p (n := n) (by omega) (S := S.set m (.lok ks vs)) (d := .ref m) (ks := ks) (vs := vs) (by simp only [dicOf, hS1]) ⟨.items (ks.map keyD), by simp only [srcOf, hS1, kl], rfl⟩ h1 h2 h3 h4
      have el : lockR (some (some (D.ref m))) (evE (phi T n) copyC1 [some (.ref m), none, none]) S = .ok (.lst (ks.map fun q => .tup [keyD q, (findK q ks vs).getD .non])) S := by
        show (match S[m]? with | some (.dic ks vs) => unlock m (evE (phi T n) copyC1 [some (.ref m), none, none] (S.set m (.lok ks vs))) | _ => evE (phi T n) copyC1 [some (.ref m), none, none] S) = _
        rw [hS]
        dsimp only
        rw [e]
        have ul : ∀ x : D, unlock m (R.ok x (S.set m (.lok ks vs))) = .ok x S := fun x => by
          show (match (S.set m (.lok ks vs))[m]? with | some (.lok ks' vs') => R.ok x ((S.set m (.lok ks vs)).set m (.dic ks' vs')) | _ => .bad) = _
          rw [hS1]
          dsimp only
          rw [List.set_set]
          congr 1
          rw [← (List.getElem?_eq_some_iff.mp hS).2]
          exact List.set_getElem_self _
        exact ul _
      rw [copy_run p (by rw [t]; rfl) rfl, t, if_neg (by decide), if_neg (by decide), if_pos (by rfl), e_lockd, List.getElem?_cons_zero, el, R.bind_ok, dict_of p h2 h3]
      obtain ⟨k, rfl⟩ : ∃ m, k = m + 1 := ⟨k - 1, by omega⟩
      exact ⟨_, _, rfl, okS_dic (Nat.le_refl _) (by simp) g (by omega) h2 fun v hv => okS_gF p (h4 v hv), fun _ e => (by cases e), .inl ⟨_, rfl⟩⟩
    | lok _ _ => cases ho
end
end Mp
/-! Pl, part S: menus of values that are none; what is drawn of them, and its copy. -/
namespace Mp
open PySem
/-- the statements from a place on; the one at a place -/
def dr : Nat → Ss → Ss
  | 0, s => s
  | k + 1, .cons _ s => dr k s
  | _ + 1, .nil => .nil
def nth : Nat → Ss → Mp.S
  | 0, .cons s _ => s
  | k + 1, .cons _ s => nth k s
  | _, .nil => .pass
/-- a value that is none, in a store: plain, or an object from lo on -/
def Bd (P : D → Bool) (S : Store) (lo k : Nat) (x : D) : Prop := (gv k x = true ∧ P x = false) ∨ ∃ m o, x = .ref m ∧ lo ≤ m ∧ S[m]? = some o ∧ gO k o = true
theorem Bd.app {P : D → Bool} {S : Store} {lo k : Nat} {x : D} (h : Bd P S lo k x) (E : Store) : Bd P (S ++ E) lo k x := by
  rcases h with h | ⟨m, o, rfl, h1, h2, h3⟩
  · exact .inl h
  · exact .inr ⟨m, o, rfl, h1, app_get h2, h3⟩
theorem Bd.set {P : D → Bool} {S : Store} {lo k : Nat} {x : D} (h : Bd P S lo k x) {q : Nat} (hq : q < lo) (o : O) : Bd P (S.set q o) lo k x := by
  rcases h with h | ⟨m, o', rfl, h1, h2, h3⟩
  · exact .inl h
  · exact .inr ⟨m, o', rfl, h1, by rw [List.getElem?_set_ne (by omega)]; exact h2, h3⟩
theorem Bd.low {P : D → Bool} {S : Store} {lo lo' k : Nat} {x : D} (h : Bd P S lo k x) (hl : lo' ≤ lo) : Bd P S lo' k x := by
  rcases h with h | ⟨m, o, rfl, h1, h2, h3⟩
  · exact .inl h
  · exact .inr ⟨m, o, rfl, by omega, h2, h3⟩
theorem gF_pure {d : D} (h : gF d = true) : d.pure = true := by cases d <;> first | rfl | cases h
theorem gO_pure {k : Nat} {o : O} (h : gO k o = true) : o.pure = true := by
  cases o with
  | lst xs =>
    have h : (decide (xs.length ≤ 10000) && xs.all (gv k)) = true := h
    simp only [Bool.and_eq_true, List.all_eq_true] at h
    show pureL xs = true
    rw [pureL_all, List.all_eq_true]
    exact fun x hx => gv_pure (h.2 x hx)
  | dic ks vs =>
    obtain ⟨_, _, _, h⟩ := gd_dic h
    show pureL vs = true
    rw [pureL_all, List.all_eq_true]
    exact fun x hx => gF_pure (h x hx)
  | lok _ _ => cases h
/-- how a def that draws a value that is none ends -/
def Bo (P : D → Bool) (S : Store) (r : Nat) (c : Int) (k : Nat) (d : D) (S' : Store) : Prop := ∃ o', BoxOk c o' ∧ ((gv k d = true ∧ P d = false ∧ S' = S.set r o') ∨ ∃ ob, d = .ref S.length ∧ S' = S.set r o' ++ [ob] ∧ gO k ob = true)
theorem bad_end {P : D → Bool} {S S8 : Store} {r k : Nat} {o9 : O} {c : Int} {x : D} (h0 : S8[0]? = some o9) (hb : BoxOk c o9) (hx : Bd P S8 1 k x) : ∃ d S', backR false 1 (put1 S r) (.ok x S8) = .ok d S' ∧ Bo P S r c k d S' := by
  have hp1 : put1 S r S8 = some (S.set r o9) := by
    unfold put1
    rw [h0]
    dsimp only
    rw [hb.pure]
    rfl
  rcases hx with ⟨h1, h2⟩ | ⟨m, o, rfl, h1, h2, h3⟩
  · refine ⟨x, S.set r o9, ?_, o9, hb, .inl ⟨h1, h2, rfl⟩⟩
    unfold backR
    dsimp only
    rw [hp1]
    exact back_pure _ _ _ (gv_pure h1) _
  · refine ⟨.ref S.length, S.set r o9 ++ [o], ?_, o9, hb, .inr ⟨o, rfl, rfl, h3⟩⟩
    unfold backR
    dsimp only
    rw [hp1]
    dsimp only
    unfold back
    simp [D.pure, h1, h2, gO_pure h3]
/-- a copy of it -/
structure Cpy (P : D → Bool) (S : Store) (lo k : Nat) (c : D) : Prop where
  ok : okS S lo k S.length c = true
  nl : ∀ xs, c ≠ .lst xs
  no : P c = false
theorem Cpy.ne {P : D → Bool} {S : Store} {lo k : Nat} {c : D} (h : Cpy P S lo k c) : noexc c = true := okS_noexc h.ok
theorem Cpy.v {P : D → Bool} {S : Store} {lo k : Nat} {c : D} (h : Cpy P S lo k c) : vD S c = true := vD_okS h.ok
theorem Cpy.set {P : D → Bool} {S : Store} {lo k : Nat} {c : D} (h : Cpy P S lo k c) {q : Nat} (hq : q < lo) (o : O) : Cpy P (S.set q o) lo k c :=
  ⟨by rw [List.length_set]; exact okS_keep (Nat.le_refl _) (Nat.le_refl _) (fun n hn _ => by rw [List.getElem?_set_ne (by omega)]) h.ok, h.nl, h.no⟩
theorem Cpy.app {P : D → Bool} {S : Store} {lo k : Nat} {c : D} (h : Cpy P S lo k c) (E : Store) : Cpy P (S ++ E) lo k c :=
  ⟨okS_keep (Nat.le_refl _) (by simp) (fun n _ hn => by rw [List.getElem?_append_left hn]) h.ok, h.nl, h.no⟩
theorem bad_copied {T : Tab} {fz : Bool} (p : T "_law_copy" = some ((["value"] : List Str), (⟨1, 3, true, fz, copyB⟩ : Fn))) {P : D → Bool} (hP : ∀ d, P d = true → d.pure = true) {n k : Nat} (hn : k + 1 ≤ n) (hk : 2 ≤ k) {S S' : Store} {r : Nat} (hr : r < S.length) {c : Int} {d : D} (h : Bo P S r c k d S') :
    noexc d = true ∧ ∃ cc E o', phi T n "_law_copy" [d] [] [] S' = .ok cc (S' ++ E) ∧ (S' ++ E)[r]? = some o' ∧ BoxOk c o' ∧ S.length ≤ S'.length ∧ Cpy P (S' ++ E) S'.length (k + 1) cc := by
  obtain ⟨o', hb, h⟩ := h
  have hbv : Bv S' k d := by
    rcases h with ⟨h1, h2, h3⟩ | ⟨ob, rfl, rfl, h3⟩
    · exact .inl h1
    · exact .inr ⟨S.length, ob, rfl, by rw [List.getElem?_append_right (by simp)]; simp, h3⟩
  have hne : noexc d = true := by
    rcases h with ⟨h1, h2, h3⟩ | ⟨ob, rfl, rfl, h3⟩
    · exact gv_noexc h1
    · rfl
  have hl : S.length ≤ S'.length := by
    rcases h with ⟨h1, h2, rfl⟩ | ⟨ob, rfl, rfl, h3⟩ <;> simp
  have h0 : S'[r]? = some o' := by
    rcases h with ⟨h1, h2, rfl⟩ | ⟨ob, rfl, rfl, h3⟩
    · simp [hr]
    · refine app_get ?_
      simp [hr]
  obtain ⟨cc, E, e, h1, h2, h3⟩ := copy_bv p hn hk hbv
  refine ⟨hne, cc, E, o', e, app_get h0, hb, hl, h1, h2, ?_⟩
  cases hpc : P cc with
  | false => rfl
  | true =>
    have hcp := hP _ hpc
    rcases h3 with ⟨m, rfl⟩ | ⟨hg, he⟩
    · cases hcp
    · have := he hcp
      subst this
      rcases h with ⟨a1, a2, a3⟩ | ⟨ob, rfl, rfl, a3⟩
      · rw [hpc] at a2; cases a2
      · cases hcp
/-- plain data that are drawn and copied -/
theorem gv_copied {T : Tab} {fz : Bool} (p : T "_law_copy" = some ((["value"] : List Str), (⟨1, 3, true, fz, copyB⟩ : Fn))) {P : D → Bool} (hP : ∀ d, P d = true → d.pure = true) {n k : Nat} (hn : k + 1 ≤ n) (hk : 2 ≤ k) (S : Store) {d : D} (h : gv k d = true) (hd : P d = false) :
    ∃ cc E, phi T n "_law_copy" [d] [] [] S = .ok cc (S ++ E) ∧ Cpy P (S ++ E) S.length (k + 1) cc := by
  obtain ⟨cc, E, e, h1, h2, h3⟩ := copy_bv p hn hk (S := S) (.inl h)
  refine ⟨cc, E, e, h1, h2, ?_⟩
  cases hpc : P cc with
  | false => rfl
  | true =>
    have hcp := hP _ hpc
    rcases h3 with ⟨m, rfl⟩ | ⟨hg, he⟩
    · cases hcp
    · have := he hcp
      subst this
      rw [hpc] at hd; cases hd
/-- menu + [..] -/
theorem menu_add {Φ : Phi} {e1 e2 : Mp.E} {ρ : Env} {S S1 E : Store} {k : Nat} {M Y : List D} (h1 : evE Φ e1 ρ S = .ok (.ref k) S1) (hk : S1[k]? = some (.lst M)) (h2 : evE Φ e2 ρ S1 = .ok (.ref (S1.length + E.length)) (S1 ++ E ++ [.lst Y])) (hl : M.length + Y.length ≤ 16777216) :
    evE Φ (.bin .Add false e1 e2) ρ S = .ok (.ref (S1.length + E.length + 1)) (S1 ++ E ++ [.lst Y] ++ [.lst (M ++ Y)]) := by
  rw [e_bin, h1, R.bind_ok, h2, R.bind_ok, add_rr (app_get (app_get hk)) (by rw [← List.length_append]; exact end_get _ _) hl]
  simp [Nat.add_assoc]
theorem add_rl {S : Store} {a : Nat} {x y : List D} (h1 : S[a]? = some (.lst x)) (hl : x.length + y.length ≤ 16777216) : binop .Add true (.ref a) (.lst y) S = .ok (.lst (x ++ y)) S := by
  have e1 : lstOf S (.ref a) = some x := by simp only [lstOf, h1]
  show (match lstOf S (.ref a) with
      | some x => (match lstOf S (.lst y) with | some y => if x.length + y.length ≤ line then alloc true (x ++ y) S else R.bad | none => R.bad)
      | none => R.bad) = _
  rw [e1, lst_lst]
  dsimp only
  rw [if_pos (show x.length + y.length ≤ line from hl)]
  rfl
theorem mul_ref {S : Store} {a k : Nat} {x : D} (h1 : S[a]? = some (.lst [x])) (hk : k ≤ 1000) : binop .Mult false (.ref a) (.int (k : Int)) S = .ok (.ref S.length) (S ++ [.lst (List.replicate k x)]) := by
  have e1 : lstOf S (.ref a) = some [x] := by simp only [lstOf, h1]
  show (match lstOf S (.ref a) with | some x => if -(2 ^ 63) ≤ (k : Int) ∧ (k : Int) < 2 ^ 63 ∧ x.length * (k : Int).toNat ≤ line then alloc false (repL x (k : Int).toNat) S else .bad | none => .bad) = _
  rw [e1]
  dsimp only
  have h3 : [x].length * ((k : Int)).toNat ≤ line := by
    rw [List.length_singleton, Nat.one_mul, Int.toNat_natCast]
    exact Nat.le_trans hk (by decide)
  rw [if_pos ⟨by omega, by omega, h3⟩, Int.toNat_natCast, repL_one]
  rfl
/-- a menu in the store -/
structure Mn (P : D → Bool) (lo k : Nat) (S : Store) (a : Nat) (M : List D) : Prop where
  at_ : S[a]? = some (.lst M)
  lo_ : lo ≤ a
  ok : ∀ x ∈ M, Bd P S lo k x ∧ ∀ q, x = .ref q → q < a
theorem Mn.app {P : D → Bool} {lo k : Nat} {S : Store} {a : Nat} {M : List D} (h : Mn P lo k S a M) (E : Store) : Mn P lo k (S ++ E) a M := ⟨app_get h.at_, h.lo_, fun x hx => ⟨(h.ok x hx).1.app E, (h.ok x hx).2⟩⟩
theorem Mn.set {P : D → Bool} {lo k : Nat} {S : Store} {a : Nat} {M : List D} (h : Mn P lo k S a M) {q : Nat} (hq : q < lo) (o : O) : Mn P lo k (S.set q o) a M := by
  have := h.lo_
  exact ⟨by rw [List.getElem?_set_ne (by omega)]; exact h.at_, h.lo_, fun x hx => ⟨(h.ok x hx).1.set hq o, (h.ok x hx).2⟩⟩
theorem Mn.push {P : D → Bool} {lo k : Nat} {S : Store} {a : Nat} {M : List D} (h : Mn P lo k S a M) {y : D} (hy : gv k y = true ∧ P y = false) : Mn P lo k (S.set a (.lst (M ++ [y]))) a (M ++ [y]) := by
  have hlt := (List.getElem?_eq_some_iff.mp h.at_).1
  refine ⟨by simp [hlt], h.lo_, fun x hx => ?_⟩
  rcases List.mem_append.mp hx with hx | hx
  · obtain ⟨h1, h2⟩ := h.ok x hx
    refine ⟨?_, h2⟩
    rcases h1 with h1 | ⟨m, o, rfl, a1, a2, a3⟩
    · exact .inl h1
    · have := h2 m rfl
      exact .inr ⟨m, o, rfl, a1, by rw [List.getElem?_set_ne (by omega)]; exact a2, a3⟩
  · have : x = y := by simpa using hx
    subst this
    refine ⟨.inl hy, fun q e => ?_⟩
    subst e
    have := gv_pure hy.1
    cases this
theorem Mn.add {P : D → Bool} {lo k : Nat} {S : Store} {a : Nat} {M : List D} (h : Mn P lo k S a M) (E : Store) {Y : List D} (hY : ∀ y ∈ Y, gv k y = true ∧ P y = false) : Mn P lo k (S ++ E ++ [.lst Y] ++ [.lst (M ++ Y)]) (S.length + E.length + 1) (M ++ Y) := by
  have hlt := (List.getElem?_eq_some_iff.mp h.at_).1
  have := h.lo_
  refine ⟨?_, by omega, fun x hx => ?_⟩
  · have e : S.length + E.length + 1 = (S ++ E ++ [O.lst Y]).length := by simp [Nat.add_assoc]
    rw [e]
    exact end_get _ _
  rcases List.mem_append.mp hx with hx | hx
  · obtain ⟨h1, h2⟩ := h.ok x hx
    exact ⟨((h1.app E).app _).app _, fun q e => by have := h2 q e; omega⟩
  · refine ⟨.inl (hY x hx), fun q e => ?_⟩
    subst e
    have := gv_pure (hY _ hx).1
    cases this
def updD (f : Nat → Nat → D) (i j : Nat) (x : D) (a b : Nat) : D := if a = i ∧ b = j then x else f a b
/-- a matrix of values -/
def matD (m : Nat) (f : Nat → Nat → D) : D := .tup ((List.range m).map fun a => .tup ((List.range m).map fun b => f a b))
theorem mat_inv {m k : Nat} {F : Nat → Nat → D} {H : List (List Int)} (hk : H.length = k) (hr : ∀ r ∈ H, r.length = k) (e : matD m F = mD H) : m = k ∧ ∀ a b, a < m → b < m → F a b = .int (ent H a b) := by
  have e1 := D.tup.inj e
  have el := congrArg List.length e1
  simp only [List.length_map, List.length_range] at el
  have hm : m = k := by omega
  subst hm
  refine ⟨rfl, fun a b ha hb => ?_⟩
  have e2 := congrArg (fun l => l[a]?) e1
  have hH : a < H.length := by omega
  simp only [List.getElem?_map, List.getElem?_range ha, Option.map_some, List.getElem?_eq_getElem hH] at e2
  have e3 := D.tup.inj (Option.some.inj e2)
  have e4 := congrArg (fun l => l[b]?) e3
  have hb' : b < H[a].length := by rw [hr _ (List.getElem_mem hH)]; exact hb
  simp only [List.getElem?_map, List.getElem?_range hb, Option.map_some, List.getElem?_eq_getElem hb'] at e4
  rw [Option.some.inj e4]
  simp [ent, List.getD_eq_getElem?_getD, hH, hb']
theorem matD_gv {m k : Nat} {f : Nat → Nat → D} (hm : m ≤ 1000) (h : ∀ a b, a < m → b < m → gv k (f a b) = true) : gv (k + 2) (matD m f) = true := by
  refine gv_tup (by simp; omega) fun x hx => ?_
  obtain ⟨a, ha, rfl⟩ := List.mem_map.mp hx
  refine gv_tup (by simp; omega) fun y hy => ?_
  obtain ⟨b, hb, rfl⟩ := List.mem_map.mp hy
  exact h a b (List.mem_range.mp ha) (List.mem_range.mp hb)
theorem rows_mat {m : Nat} {ws : List (List Int)} (hl : ws.length = m) (hr : ∀ r ∈ ws, r.length = m) : ws.map (fun r => O.lst (r.map .int)) = rowsO m fun i j => .int (ent ws i j) := by
  subst hl
  unfold rowsO
  refine List.ext_getElem (by simp) fun i h1 h2 => ?_
  have hi : i < ws.length := by simpa using h1
  simp only [List.getElem_map, List.getElem_range]
  congr 1
  have hl := hr _ (List.getElem_mem hi)
  refine List.ext_getElem (by simp [hl]) fun j h3 h4 => ?_
  have hj : j < ws[i].length := by simpa using h3
  simp [ent, List.getD_eq_getElem?_getD, hi, hj]
/-- a matrix read of its rows in the store -/
theorem mat_comp {Φ : Phi} {ρ : Mp.Env} {S : Store} {m v w k p : Nat} {f : Nat → Nat → D} (h8 : m ≤ 1000) (hv : ρ[v]? = some (some (.ref k))) (hw : w < ρ.length) (hk : S[k]? = some (.lst ((List.range m).map fun i => .ref (p + i)))) (hr : ∀ a, a < m → S[p + a]? = some (.lst ((List.range m).map fun b => f a b))) :
    evE Φ (.comp true [w] (.n w) (.e (.v v)) .nil (.elt (.blt .tuple true (.cons (.v w) .nil)))) ρ S = .ok (.lst ((List.range m).map fun a => .tup ((List.range m).map fun b => f a b))) S := by
  obtain ⟨src, q1, q2⟩ := seq_src (seq_ref hk)
  refine comp_list (F := fun i => .ref (p + i)) (l := List.range m) (src := src) ?_ q2 (by simp; omega) fun a ha => ?_
  · rw [i_e, e_v, hv, slotR_ref, R.bind_ok, q1]
  · have q := seq_ref (hr a (List.mem_range.mp ha))
    have gw : ((ρ.set w none).set w (some (D.ref (p + a))))[w]? = some (some (D.ref (p + a))) := by simp [hw]
    rw [t_n]
    show evCl Φ (.elt (.blt .tuple true (.cons (.v w) .nil))) ((ρ.set w none).set w (some (D.ref (p + a)))) S = _
    rw [cl_elt, e_blt, es_cons_, e_v, gw, slotR_ref, R.bind_ok, es_nil_, R.bind_ok, R.bind_ok, b_tuple, q]
    rfl
/-- a box, the rows of a matrix, their list -/
def SG (m : Nat) (b : O) (f : Nat → Nat → D) : Store := [b] ++ rowsO m f ++ [.lst ((List.range m).map fun i => .ref (1 + i))]
theorem SG_len (m : Nat) (b : O) (f : Nat → Nat → D) : (SG m b f).length = 2 + m := by simp [SG]; omega
theorem SG_row {m : Nat} (b : O) (f : Nat → Nat → D) {i : Nat} (hi : i < m) : (SG m b f)[1 + i]? = some (.lst ((List.range m).map fun j => f i j)) := rows_get (pre := [b]) _ hi
theorem SG_end (m : Nat) (b : O) (f : Nat → Nat → D) : (SG m b f)[1 + m]? = some (.lst ((List.range m).map fun i => .ref (1 + i))) := rows_end [b] _ []
theorem SG_set {m : Nat} (b : O) (f : Nat → Nat → D) {i j : Nat} (hi : i < m) (hj : j < m) (x : D) : (SG m b f).set (1 + i) (.lst (((List.range m).map fun j => f i j).set j x)) = SG m b (updD f i j x) :=
  rows_set (f := f) (pre := [b]) [.lst ((List.range m).map fun i => .ref (1 + i))] hi hj x
/-- the box, a matrix, a menu -/
structure GI (P : D → Bool) (o : O) (m : Nat) (f : Nat → Nat → D) (k : Nat) (S : Store) (a : Nat) (M : List D) : Prop where
  box : S[0]? = some o
  row : ∀ i, i < m → S[1 + i]? = some (.lst ((List.range m).map fun b => f i b))
  en : S[1 + m]? = some (.lst ((List.range m).map fun i => .ref (1 + i)))
  mn : Mn P (2 + m) k S a M
section
variable {P : D → Bool} {o : O} {m : Nat} {f : Nat → Nat → D} {k : Nat} {S : Store} {a : Nat} {M : List D} (h : GI P o m f k S a M)
include h
theorem GI.app (E : Store) : GI P o m f k (S ++ E) a M := ⟨app_get h.box, fun i hi => app_get (h.row i hi), app_get h.en, h.mn.app E⟩
theorem GI.push {y : D} (hy : gv k y = true ∧ P y = false) : GI P o m f k (S.set a (.lst (M ++ [y]))) a (M ++ [y]) := by
  have := h.mn.lo_
  exact ⟨by rw [List.getElem?_set_ne (by omega)]; exact h.box, fun i hi => by rw [List.getElem?_set_ne (by omega)]; exact h.row i hi, by rw [List.getElem?_set_ne (by omega)]; exact h.en, h.mn.push hy⟩
theorem GI.add (E : Store) {Y : List D} (hY : ∀ y ∈ Y, gv k y = true ∧ P y = false) : GI P o m f k (S ++ E ++ [.lst Y] ++ [.lst (M ++ Y)]) (S.length + E.length + 1) (M ++ Y) := by
  have q := ((h.app E).app [.lst Y]).app [.lst (M ++ Y)]
  exact ⟨q.box, q.row, q.en, h.mn.add E hY⟩
theorem GI.upd {i j : Nat} (hi : i < m) (hj : j < m) (x : D) : GI P o m (updD f i j x) k (S.set (1 + i) (.lst (((List.range m).map fun b => f i b).set j x))) a M := by
  have hlt := (List.getElem?_eq_some_iff.mp (h.row i hi)).1
  refine ⟨by rw [List.getElem?_set_ne (by omega)]; exact h.box, fun b hb => ?_, by rw [List.getElem?_set_ne (by omega)]; exact h.en, h.mn.set (by omega) _⟩
  by_cases e : i = b
  · subst e
    rw [List.getElem?_set_self hlt]
    congr 2
    refine List.ext_getElem (by simp) fun c h3 h4 => ?_
    rw [List.getElem_set]
    by_cases e2 : j = c
    · subst e2; simp [updD]
    · simp [e2, Ne.symm e2, updD]
  · rw [List.getElem?_set_ne (by omega), h.row b hb]
    congr 2
    refine List.map_congr_left fun c _ => ?_
    unfold updD
    rw [if_neg (fun z => e z.1.symm)]
end
theorem updD_upd (f : Nat → Nat → D) (i j : Nat) (x y : D) : updD (updD f i j x) i j y = updD f i j y := by
  funext a b
  unfold updD
  by_cases z : a = i ∧ b = j
  · rw [if_pos z, if_pos z]
  · rw [if_neg z, if_neg z, if_neg z]
/-! ### data that may be handed about -/
theorem gvI (k : Nat) {l : List Int} (h : l.length ≤ 1000) (hb : ∀ x ∈ l, x.natAbs < 2 ^ 1000) : gv (k + 2) (iD l) = true := by
  refine gv_tup (by rw [List.length_map]; omega) fun x hx => ?_
  obtain ⟨i, hi, rfl⟩ := List.mem_map.mp hx
  exact decide_eq_true (hb i hi)
theorem gvM (k : Nat) {G : List (List Int)} (h : G.length ≤ 1000) (hr : ∀ r ∈ G, r.length ≤ 1000) (hb : ∀ r ∈ G, ∀ x ∈ r, x.natAbs < 2 ^ 1000) : gv (k + 3) (mD G) = true := by
  refine gv_tup (by rw [List.length_map]; omega) fun x hx => ?_
  obtain ⟨r, hr', rfl⟩ := List.mem_map.mp hx
  exact gvI k (hr r hr') (hb r hr')
theorem gv_i {k : Nat} {i : Int} (h : i.natAbs < 2 ^ 1000) : gv (k + 1) (.int i) = true := decide_eq_true h
theorem gv_small {k : Nat} {i : Int} (h : i.natAbs < 1000000) : gv (k + 1) (.int i) = true := by
  refine gv_i (Nat.lt_trans h ?_)
  exact Nat.lt_of_lt_of_le (by decide : 1000000 < 2 ^ 20) (Nat.pow_le_pow_right (by decide) (by decide))
end Mp
/-! Pl, part T: an error's word and its very object. -/
namespace Mp
open PySem
theorem cmp_str {t : Str} (ht : shp (.str t) = true) (S : Store) : cmpop .Eq (.str t) (.str t) S = some true := by
  show eqD S (.str t) (.str t) = some true
  simp [eqD, toPyS, toPy, ht, PyData.eqv]
theorem cmp_strn {t : Str} (ht : shp (.str t) = true) (S : Store) : cmpop .NotEq (.str t) (.str t) S = some false := by
  show (eqD S (.str t) (.str t)).map not = some false
  simp [eqD, toPyS, toPy, ht, PyData.eqv]
def chkS (a b : Nat) (t : Str) : Mp.S := .ife (.bor (.cons (.cmp .NotEq (.ix (.v a) (.k (.int 0))) (.k (.str t))) (.cons (.bnot (.call "_law_very" (.cons (.ix (.v a) (.k (.int 1))) (.cons (.v b) .nil)) [] .nil)) .nil))) (.cons (.ret (.k (.bl false))) .nil) .nil
theorem chk_ok {T : Tab} {fz fz' : Bool} (p : T "_law_same" = some ((["given", "due"] : List Str), (⟨2, 4, true, fz, sameB⟩ : Fn))) (q : T "_law_very" = some ((["given", "value"] : List Str), (⟨2, 2, true, fz', veryB⟩ : Fn))) {P : D → Bool} {n k lo a b : Nat} (hk : 2 ≤ k) (hn : k + 2 ≤ n) {S : Store} {cc : D} (c : Cpy P S lo k cc) (h0 : 0 < lo) {t : Str} (ht : shp (.str t) = true) {ρ : Mp.Env} (ha : ρ[a]? = some (some (.lst [.str t, cc]))) (hb : ρ[b]? = some (some cc)) :
    ∃ S', evS (phi T n) (chkS a b t) ρ S = .nx ρ S' ∧ S'.length = S.length ∧ ∀ m, m < lo → S'[m]? = S[m]? := by
  obtain ⟨S', e, hl, hm⟩ := very_S p q hk hn c.ok c.nl
  refine ⟨S', ?_, hl, hm⟩
  have g0 : L2.atI [D.str t, cc] 0 = some (.str t) := rfl
  have g1 : L2.atI [D.str t, cc] 1 = some cc := rfl
  have sb := slotR_some c.ne S
  simp [chkS, ha, hb, g0, g1, cmp_strn ht, sb, e]
end Mp
namespace Lk74
open PySem PySem.Spec PyProof.Rows L2 Mp
def top (i : Nat) : Stmt := PySem.Challenge.pw_realagain_k74_moments.main.body.getD i (.Pass ⟨0, 0, 0, 0⟩)
def l1_divisor_of : Ss := (.cons (.asg (.n 1) (.blt .gcd true (.cons (.v 1) (.cons (.v 2) .nil)))) .nil)
def bdivisor_of : Ss := (.cons (.asg (.n 1) (.k (.int 0))) (.cons (.each (.n 2) (.e (.v 0)) l1_divisor_of) (.cons (.ret (.v 1)) .nil)))
def ddivisor_of : Fn := ⟨1, 3, true, true, bdivisor_of⟩
def c1_leads : E := (.comp true [2] (.n 2) (.rng (.cons (.blt .len true (.cons (.v 1) .nil)) .nil)) .nil (.elt (.bin .Mult true (.ix (.v 3) (.v 2)) (.ix (.v 1) (.v 2)))))
def c2_leads : E := (.comp true [3] (.n 3) (.e (.ix (.v 0) (.k (.int 1)))) .nil (.elt (.blt .sum true (.cons c1_leads .nil))))
def bleads : Ss := (.cons (.ret (.blt .tuple true (.cons c2_leads .nil))) .nil)
def dleads : Fn := ⟨2, 4, true, true, bleads⟩
def c1_product_in : E := (.comp true [3] (.n 3) (.rng (.cons (.blt .len true (.cons (.v 0) .nil)) .nil)) .nil (.elt (.bin .Mult true (.bin .Mult true (.ix (.v 0) (.v 3)) (.ix (.v 1) (.v 3))) (.ix (.v 2) (.v 3)))))
def bproduct_in : Ss := (.cons (.ret (.blt .sum true (.cons c1_product_in .nil))) .nil)
def dproduct_in : Fn := ⟨3, 4, true, true, bproduct_in⟩
def bis_integer : Ss := (.cons (.ret (.band (.cons (.blt .isinst true (.cons (.v 0) (.cons (.kty "int") .nil))) (.cons (.bnot (.blt .isinst true (.cons (.v 0) (.cons (.kty "bool") .nil)))) .nil)))) .nil)
def dis_integer : Fn := ⟨1, 1, true, true, bis_integer⟩
def bis_within : Ss := (.cons (.ret (.band (.cons (.call "is_integer" (.cons (.v 0) .nil) [] .nil) (.cons (.chain .LtE .LtE (.v 1) (.v 0) (.v 2)) .nil)))) .nil)
def dis_within : Fn := ⟨3, 3, true, true, bis_within⟩
def bis_tuple : Ss := (.cons (.ret (.band (.cons (.blt .isinst true (.cons (.v 0) (.cons (.kty "tuple") .nil))) (.cons (.cmp .Eq (.blt .len true (.cons (.v 0) .nil)) (.v 1)) .nil)))) .nil)
def dis_tuple : Fn := ⟨2, 2, true, true, bis_tuple⟩
def c1_is_integers : E := (.comp true [1] (.n 1) (.e (.v 0)) .nil (.elt (.call "is_integer" (.cons (.v 1) .nil) [] .nil)))
def bis_integers : Ss := (.cons (.ret (.band (.cons (.blt .isinst true (.cons (.v 0) (.cons (.kty "tuple") .nil))) (.cons (.blt .all true (.cons c1_is_integers .nil)) .nil)))) .nil)
def dis_integers : Fn := ⟨1, 2, true, true, bis_integers⟩
def bis_row : Ss := (.cons (.ret (.band (.cons (.call "is_integers" (.cons (.v 0) .nil) [] .nil) (.cons (.cmp .Eq (.blt .len true (.cons (.v 0) .nil)) (.v 1)) .nil)))) .nil)
def dis_row : Fn := ⟨2, 2, true, true, bis_row⟩
def c1_is_square : E := (.comp true [2] (.n 2) (.e (.v 0)) .nil (.elt (.call "is_row" (.cons (.v 2) (.cons (.v 1) .nil)) [] .nil)))
def bis_square : Ss := (.cons (.ret (.band (.cons (.call "is_tuple" (.cons (.v 0) (.cons (.v 1) .nil)) [] .nil) (.cons (.blt .all true (.cons c1_is_square .nil)) .nil)))) .nil)
def dis_square : Fn := ⟨2, 3, true, true, bis_square⟩
def c1_is_masses : E := (.comp true [1] (.n 1) (.e (.v 0)) .nil (.elt (.cmp .Gt (.v 1) (.k (.int 0)))))
def bis_masses : Ss := (.cons (.ret (.band (.cons (.call "is_integers" (.cons (.v 0) .nil) [] .nil) (.cons (.chain .LtE .LtE (.k (.int 1)) (.blt .len true (.cons (.v 0) .nil)) (.gk "MOST_NODES" (.int 8))) (.cons (.blt .all true (.cons c1_is_masses .nil)) .nil))))) .nil)
def dis_masses : Fn := ⟨1, 2, true, true, bis_masses⟩
def c1_is_even_by : E := (.comp true [3, 4] (.n 3) (.rng (.cons (.v 2) .nil)) .nil (.each [4] (.n 4) (.rng (.cons (.v 3) .nil)) .nil (.cmp .Eq (.bin .Mult true (.ix (.v 0) (.v 3)) (.ix (.ix (.v 1) (.v 3)) (.v 4))) (.bin .Mult true (.ix (.v 0) (.v 4)) (.ix (.ix (.v 1) (.v 4)) (.v 3))))))
def bis_even_by : Ss := (.cons (.asg (.n 2) (.blt .len true (.cons (.v 0) .nil))) (.cons (.ret (.blt .all true (.cons c1_is_even_by .nil))) .nil))
def dis_even_by : Fn := ⟨2, 5, true, true, bis_even_by⟩
def bis_graph : Ss := (.cons (.ife (.bor (.cons (.bnot (.call "is_tuple" (.cons (.v 0) (.cons (.k (.int 2)) .nil)) [] .nil)) (.cons (.bnot (.call "is_masses" (.cons (.ix (.v 0) (.k (.int 0))) .nil) [] .nil)) (.cons (.bnot (.call "is_square" (.cons (.ix (.v 0) (.k (.int 1))) (.cons (.blt .len true (.cons (.ix (.v 0) (.k (.int 0))) .nil)) .nil)) [] .nil)) .nil)))) (.cons (.ret (.k (.bl false))) .nil) .nil) (.cons (.ret (.call "is_even_by" (.cons (.ix (.v 0) (.k (.int 0))) (.cons (.ix (.v 0) (.k (.int 1))) .nil)) [] .nil)) .nil))
def dis_graph : Fn := ⟨1, 1, true, true, bis_graph⟩
def bcheck_graph : Ss := (.cons (.ife (.bnot (.call "is_graph" (.cons (.v 0) .nil) [] .nil)) (.cons (.raise "InvalidGraph" (.cons (.v 0) .nil)) .nil) .nil) .nil)
def dcheck_graph : Fn := ⟨1, 1, true, true, bcheck_graph⟩
def c1_is_plain_ray : E := (.comp true [1] (.n 1) (.e (.v 0)) (.cons (.cmp .NotEq (.v 1) (.k (.int 0))) .nil) (.elt (.v 1)))
def bis_plain_ray : Ss := (.cons (.ife (.bor (.cons (.bnot (.call "is_integers" (.cons (.v 0) .nil) [] .nil)) (.cons (.bnot (.chain .LtE .LtE (.k (.int 1)) (.blt .len true (.cons (.v 0) .nil)) (.gk "MOST_NODES" (.int 8)))) (.cons (.cmp .NotEq (.call "divisor_of" (.cons (.v 0) .nil) [] .nil) (.k (.int 1))) .nil)))) (.cons (.ret (.k (.bl false))) .nil) .nil) (.cons (.ret (.cmp .Gt (.ix c1_is_plain_ray (.k (.int 0))) (.k (.int 0)))) .nil))
def dis_plain_ray : Fn := ⟨1, 2, true, true, bis_plain_ray⟩
def bfits_ray : Ss := (.cons (.ret (.band (.cons (.call "is_plain_ray" (.cons (.v 1) .nil) [] .nil) (.cons (.cmp .Eq (.blt .len true (.cons (.v 1) .nil)) (.blt .len true (.cons (.ix (.v 0) (.k (.int 0))) .nil))) .nil)))) .nil)
def dfits_ray : Fn := ⟨2, 2, true, true, bfits_ray⟩
def bcheck_ray : Ss := (.cons (.ife (.bnot (.call "fits_ray" (.cons (.v 0) (.cons (.v 1) .nil)) [] .nil)) (.cons (.raise "InvalidRay" (.cons (.v 1) .nil)) .nil) .nil) .nil)
def dcheck_ray : Fn := ⟨2, 2, true, true, bcheck_ray⟩
def l1_moments : Ss := (.cons (.ex (.meth .append (.v 3) (.cons (.call "product_in" (.cons (.ix (.v 0) (.k (.int 0))) (.cons (.v 1) (.cons (.v 4) .nil))) [] .nil) .nil))) (.cons (.asg (.n 4) (.call "leads" (.cons (.v 0) (.cons (.v 4) .nil)) [] .nil)) .nil))
def bmoments : Ss := (.cons (.ex (.call "check_graph" (.cons (.v 0) .nil) [] .nil)) (.cons (.ex (.call "check_ray" (.cons (.v 0) (.cons (.v 1) .nil)) [] .nil)) (.cons (.ife (.bnot (.call "is_within" (.cons (.v 2) (.cons (.k (.int 1)) (.cons (.gk "MOST_MOMENTS" (.int 16)) .nil))) [] .nil)) (.cons (.raise "InvalidNumber" (.cons (.v 2) .nil)) .nil) .nil) (.cons (.asg (.t (.cons (.n 3) (.cons (.n 4) .nil))) (.tup (.cons (.lst false .nil) (.cons (.v 1) .nil)))) (.cons (.each (.n 5) (.rng (.cons (.v 2) .nil)) l1_moments) (.cons (.ret (.blt .tuple true (.cons (.v 3) .nil))) .nil))))))
def dmoments : Fn := ⟨3, 6, true, true, bmoments⟩
def bf_law_cell : Ss := (.cons (.ret (.ife (.cmp .Lt (.v 1) (.blt .len true (.cons (.v 0) .nil))) (.ix (.v 0) (.v 1)) (.bin .Add true (.bin .Mult true (.k (.int 7451)) (.v 1)) (.bin .Mod true (.blt .int true (.cons (.blt .sum true (.cons (.sl true (.v 0) .nil (.cons (.k (.int 1)) .nil)) .nil)) .nil)) (.k (.int 1000033)))))) .nil)
def df_law_cell : Fn := ⟨2, 2, true, true, bf_law_cell⟩
def bf_law_box : Ss := (.cons (.ret (.lst false (.cons (.blt .abs true (.cons (.v 0) .nil)) (.cons (.cmp .GtE (.blt .abs true (.cons (.v 0) .nil)) (.bin .Pow true (.k (.int 10)) (.k (.int 18)))) (.cons (.bin .Mod true (.blt .int true (.cons (.blt .abs true (.cons (.v 0) .nil)) .nil)) (.k (.int 2147483629))) (.cons (.k (.int 0)) .nil)))))) .nil)
def df_law_box : Fn := ⟨1, 1, false, false, bf_law_box⟩
def bf_law_take : Ss := (.cons (.ife (.band (.cons (.ix (.v 0) (.k (.int 1))) (.cons (.cmp .Gt (.ix (.v 0) (.k (.int 0))) (.k (.int 0))) .nil))) (.cons (.asg (.n 2) (.bin .Mod true (.blt .int true (.cons (.ix (.v 0) (.k (.int 0))) .nil)) (.v 1))) (.cons (.asg (.s (.v 0) (.k (.int 0))) (.bin .FloorDiv true (.ix (.v 0) (.k (.int 0))) (.v 1))) (.cons (.ret (.v 2)) .nil))) .nil) (.cons (.asg (.s (.v 0) (.k (.int 3))) (.bin .Add true (.ix (.v 0) (.k (.int 3))) (.k (.int 1)))) (.cons (.asg (.n 3) (.bin .Mod true (.blt .int true (.cons (.bin .Pow true (.bin .Add true (.bin .Add true (.ix (.v 0) (.k (.int 2))) (.bin .Mult true (.k (.int 15486013)) (.ix (.v 0) (.k (.int 3))))) (.k (.int 179424907))) (.k (.int 5))) .nil)) (.k (.int 2147483647)))) (.cons (.ret (.bin .Mod true (.blt .int true (.cons (.bin .FloorDiv true (.bin .Mod true (.blt .int true (.cons (.bin .Pow true (.bin .Add true (.bin .Mult true (.v 3) (.k (.int 48271))) (.bin .Mult true (.k (.int 104831)) (.ix (.v 0) (.k (.int 3))))) (.k (.int 3))) .nil)) (.k (.int 2147483587))) (.k (.int 64))) .nil)) (.v 1))) .nil))))
def df_law_take : Fn := ⟨2, 4, true, true, bf_law_take⟩
def bf_law_pick : Ss := (.cons (.ret (.ix (.v 1) (.call "_law_take" (.cons (.v 0) (.cons (.blt .len true (.cons (.v 1) .nil)) .nil)) [] .nil))) .nil)
def df_law_pick : Fn := ⟨2, 2, true, false, bf_law_pick⟩
def c1__law_same : E := (.comp true [3] (.n 3) (.rng (.cons (.blt .len true (.cons (.v 1) .nil)) .nil)) (.cons (.bnot (.call "_law_same" (.cons (.ix (.v 0) (.v 3)) (.cons (.ix (.v 1) (.v 3)) .nil)) [] .nil)) .nil) (.elt (.v 3)))
def c2__law_same : E := (.comp true [2] (.n 2) (.e (.v 1)) (.cons (.bor (.cons (.cmp .NotIn (.v 2) (.v 0)) (.cons (.bnot (.call "_law_same" (.cons (.ix (.v 0) (.v 2)) (.cons (.ix (.v 1) (.v 2)) .nil)) [] .nil)) .nil))) .nil) (.elt (.v 2)))
def bf_law_same : Ss := (.cons (.ife (.bor (.cons (.cmp .Is (.v 1) (.k .non)) (.cons (.blt .isinst true (.cons (.v 1) (.cons (.kty "bool") .nil))) .nil))) (.cons (.ret (.ife (.cmp .Is (.v 1) (.k .non)) (.cmp .Is (.v 0) (.k .non)) (.band (.cons (.blt .isinst true (.cons (.v 0) (.cons (.kty "bool") .nil))) (.cons (.cmp .Eq (.cmp .Is (.v 0) (.k (.bl true))) (.cmp .Is (.v 1) (.k (.bl true)))) .nil))))) .nil) .nil) (.cons (.ife (.blt .isinst true (.cons (.v 1) (.cons (.kty "int") .nil))) (.cons (.ret (.band (.cons (.blt .isinst true (.cons (.v 0) (.cons (.kty "int") .nil))) (.cons (.bnot (.blt .isinst true (.cons (.v 0) (.cons (.kty "bool") .nil)))) (.cons (.cmp .Eq (.bin .Sub true (.blt .int true (.cons (.v 0) .nil)) (.v 1)) (.k (.int 0))) .nil))))) .nil) .nil) (.cons (.ife (.blt .isinst true (.cons (.v 1) (.cons (.kty "str") .nil))) (.cons (.ret (.band (.cons (.blt .isinst true (.cons (.v 0) (.cons (.kty "str") .nil))) (.cons (.cmp .Eq (.v 0) (.v 1)) .nil)))) .nil) .nil) (.cons (.ife (.blt .isinst true (.cons (.v 1) (.cons (.kty "dict") .nil))) (.cons (.ife (.bor (.cons (.bnot (.blt .isinst true (.cons (.v 0) (.cons (.kty "dict") .nil)))) (.cons (.cmp .NotEq (.blt .len true (.cons (.v 0) .nil)) (.blt .len true (.cons (.v 1) .nil))) .nil))) (.cons (.ret (.k (.bl false))) .nil) .nil) (.cons (.ret (.cmp .Eq (.lockd 1 c2__law_same) (.lst true .nil))) .nil)) .nil) (.cons (.ife (.bor (.cons (.bnot (.blt .isinst true (.cons (.v 1) (.cons (.tup (.cons (.kty "list") (.cons (.kty "tuple") .nil))) .nil)))) (.cons (.bnot (.blt .isinst true (.cons (.v 0) (.cons (.tup (.cons (.kty "list") (.cons (.kty "tuple") .nil))) .nil)))) .nil))) (.cons (.ret (.k (.bl false))) .nil) .nil) (.cons (.ife (.bor (.cons (.cmp .NotEq (.blt .isinst true (.cons (.v 0) (.cons (.kty "list") .nil))) (.blt .isinst true (.cons (.v 1) (.cons (.kty "list") .nil)))) (.cons (.cmp .NotEq (.blt .len true (.cons (.v 0) .nil)) (.blt .len true (.cons (.v 1) .nil))) .nil))) (.cons (.ret (.k (.bl false))) .nil) .nil) (.cons (.ret (.cmp .Eq c1__law_same (.lst true .nil))) .nil)))))))
def df_law_same : Fn := ⟨2, 4, true, true, bf_law_same⟩
def c1__law_copy : E := (.comp true [2] (.n 2) (.e (.v 0)) .nil (.elt (.tup (.cons (.v 2) (.cons (.call "_law_copy" (.cons (.ix (.v 0) (.v 2)) .nil) [] .nil) .nil)))))
def c2__law_copy : E := (.comp true [1] (.n 1) (.e (.v 0)) .nil (.elt (.call "_law_copy" (.cons (.v 1) .nil) [] .nil)))
def c3__law_copy : E := (.comp false [1] (.n 1) (.e (.v 0)) .nil (.elt (.call "_law_copy" (.cons (.v 1) .nil) [] .nil)))
def bf_law_copy : Ss := (.cons (.ife (.blt .isinst true (.cons (.v 0) (.cons (.kty "list") .nil))) (.cons (.ret c3__law_copy) .nil) .nil) (.cons (.ife (.blt .isinst true (.cons (.v 0) (.cons (.kty "tuple") .nil))) (.cons (.ret (.blt .tuple false (.cons c2__law_copy .nil))) .nil) .nil) (.cons (.ret (.ife (.blt .isinst true (.cons (.v 0) (.cons (.kty "dict") .nil))) (.blt .dict false (.cons (.lockd 0 c1__law_copy) .nil)) (.v 0))) .nil)))
def df_law_copy : Fn := ⟨1, 3, true, false, bf_law_copy⟩
def bf_law_very : Ss := (.cons (.ife (.bnot (.call "_law_same" (.cons (.v 0) (.cons (.v 1) .nil)) [] .nil)) (.cons (.ret (.k (.bl false))) .nil) .nil) (.cons (.ife (.blt .isinst true (.cons (.v 1) (.cons (.kty "list") .nil))) (.cons (.ex (.meth .append (.v 1) (.cons (.k (.str "more")) .nil))) .nil) .nil) (.cons (.ife (.blt .isinst true (.cons (.v 1) (.cons (.kty "dict") .nil))) (.cons (.asg (.s (.v 1) (.k (.str "more"))) (.k (.int 1))) .nil) .nil) (.cons (.ret (.call "_law_same" (.cons (.v 0) (.cons (.v 1) .nil)) [] .nil)) .nil))))
def df_law_very : Fn := ⟨2, 2, true, true, bf_law_very⟩
def l1__law_gcd : Ss := (.cons (.ife (.cmp .Eq (.v 1) (.k (.int 0))) (.cons (.brk) .nil) .nil) (.cons (.asg (.t (.cons (.n 0) (.cons (.n 1) .nil))) (.tup (.cons (.v 1) (.cons (.bin .Mod true (.blt .int true (.cons (.v 0) .nil)) (.v 1)) .nil)))) .nil))
def bf_law_gcd : Ss := (.cons (.asg (.t (.cons (.n 0) (.cons (.n 1) .nil))) (.tup (.cons (.blt .abs true (.cons (.v 0) .nil)) (.cons (.blt .abs true (.cons (.v 1) .nil)) .nil)))) (.cons (.each (.n 2) (.rng (.cons (.k (.int 4000)) .nil)) l1__law_gcd) (.cons (.ret (.v 0)) .nil)))
def df_law_gcd : Fn := ⟨2, 3, true, true, bf_law_gcd⟩
def c1__law_ray : E := (.comp true [2] (.n 2) (.e (.v 0)) .nil (.elt (.bin .Mult true (.v 3) (.bin .FloorDiv true (.v 2) (.v 1)))))
def c2__law_ray : E := (.comp true [2] (.n 2) (.e (.v 0)) (.cons (.cmp .NotEq (.v 2) (.k (.int 0))) .nil) (.elt (.v 2)))
def l1__law_ray : Ss := (.cons (.asg (.n 1) (.call "_law_gcd" (.cons (.v 1) (.cons (.v 2) .nil)) [] .nil)) .nil)
def bf_law_ray : Ss := (.cons (.asg (.n 1) (.k (.int 0))) (.cons (.each (.n 2) (.e (.v 0)) l1__law_ray) (.cons (.asg (.n 3) (.ife (.cmp .Gt (.ix c2__law_ray (.k (.int 0))) (.k (.int 0))) (.k (.int 1)) (.neg (.k (.int 1))))) (.cons (.ret (.blt .tuple true (.cons c1__law_ray .nil))) .nil))))
def df_law_ray : Fn := ⟨1, 4, true, true, bf_law_ray⟩
def c1__law_led : E := (.comp true [2] (.n 2) (.rng (.cons (.blt .len true (.cons (.v 1) .nil)) .nil)) .nil (.elt (.bin .Mult true (.ix (.v 3) (.v 2)) (.ix (.v 1) (.v 2)))))
def c2__law_led : E := (.comp true [3] (.n 3) (.e (.ix (.v 0) (.k (.int 1)))) .nil (.elt (.blt .sum true (.cons c1__law_led .nil))))
def bf_law_led : Ss := (.cons (.ret (.blt .tuple true (.cons c2__law_led .nil))) .nil)
def df_law_led : Fn := ⟨2, 4, true, true, bf_law_led⟩
def c1__law_dot : E := (.comp true [3] (.n 3) (.rng (.cons (.blt .len true (.cons (.v 1) .nil)) .nil)) .nil (.elt (.bin .Mult true (.bin .Mult true (.ix (.ix (.v 0) (.k (.int 0))) (.v 3)) (.ix (.v 1) (.v 3))) (.ix (.v 2) (.v 3)))))
def bf_law_dot : Ss := (.cons (.ret (.blt .sum true (.cons c1__law_dot .nil))) .nil)
def df_law_dot : Fn := ⟨3, 4, true, true, bf_law_dot⟩
def c1__law_graph : E := (.comp true [10] (.n 10) (.e (.v 4)) .nil (.elt (.blt .tuple true (.cons (.v 10) .nil))))
def l1__law_graph : Ss := (.cons (.asg (.n 8) (.ife (.cmp .Gt (.call "_law_take" (.cons (.v 0) (.cons (.k (.int 3)) .nil)) [] .nil) (.k (.int 0))) (.bin .Sub true (.call "_law_take" (.cons (.v 0) (.cons (.bin .Add true (.bin .Mult true (.k (.int 2)) (.v 2)) (.k (.int 1))) .nil)) [] .nil) (.v 2)) (.k (.int 0)))) (.cons (.asg (.n 9) (.call "_law_gcd" (.cons (.ix (.v 3) (.v 6)) (.cons (.ix (.v 3) (.v 7)) .nil)) [] .nil)) (.cons (.asg (.t (.cons (.s (.ix (.v 4) (.v 6)) (.v 7)) (.cons (.s (.ix (.v 4) (.v 7)) (.v 6)) .nil))) (.tup (.cons (.bin .Mult true (.v 8) (.bin .FloorDiv true (.ix (.v 3) (.v 7)) (.v 9))) (.cons (.bin .Mult true (.v 8) (.bin .FloorDiv true (.ix (.v 3) (.v 6)) (.v 9))) .nil)))) .nil)))
def l2__law_graph : Ss := (.cons (.each (.n 7) (.rng (.cons (.bin .Add true (.v 6) (.k (.int 1))) .nil)) l1__law_graph) .nil)
def c2__law_graph : E := (.comp true [5] (.n 5) (.rng (.cons (.v 1) .nil)) .nil (.elt (.ix (.lst true (.cons (.k (.int 1)) (.cons (.k (.int 1)) (.cons (.k (.int 1)) (.cons (.k (.int 2)) (.cons (.k (.int 3)) (.cons (.k (.int 4)) .nil))))))) (.call "_law_take" (.cons (.v 0) (.cons (.k (.int 6)) .nil)) [] .nil))))
def c3__law_graph : E := (.comp false [5] (.n 5) (.rng (.cons (.v 1) .nil)) .nil (.elt (.bin .Mult false (.lst true (.cons (.k (.int 0)) .nil)) (.v 1))))
def bf_law_graph : Ss := (.cons (.asg (.t (.cons (.n 3) (.cons (.n 4) .nil))) (.tup (.cons c2__law_graph (.cons c3__law_graph .nil)))) (.cons (.each (.n 6) (.rng (.cons (.v 1) .nil)) l2__law_graph) (.cons (.ret (.tup (.cons (.blt .tuple true (.cons (.v 3) .nil)) (.cons (.blt .tuple true (.cons c1__law_graph .nil)) .nil)))) .nil)))
def df_law_graph : Fn := ⟨3, 11, false, true, bf_law_graph⟩
def c1__law_drawn_ray : E := (.comp false [4] (.n 4) (.rng (.cons (.v 1) .nil)) .nil (.elt (.bin .Sub true (.call "_law_take" (.cons (.v 0) (.cons (.bin .Add true (.bin .Mult true (.k (.int 2)) (.v 2)) (.k (.int 1))) .nil)) [] .nil) (.v 2))))
def bf_law_drawn_ray : Ss := (.cons (.asg (.n 3) c1__law_drawn_ray) (.cons (.asg (.s (.v 3) (.call "_law_take" (.cons (.v 0) (.cons (.v 1) .nil)) [] .nil)) (.bin .Add true (.k (.int 1)) (.call "_law_take" (.cons (.v 0) (.cons (.v 2) .nil)) [] .nil))) (.cons (.ret (.call "_law_ray" (.cons (.v 3) .nil) [] .nil)) .nil)))
def df_law_drawn_ray : Fn := ⟨3, 5, false, true, bf_law_drawn_ray⟩
def c1__law_changed : E := (.comp true [4] (.n 4) (.rng (.cons (.v 3) .nil)) .nil (.elt (.bin .Add true (.bin .Mult true (.v 1) (.ix (.ix (.ix (.v 0) (.k (.int 1))) (.v 5)) (.v 4))) (.ife (.cmp .Eq (.v 5) (.v 4)) (.v 2) (.k (.int 0))))))
def c2__law_changed : E := (.comp true [5] (.n 5) (.rng (.cons (.v 3) .nil)) .nil (.elt (.blt .tuple true (.cons c1__law_changed .nil))))
def bf_law_changed : Ss := (.cons (.asg (.n 3) (.blt .len true (.cons (.ix (.v 0) (.k (.int 0))) .nil))) (.cons (.ret (.tup (.cons (.ix (.v 0) (.k (.int 0))) (.cons (.blt .tuple true (.cons c2__law_changed .nil)) .nil)))) .nil))
def df_law_changed : Fn := ⟨3, 6, true, true, bf_law_changed⟩
def c1__law_moments : E := (.comp true [5] (.n 5) (.rng (.cons (.v 2) .nil)) .nil (.elt (.call "_law_dot" (.cons (.v 0) (.cons (.ix (.v 3) (.bin .FloorDiv true (.v 5) (.k (.int 2)))) (.cons (.ix (.v 3) (.bin .Sub true (.v 5) (.bin .FloorDiv true (.v 5) (.k (.int 2))))) .nil))) [] .nil)))
def l1__law_moments : Ss := (.cons (.ex (.meth .append (.v 3) (.cons (.call "_law_led" (.cons (.v 0) (.cons (.ix (.v 3) (.neg (.k (.int 1)))) .nil)) [] .nil) .nil))) .nil)
def bf_law_moments : Ss := (.cons (.asg (.n 3) (.lst false (.cons (.v 1) .nil))) (.cons (.each (.n 4) (.rng (.cons (.bin .FloorDiv true (.v 2) (.k (.int 2))) .nil)) l1__law_moments) (.cons (.ret (.blt .tuple true (.cons c1__law_moments .nil))) .nil)))
def df_law_moments : Fn := ⟨3, 6, false, true, bf_law_moments⟩
def c1__law_bad_graph : E := (.comp true [9] (.n 9) (.e (.v 8)) .nil (.elt (.blt .tuple true (.cons (.v 9) .nil))))
def c2__law_bad_graph : E := (.comp false [11] (.n 11) (.e (.tup (.cons (.k (.int 0)) (.cons (.neg (.k (.int 1))) (.cons (.k (.bl true)) (.cons (.k .non) (.cons (.k (.str "1")) .nil))))))) .nil (.elt (.tup (.cons (.bin .Add true (.bin .Add true (.sl true (.v 2) .nil (.cons (.v 5) .nil)) (.tup (.cons (.v 11) .nil))) (.sl true (.v 2) (.cons (.bin .Add true (.v 5) (.k (.int 1))) .nil) .nil)) (.cons (.v 3) .nil)))))
def c3__law_bad_graph : E := (.comp true [9] (.n 9) (.e (.v 8)) .nil (.elt (.blt .tuple true (.cons (.v 9) .nil))))
def c4__law_bad_graph : E := (.comp true [9] (.n 9) (.e (.v 3)) .nil (.elt (.blt .list true (.cons (.v 9) .nil))))
def c5__law_bad_graph : E := (.comp false [9] (.n 9) (.e (.v 3)) .nil (.elt (.blt .list false (.cons (.v 9) .nil))))
def bf_law_bad_graph : Ss := (.cons (.asg (.t (.cons (.n 2) (.cons (.n 3) .nil))) (.v 1)) (.cons (.asg (.n 4) (.blt .len true (.cons (.v 2) .nil))) (.cons (.asg (.t (.cons (.n 5) (.cons (.n 6) .nil))) (.tup (.cons (.call "_law_take" (.cons (.v 0) (.cons (.v 4) .nil)) [] .nil) (.cons (.call "_law_take" (.cons (.v 0) (.cons (.v 4) .nil)) [] .nil) .nil)))) (.cons (.asg (.n 7) (.call "_law_pick" (.cons (.v 0) (.cons (.lst true (.cons (.k .non) (.cons (.k (.bl true)) (.cons (.k (.str "1")) (.cons (.tup (.cons (.k (.int 1)) .nil)) (.cons (.lst true (.cons (.k (.int 1)) .nil)) .nil)))))) .nil)) [] .nil)) (.cons (.asg (.n 8) c5__law_bad_graph) (.cons (.asg (.s (.ix (.v 8) (.v 5)) (.v 6)) (.v 7)) (.cons (.asg (.n 10) (.lst false (.cons (.k .non) (.cons (.k (.int 5)) (.cons (.k (.str "graph")) (.cons (.tup .nil) (.cons (.lst false (.cons (.v 2) (.cons (.v 3) .nil))) (.cons (.tup (.cons (.v 2) .nil)) (.cons (.tup (.cons (.v 2) (.cons (.v 3) (.cons (.k (.int 0)) .nil)))) (.cons (.tup (.cons (.blt .list true (.cons (.v 2) .nil)) (.cons (.v 3) .nil))) (.cons (.tup (.cons (.v 2) (.cons (.blt .list true (.cons (.v 3) .nil)) .nil))) (.cons (.tup (.cons (.tup .nil) (.cons (.tup .nil) .nil))) (.cons (.dic false [.inr "1"] (.cons (.k (.int 1)) .nil)) .nil))))))))))))) (.cons (.asg (.n 10) (.bin .Add false (.v 10) (.lst false (.cons (.tup (.cons (.sl true (.v 2) .nil (.cons (.neg (.k (.int 1))) .nil)) (.cons (.v 3) .nil))) (.cons (.tup (.cons (.v 2) (.cons (.sl true (.v 3) .nil (.cons (.neg (.k (.int 1))) .nil)) .nil))) (.cons (.tup (.cons (.v 2) (.cons (.blt .tuple true (.cons c3__law_bad_graph .nil)) .nil))) (.cons (.tup (.cons (.v 2) (.cons (.blt .tuple true (.cons c4__law_bad_graph .nil)) .nil))) .nil))))))) (.cons (.asg (.n 10) (.bin .Add false (.v 10) c2__law_bad_graph)) (.cons (.ex (.meth .append (.v 10) (.cons (.tup (.cons (.v 2) (.cons (.bin .Add true (.bin .Add true (.sl true (.v 3) .nil (.cons (.v 5) .nil)) (.tup (.cons (.bin .Add true (.ix (.v 3) (.v 5)) (.tup (.cons (.k (.int 0)) .nil))) .nil))) (.sl true (.v 3) (.cons (.bin .Add true (.v 5) (.k (.int 1))) .nil) .nil)) .nil))) .nil))) (.cons (.ex (.meth .append (.v 10) (.cons (.tup (.cons (.bin .Mult true (.tup (.cons (.k (.int 1)) .nil)) (.k (.int 9))) (.cons (.bin .Mult true (.tup (.cons (.bin .Mult true (.tup (.cons (.k (.int 0)) .nil)) (.k (.int 9))) .nil)) (.k (.int 9))) .nil))) .nil))) (.cons (.ife (.band (.cons (.cmp .Gt (.v 4) (.k (.int 1))) (.cons (.cmp .NotEq (.v 5) (.v 6)) .nil))) (.cons (.asg (.s (.ix (.v 8) (.v 5)) (.v 6)) (.bin .Add true (.ix (.ix (.v 3) (.v 5)) (.v 6)) (.k (.int 1)))) (.cons (.asg (.n 10) (.bin .Add false (.v 10) (.bin .Mult false (.lst false (.cons (.tup (.cons (.v 2) (.cons (.blt .tuple true (.cons c1__law_bad_graph .nil)) .nil))) .nil)) (.k (.int 4))))) .nil)) .nil) (.cons (.ret (.call "_law_pick" (.cons (.v 0) (.cons (.v 10) .nil)) [] .nil)) .nil)))))))))))))
def df_law_bad_graph : Fn := ⟨2, 12, false, false, bf_law_bad_graph⟩
def c1__law_bad_ray : E := (.comp true [6] (.n 6) (.e (.tup (.cons (.k .non) (.cons (.k (.bl true)) (.cons (.k (.str "1")) (.cons (.tup (.cons (.k (.int 1)) .nil)) (.cons (.lst true (.cons (.k (.int 1)) .nil)) .nil))))))) .nil (.elt (.bin .Add true (.bin .Add true (.sl true (.v 1) .nil (.cons (.v 2) .nil)) (.tup (.cons (.v 6) .nil))) (.sl true (.v 1) (.cons (.bin .Add true (.v 2) (.k (.int 1))) .nil) .nil))))
def c2__law_bad_ray : E := (.comp true [5] (.n 5) (.e (.v 1)) .nil (.elt (.bin .Mult true (.neg (.k (.int 3))) (.v 5))))
def c3__law_bad_ray : E := (.comp false [5] (.n 5) (.e (.v 1)) .nil (.elt (.neg (.v 5))))
def c4__law_bad_ray : E := (.comp false [5] (.n 5) (.e (.v 1)) .nil (.elt (.bin .Mult false (.k (.int 2)) (.v 5))))
def bf_law_bad_ray : Ss := (.cons (.asg (.t (.cons (.n 2) (.cons (.n 3) .nil))) (.tup (.cons (.call "_law_take" (.cons (.v 0) (.cons (.blt .len true (.cons (.v 1) .nil)) .nil)) [] .nil) (.cons (.blt .len true (.cons (.v 1) .nil)) .nil)))) (.cons (.asg (.n 4) (.lst false (.cons (.k .non) (.cons (.k (.int 5)) (.cons (.k (.str "ray")) (.cons (.tup .nil) (.cons (.lst false (.cons (.k (.int 1)) .nil)) (.cons (.blt .list false (.cons (.v 1) .nil)) (.cons (.bin .Add false (.v 1) (.tup (.cons (.k (.int 0)) .nil))) (.cons (.sl false (.v 1) (.cons (.k (.int 1)) .nil) .nil) (.cons (.bin .Mult false (.tup (.cons (.k (.int 0)) .nil)) (.v 3)) (.cons (.blt .tuple false (.cons c3__law_bad_ray .nil)) (.cons (.blt .tuple false (.cons c4__law_bad_ray .nil)) (.cons (.dic false [.inr "1"] (.cons (.k (.int 1)) .nil)) .nil)))))))))))))) (.cons (.ret (.call "_law_pick" (.cons (.v 0) (.cons (.bin .Add true (.bin .Add true (.v 4) c1__law_bad_ray) (.lst true (.cons (.blt .tuple true (.cons c2__law_bad_ray .nil)) .nil))) .nil)) [] .nil)) .nil)))
def df_law_bad_ray : Fn := ⟨2, 7, false, false, bf_law_bad_ray⟩
def bf_law_met : Ss := (.cons (.tri (.cons (.ret (.lst true (.cons (.k (.str "told")) (.cons (.ife (.v 1) (.call "moments" .nil ["number", "ray", "graph"] (.cons (.ix (.v 0) (.k (.int 2))) (.cons (.ix (.v 0) (.k (.int 1))) (.cons (.ix (.v 0) (.k (.int 0))) .nil)))) (.call "moments" (.cons (.ix (.v 0) (.k (.int 0))) (.cons (.ix (.v 0) (.k (.int 1))) (.cons (.ix (.v 0) (.k (.int 2))) .nil))) [] .nil)) .nil)))) .nil) ["WalkError", "InvalidNumber", "InvalidGraph", "InvalidRay"] (.cons "InvalidGraph" (some 2) (.cons (.ret (.lst true (.cons (.k (.str "graph")) (.cons (.fld 2 "given" ["InvalidGraph"]) .nil)))) .nil) (.cons "InvalidRay" (some 2) (.cons (.ret (.lst true (.cons (.k (.str "ray")) (.cons (.fld 2 "given" ["InvalidRay"]) .nil)))) .nil) (.cons "InvalidNumber" (some 2) (.cons (.ret (.lst true (.cons (.k (.str "number")) (.cons (.fld 2 "given" ["InvalidNumber"]) .nil)))) .nil) .nil)))) .nil)
def df_law_met : Fn := ⟨2, 3, true, true, bf_law_met⟩
def bf_law_some_graph : Ss := (.cons (.asg (.n 1) (.call "_law_take" (.cons (.v 0) (.cons (.k (.int 8)) .nil)) [] .nil)) (.cons (.ife (.cmp .Eq (.v 1) (.k (.int 0))) (.cons (.ret (.call "_law_graph" (.cons (.v 0) (.cons (.bin .Add true (.k (.int 5)) (.call "_law_take" (.cons (.v 0) (.cons (.k (.int 4)) .nil)) [] .nil)) (.cons (.ife (.cmp .Eq (.call "_law_take" (.cons (.v 0) (.cons (.k (.int 2)) .nil)) [] .nil) (.k (.int 0))) (.k (.int 99999)) (.k (.int 9))) .nil))) [] .nil)) .nil) .nil) (.cons (.asg (.n 2) (.call "_law_graph" (.cons (.v 0) (.cons (.bin .Add true (.k (.int 1)) (.call "_law_take" (.cons (.v 0) (.cons (.k (.int 4)) .nil)) [] .nil)) (.cons (.k (.int 9)) .nil))) [] .nil)) (.cons (.ife (.cmp .Eq (.v 1) (.k (.int 1))) (.cons (.ret (.call "_law_changed" (.cons (.v 2) (.cons (.call "_law_pick" (.cons (.v 0) (.cons (.lst true (.cons (.bin .Add true (.bin .Pow true (.k (.int 10)) (.k (.int 12))) (.k (.int 1))) (.cons (.bin .Sub true (.neg (.bin .Pow true (.k (.int 10)) (.k (.int 18)))) (.k (.int 7))) (.cons (.bin .Mult true (.k (.int 3)) (.bin .Pow true (.k (.int 10)) (.k (.int 15)))) .nil)))) .nil)) [] .nil) (.cons (.bin .Mult true (.call "_law_take" (.cons (.v 0) (.cons (.bin .Pow true (.k (.int 10)) (.k (.int 9))) .nil)) [] .nil) (.bin .Pow true (.k (.int 10)) (.k (.int 8)))) .nil))) [] .nil)) .nil) .nil) (.cons (.ret (.v 2)) .nil)))))
def df_law_some_graph : Fn := ⟨1, 3, false, true, bf_law_some_graph⟩
def l1__law_right : Ss := (.cons (.ife (.bnot (.call "_law_same" (.cons (.call "_law_met" (.cons (.lst true (.cons (.v 1) (.cons (.v 2) (.cons (.v 5) .nil)))) (.cons (.v 3) .nil)) [] .nil) (.cons (.lst true (.cons (.k (.str "told")) (.cons (.sl true (.v 4) .nil (.cons (.v 5) .nil)) .nil))) .nil)) [] .nil)) (.cons (.ret (.k (.bl false))) .nil) .nil) (.cons (.asg (.n 3) (.bnot (.v 3))) .nil))
def bf_law_right : Ss := (.cons (.asg (.n 4) (.call "_law_moments" (.cons (.v 1) (.cons (.v 2) (.cons (.k (.int 16)) .nil))) [] .nil)) (.cons (.each (.n 5) (.e (.lst true (.cons (.k (.int 16)) (.cons (.bin .Add true (.k (.int 1)) (.call "_law_take" (.cons (.v 0) (.cons (.k (.int 16)) .nil)) [] .nil)) (.cons (.bin .Add true (.k (.int 1)) (.call "_law_take" (.cons (.v 0) (.cons (.k (.int 16)) .nil)) [] .nil)) (.cons (.k (.int 1)) (.cons (.k (.int 2)) .nil))))))) l1__law_right) (.cons (.ret (.k (.bl true))) .nil)))
def df_law_right : Fn := ⟨4, 6, true, true, bf_law_right⟩
def l1__law_refused_right : Ss := (.cons (.asg (.n 5) (.call "_law_copy" (.cons (.call "_law_bad_graph" (.cons (.v 0) (.cons (.v 1) .nil)) [] .nil) .nil) [] .nil)) (.cons (.asg (.n 6) (.call "_law_met" (.cons (.lst true (.cons (.v 5) (.cons (.call "_law_pick" (.cons (.v 0) (.cons (.lst true (.cons (.v 2) (.cons (.k .non) (.cons (.tup .nil) .nil)))) .nil)) [] .nil) (.cons (.call "_law_pick" (.cons (.v 0) (.cons (.lst true (.cons (.k (.int 1)) (.cons (.k (.int 0)) (.cons (.k .non) .nil)))) .nil)) [] .nil) .nil)))) (.cons (.v 3) .nil)) [] .nil)) (.cons (.ife (.bor (.cons (.cmp .NotEq (.ix (.v 6) (.k (.int 0))) (.k (.str "graph"))) (.cons (.bnot (.call "_law_very" (.cons (.ix (.v 6) (.k (.int 1))) (.cons (.v 5) .nil)) [] .nil)) .nil))) (.cons (.ret (.k (.bl false))) .nil) .nil) (.cons (.asg (.n 5) (.call "_law_copy" (.cons (.call "_law_bad_ray" (.cons (.v 0) (.cons (.v 2) .nil)) [] .nil) .nil) [] .nil)) (.cons (.asg (.n 6) (.call "_law_met" (.cons (.lst true (.cons (.v 1) (.cons (.v 5) (.cons (.call "_law_pick" (.cons (.v 0) (.cons (.lst true (.cons (.k (.int 1)) (.cons (.k (.int 0)) (.cons (.k .non) .nil)))) .nil)) [] .nil) .nil)))) (.cons (.bnot (.v 3)) .nil)) [] .nil)) (.cons (.ife (.bor (.cons (.cmp .NotEq (.ix (.v 6) (.k (.int 0))) (.k (.str "ray"))) (.cons (.bnot (.call "_law_very" (.cons (.ix (.v 6) (.k (.int 1))) (.cons (.v 5) .nil)) [] .nil)) .nil))) (.cons (.ret (.k (.bl false))) .nil) .nil) (.cons (.asg (.n 5) (.call "_law_copy" (.cons (.call "_law_pick" (.cons (.v 0) (.cons (.lst true (.cons (.k (.int 0)) (.cons (.k (.int 17)) (.cons (.neg (.k (.int 1))) (.cons (.k (.bl true)) (.cons (.k (.bl false)) (.cons (.k .non) (.cons (.k (.str "1")) (.cons (.tup (.cons (.k (.int 1)) .nil)) (.cons (.lst true (.cons (.k (.int 1)) .nil)) (.cons (.bin .Pow true (.k (.int 10)) (.k (.int 39))) (.cons (.dic true [.inr "1"] (.cons (.k (.int 1)) .nil)) .nil)))))))))))) .nil)) [] .nil) .nil) [] .nil)) (.cons (.asg (.n 6) (.call "_law_met" (.cons (.lst true (.cons (.v 1) (.cons (.v 2) (.cons (.v 5) .nil)))) (.cons (.v 3) .nil)) [] .nil)) (.cons (.ife (.bor (.cons (.cmp .NotEq (.ix (.v 6) (.k (.int 0))) (.k (.str "number"))) (.cons (.bnot (.call "_law_very" (.cons (.ix (.v 6) (.k (.int 1))) (.cons (.v 5) .nil)) [] .nil)) .nil))) (.cons (.ret (.k (.bl false))) .nil) .nil) (.cons (.asg (.n 3) (.bnot (.v 3))) .nil))))))))))
def bf_law_refused_right : Ss := (.cons (.each (.n 4) (.rng (.cons (.k (.int 2)) .nil)) l1__law_refused_right) (.cons (.ret (.k (.bl true))) .nil))
def df_law_refused_right : Fn := ⟨4, 7, false, true, bf_law_refused_right⟩
def c1_law : E := (.comp true [1] (.n 1) (.rng (.cons (.v 5) .nil)) .nil (.elt (.blt .int true (.cons (.cmp .Eq (.v 1) (.v 6)) .nil))))
def l1_law : Ss := (.cons (.ife (.bnot (.call "_law_right" (.cons (.v 2) (.cons (.v 4) (.cons (.v 7) (.cons (.v 3) .nil)))) [] .nil)) (.cons (.ret (.k (.bl false))) .nil) .nil) (.cons (.asg (.n 3) (.bnot (.v 3))) .nil))
def l2_law : Ss := (.cons (.asg (.n 2) (.call "_law_box" (.cons (.call "_law_cell" (.cons (.v 0) (.cons (.v 1) .nil)) [] .nil) .nil) [] .nil)) (.cons (.asg (.t (.cons (.n 3) (.cons (.n 4) .nil))) (.tup (.cons (.cmp .Eq (.call "_law_take" (.cons (.v 2) (.cons (.k (.int 2)) .nil)) [] .nil) (.k (.int 0))) (.cons (.call "_law_some_graph" (.cons (.v 2) .nil) [] .nil) .nil)))) (.cons (.asg (.n 5) (.blt .len true (.cons (.ix (.v 4) (.k (.int 0))) .nil))) (.cons (.asg (.n 6) (.call "_law_take" (.cons (.v 2) (.cons (.v 5) .nil)) [] .nil)) (.cons (.each (.n 7) (.e (.lst true (.cons (.call "_law_drawn_ray" (.cons (.v 2) (.cons (.v 5) (.cons (.k (.int 9)) .nil))) [] .nil) (.cons (.blt .tuple true (.cons c1_law .nil)) (.cons (.call "_law_drawn_ray" (.cons (.v 2) (.cons (.v 5) (.cons (.bin .Pow true (.k (.int 10)) (.k (.int 12))) .nil))) [] .nil) .nil))))) l1_law) (.cons (.ife (.bnot (.call "_law_refused_right" (.cons (.v 2) (.cons (.v 4) (.cons (.call "_law_drawn_ray" (.cons (.v 2) (.cons (.v 5) (.cons (.k (.int 5)) .nil))) [] .nil) (.cons (.v 3) .nil)))) [] .nil)) (.cons (.ret (.k (.bl false))) .nil) .nil) .nil))))))
def blaw : Ss := (.cons (.each (.n 1) (.rng (.cons (.blt .max true (.cons (.k (.int 2)) (.cons (.blt .min true (.cons (.k (.int 3)) (.cons (.blt .len true (.cons (.v 0) .nil)) .nil))) .nil))) .nil)) l2_law) (.cons (.ret (.k (.bl true))) .nil))
def dlaw : Fn := ⟨1, 8, false, true, blaw⟩
def tab : Tab := tabOf [(Str.ofString "divisor_of", (["items"] : List Str), ddivisor_of), (Str.ofString "leads", (["graph", "row"] : List Str), dleads), (Str.ofString "product_in", (["masses", "one", "other"] : List Str), dproduct_in), (Str.ofString "is_integer", (["value"] : List Str), dis_integer), (Str.ofString "is_within", (["value", "low", "high"] : List Str), dis_within), (Str.ofString "is_tuple", (["value", "many"] : List Str), dis_tuple), (Str.ofString "is_integers", (["value"] : List Str), dis_integers), (Str.ofString "is_row", (["value", "many"] : List Str), dis_row), (Str.ofString "is_square", (["value", "many"] : List Str), dis_square), (Str.ofString "is_masses", (["value"] : List Str), dis_masses), (Str.ofString "is_even_by", (["masses", "matrix"] : List Str), dis_even_by), (Str.ofString "is_graph", (["value"] : List Str), dis_graph), (Str.ofString "check_graph", (["graph"] : List Str), dcheck_graph), (Str.ofString "is_plain_ray", (["value"] : List Str), dis_plain_ray), (Str.ofString "fits_ray", (["graph", "value"] : List Str), dfits_ray), (Str.ofString "check_ray", (["graph", "ray"] : List Str), dcheck_ray), (Str.ofString "moments", (["graph", "ray", "number"] : List Str), dmoments), (Str.ofString "_law_cell", (["script", "k"] : List Str), df_law_cell), (Str.ofString "_law_box", (["great"] : List Str), df_law_box), (Str.ofString "_law_take", (["box", "many"] : List Str), df_law_take), (Str.ofString "_law_pick", (["box", "items"] : List Str), df_law_pick), (Str.ofString "_law_same", (["given", "due"] : List Str), df_law_same), (Str.ofString "_law_copy", (["value"] : List Str), df_law_copy), (Str.ofString "_law_very", (["given", "value"] : List Str), df_law_very), (Str.ofString "_law_gcd", (["one", "other"] : List Str), df_law_gcd), (Str.ofString "_law_ray", (["row"] : List Str), df_law_ray), (Str.ofString "_law_led", (["graph", "row"] : List Str), df_law_led), (Str.ofString "_law_dot", (["graph", "one", "other"] : List Str), df_law_dot), (Str.ofString "_law_graph", (["box", "many", "most"] : List Str), df_law_graph), (Str.ofString "_law_drawn_ray", (["box", "many", "most"] : List Str), df_law_drawn_ray), (Str.ofString "_law_changed", (["graph", "factor", "number"] : List Str), df_law_changed), (Str.ofString "_law_moments", (["graph", "ray", "number"] : List Str), df_law_moments), (Str.ofString "_law_bad_graph", (["box", "graph"] : List Str), df_law_bad_graph), (Str.ofString "_law_bad_ray", (["box", "ray"] : List Str), df_law_bad_ray), (Str.ofString "_law_met", (["some", "named"] : List Str), df_law_met), (Str.ofString "_law_some_graph", (["box"] : List Str), df_law_some_graph), (Str.ofString "_law_right", (["box", "graph", "ray", "named"] : List Str), df_law_right), (Str.ofString "_law_refused_right", (["box", "graph", "ray", "named"] : List Str), df_law_refused_right), (Str.ofString "law", (["script"] : List Str), dlaw)]
def fs : List (Str × List (List Str)) := [(Str.ofString "divisor_of", [([] : List Str)]), (Str.ofString "leads", [([] : List Str)]), (Str.ofString "product_in", [([] : List Str)]), (Str.ofString "is_integer", [([] : List Str)]), (Str.ofString "is_within", [([] : List Str)]), (Str.ofString "is_tuple", [([] : List Str)]), (Str.ofString "is_integers", [([] : List Str)]), (Str.ofString "is_row", [([] : List Str)]), (Str.ofString "is_square", [([] : List Str)]), (Str.ofString "is_masses", [([] : List Str)]), (Str.ofString "is_even_by", [([] : List Str)]), (Str.ofString "is_graph", [([] : List Str)]), (Str.ofString "check_graph", [([] : List Str)]), (Str.ofString "is_plain_ray", [([] : List Str)]), (Str.ofString "fits_ray", [([] : List Str)]), (Str.ofString "check_ray", [([] : List Str)]), (Str.ofString "moments", [([] : List Str), (["number", "ray", "graph"] : List Str)]), (Str.ofString "_law_cell", [([] : List Str)]), (Str.ofString "_law_box", [([] : List Str)]), (Str.ofString "_law_take", [([] : List Str)]), (Str.ofString "_law_pick", [([] : List Str)]), (Str.ofString "_law_same", [([] : List Str)]), (Str.ofString "_law_copy", [([] : List Str)]), (Str.ofString "_law_very", [([] : List Str)]), (Str.ofString "_law_gcd", [([] : List Str)]), (Str.ofString "_law_ray", [([] : List Str)]), (Str.ofString "_law_led", [([] : List Str)]), (Str.ofString "_law_dot", [([] : List Str)]), (Str.ofString "_law_graph", [([] : List Str)]), (Str.ofString "_law_drawn_ray", [([] : List Str)]), (Str.ofString "_law_changed", [([] : List Str)]), (Str.ofString "_law_moments", [([] : List Str)]), (Str.ofString "_law_bad_graph", [([] : List Str)]), (Str.ofString "_law_bad_ray", [([] : List Str)]), (Str.ofString "_law_met", [([] : List Str)]), (Str.ofString "_law_some_graph", [([] : List Str)]), (Str.ofString "_law_right", [([] : List Str)]), (Str.ofString "_law_refused_right", [([] : List Str)]), (Str.ofString "law", [([] : List Str)])]
def cs : List Str := (["WalkError", "InvalidNumber", "InvalidGraph", "InvalidRay"] : List Str)
def is : List Str := (["InvalidNumber", "InvalidGraph", "InvalidRay"] : List Str)
def gs : List (Str × D) := [("MOST_NODES", .int 8), ("MOST_MOMENTS", .int 16)]
def tx : Tx := txOf true fs cs is gs
end Lk74
namespace Lk74
open PySem PySem.Spec PyProof.Rows L2 Mp
theorem tdivisor_of : tab "divisor_of" = some ((["items"] : List Str), ddivisor_of) := by kernel_rfl
theorem tleads : tab "leads" = some ((["graph", "row"] : List Str), dleads) := by kernel_rfl
theorem tproduct_in : tab "product_in" = some ((["masses", "one", "other"] : List Str), dproduct_in) := by kernel_rfl
theorem tis_integer : tab "is_integer" = some ((["value"] : List Str), dis_integer) := by kernel_rfl
theorem tis_within : tab "is_within" = some ((["value", "low", "high"] : List Str), dis_within) := by kernel_rfl
theorem tis_tuple : tab "is_tuple" = some ((["value", "many"] : List Str), dis_tuple) := by kernel_rfl
theorem tis_integers : tab "is_integers" = some ((["value"] : List Str), dis_integers) := by kernel_rfl
theorem tis_row : tab "is_row" = some ((["value", "many"] : List Str), dis_row) := by kernel_rfl
theorem tis_square : tab "is_square" = some ((["value", "many"] : List Str), dis_square) := by kernel_rfl
theorem tis_masses : tab "is_masses" = some ((["value"] : List Str), dis_masses) := by kernel_rfl
theorem tis_even_by : tab "is_even_by" = some ((["masses", "matrix"] : List Str), dis_even_by) := by kernel_rfl
theorem tis_graph : tab "is_graph" = some ((["value"] : List Str), dis_graph) := by kernel_rfl
theorem tcheck_graph : tab "check_graph" = some ((["graph"] : List Str), dcheck_graph) := by kernel_rfl
theorem tis_plain_ray : tab "is_plain_ray" = some ((["value"] : List Str), dis_plain_ray) := by kernel_rfl
theorem tfits_ray : tab "fits_ray" = some ((["graph", "value"] : List Str), dfits_ray) := by kernel_rfl
theorem tcheck_ray : tab "check_ray" = some ((["graph", "ray"] : List Str), dcheck_ray) := by kernel_rfl
theorem tmoments : tab "moments" = some ((["graph", "ray", "number"] : List Str), dmoments) := by kernel_rfl
theorem tf_law_cell : tab "_law_cell" = some ((["script", "k"] : List Str), df_law_cell) := by kernel_rfl
theorem tf_law_box : tab "_law_box" = some ((["great"] : List Str), df_law_box) := by kernel_rfl
theorem tf_law_take : tab "_law_take" = some ((["box", "many"] : List Str), df_law_take) := by kernel_rfl
theorem tf_law_pick : tab "_law_pick" = some ((["box", "items"] : List Str), df_law_pick) := by kernel_rfl
theorem tf_law_same : tab "_law_same" = some ((["given", "due"] : List Str), df_law_same) := by kernel_rfl
theorem tf_law_copy : tab "_law_copy" = some ((["value"] : List Str), df_law_copy) := by kernel_rfl
theorem tf_law_very : tab "_law_very" = some ((["given", "value"] : List Str), df_law_very) := by kernel_rfl
theorem tf_law_gcd : tab "_law_gcd" = some ((["one", "other"] : List Str), df_law_gcd) := by kernel_rfl
theorem tf_law_ray : tab "_law_ray" = some ((["row"] : List Str), df_law_ray) := by kernel_rfl
theorem tf_law_led : tab "_law_led" = some ((["graph", "row"] : List Str), df_law_led) := by kernel_rfl
theorem tf_law_dot : tab "_law_dot" = some ((["graph", "one", "other"] : List Str), df_law_dot) := by kernel_rfl
theorem tf_law_graph : tab "_law_graph" = some ((["box", "many", "most"] : List Str), df_law_graph) := by kernel_rfl
theorem tf_law_drawn_ray : tab "_law_drawn_ray" = some ((["box", "many", "most"] : List Str), df_law_drawn_ray) := by kernel_rfl
theorem tf_law_changed : tab "_law_changed" = some ((["graph", "factor", "number"] : List Str), df_law_changed) := by kernel_rfl
theorem tf_law_moments : tab "_law_moments" = some ((["graph", "ray", "number"] : List Str), df_law_moments) := by kernel_rfl
theorem tf_law_bad_graph : tab "_law_bad_graph" = some ((["box", "graph"] : List Str), df_law_bad_graph) := by kernel_rfl
theorem tf_law_bad_ray : tab "_law_bad_ray" = some ((["box", "ray"] : List Str), df_law_bad_ray) := by kernel_rfl
theorem tf_law_met : tab "_law_met" = some ((["some", "named"] : List Str), df_law_met) := by kernel_rfl
theorem tf_law_some_graph : tab "_law_some_graph" = some ((["box"] : List Str), df_law_some_graph) := by kernel_rfl
theorem tf_law_right : tab "_law_right" = some ((["box", "graph", "ray", "named"] : List Str), df_law_right) := by kernel_rfl
theorem tf_law_refused_right : tab "_law_refused_right" = some ((["box", "graph", "ray", "named"] : List Str), df_law_refused_right) := by kernel_rfl
theorem tlaw : tab "law" = some ((["script"] : List Str), dlaw) := by kernel_rfl
theorem mdivisor_of : mSs tx (["items", "found", "item"] : List Str) true (defScope (top 7)) bdivisor_of (defBody (top 7)) = true := by decide +kernel
theorem mleads : mSs tx (["graph", "row", "j", "weights"] : List Str) true (defScope (top 9)) bleads (defBody (top 9)) = true := by decide +kernel
theorem mproduct_in : mSs tx (["masses", "one", "other", "k"] : List Str) true (defScope (top 10)) bproduct_in (defBody (top 10)) = true := by decide +kernel
theorem mis_integer : mSs tx (["value"] : List Str) true (defScope (top 13)) bis_integer (defBody (top 13)) = true := by decide +kernel
theorem mis_within : mSs tx (["value", "low", "high"] : List Str) true (defScope (top 14)) bis_within (defBody (top 14)) = true := by decide +kernel
theorem mis_tuple : mSs tx (["value", "many"] : List Str) true (defScope (top 15)) bis_tuple (defBody (top 15)) = true := by decide +kernel
theorem mis_integers : mSs tx (["value", "item"] : List Str) true (defScope (top 16)) bis_integers (defBody (top 16)) = true := by decide +kernel
theorem mis_row : mSs tx (["value", "many"] : List Str) true (defScope (top 17)) bis_row (defBody (top 17)) = true := by decide +kernel
theorem mis_square : mSs tx (["value", "many", "row"] : List Str) true (defScope (top 18)) bis_square (defBody (top 18)) = true := by decide +kernel
theorem mis_masses : mSs tx (["value", "item"] : List Str) true (defScope (top 20)) bis_masses (defBody (top 20)) = true := by decide +kernel
theorem mis_even_by : mSs tx (["masses", "matrix", "many", "i", "j"] : List Str) true (defScope (top 21)) bis_even_by (defBody (top 21)) = true := by decide +kernel
theorem mis_graph : mSs tx (["value"] : List Str) true (defScope (top 22)) bis_graph (defBody (top 22)) = true := by decide +kernel
theorem mcheck_graph : mSs tx (["graph"] : List Str) true (defScope (top 23)) bcheck_graph (defBody (top 23)) = true := by decide +kernel
theorem mis_plain_ray : mSs tx (["value", "item"] : List Str) true (defScope (top 25)) bis_plain_ray (defBody (top 25)) = true := by decide +kernel
theorem mfits_ray : mSs tx (["graph", "value"] : List Str) true (defScope (top 26)) bfits_ray (defBody (top 26)) = true := by decide +kernel
theorem mcheck_ray : mSs tx (["graph", "ray"] : List Str) true (defScope (top 27)) bcheck_ray (defBody (top 27)) = true := by decide +kernel
theorem mmoments : mSs tx (["graph", "ray", "number", "found", "now", "turn"] : List Str) true (defScope (top 30)) bmoments (defBody (top 30)) = true := by decide +kernel
theorem mf_law_cell : mSs tx (["script", "k"] : List Str) true (defScope (top 32)) bf_law_cell (defBody (top 32)) = true := by decide +kernel
theorem mf_law_box : mSs tx (["great"] : List Str) true (defScope (top 33)) bf_law_box (defBody (top 33)) = true := by decide +kernel
theorem mf_law_take : mSs tx (["box", "many", "digit", "mixed"] : List Str) true (defScope (top 34)) bf_law_take (defBody (top 34)) = true := by decide +kernel
theorem mf_law_pick : mSs tx (["box", "items"] : List Str) true (defScope (top 35)) bf_law_pick (defBody (top 35)) = true := by decide +kernel
theorem mf_law_same : mSs tx (["given", "due", "key", "k"] : List Str) true (defScope (top 36)) bf_law_same (defBody (top 36)) = true := by decide +kernel
theorem mf_law_copy : mSs tx (["value", "item", "key"] : List Str) true (defScope (top 37)) bf_law_copy (defBody (top 37)) = true := by decide +kernel
theorem mf_law_very : mSs tx (["given", "value"] : List Str) true (defScope (top 38)) bf_law_very (defBody (top 38)) = true := by decide +kernel
theorem mf_law_gcd : mSs tx (["one", "other", "turn"] : List Str) true (defScope (top 39)) bf_law_gcd (defBody (top 39)) = true := by decide +kernel
theorem mf_law_ray : mSs tx (["row", "divisor", "item", "sign"] : List Str) true (defScope (top 40)) bf_law_ray (defBody (top 40)) = true := by decide +kernel
theorem mf_law_led : mSs tx (["graph", "row", "j", "weights"] : List Str) true (defScope (top 41)) bf_law_led (defBody (top 41)) = true := by decide +kernel
theorem mf_law_dot : mSs tx (["graph", "one", "other", "k"] : List Str) true (defScope (top 42)) bf_law_dot (defBody (top 42)) = true := by decide +kernel
theorem mf_law_graph : mSs tx (["box", "many", "most", "masses", "weights", "k", "i", "j", "number", "divisor", "row"] : List Str) true (defScope (top 43)) bf_law_graph (defBody (top 43)) = true := by decide +kernel
theorem mf_law_drawn_ray : mSs tx (["box", "many", "most", "row", "k"] : List Str) true (defScope (top 44)) bf_law_drawn_ray (defBody (top 44)) = true := by decide +kernel
theorem mf_law_changed : mSs tx (["graph", "factor", "number", "many", "j", "i"] : List Str) true (defScope (top 45)) bf_law_changed (defBody (top 45)) = true := by decide +kernel
theorem mf_law_moments : mSs tx (["graph", "ray", "number", "rows", "turn", "k"] : List Str) true (defScope (top 46)) bf_law_moments (defBody (top 46)) = true := by decide +kernel
theorem mf_law_bad_graph : mSs tx (["box", "graph", "masses", "weights", "many", "i", "j", "wrong", "rows", "row", "found", "bad"] : List Str) true (defScope (top 47)) bf_law_bad_graph (defBody (top 47)) = true := by decide +kernel
theorem mf_law_bad_ray : mSs tx (["box", "ray", "at", "many", "found", "item", "bad"] : List Str) true (defScope (top 48)) bf_law_bad_ray (defBody (top 48)) = true := by decide +kernel
theorem mf_law_met : mSs tx (["some", "named", "e"] : List Str) true (defScope (top 49)) bf_law_met (defBody (top 49)) = true := by decide +kernel
theorem mf_law_some_graph : mSs tx (["box", "way", "graph"] : List Str) true (defScope (top 50)) bf_law_some_graph (defBody (top 50)) = true := by decide +kernel
theorem mf_law_right : mSs tx (["box", "graph", "ray", "named", "due", "number"] : List Str) true (defScope (top 51)) bf_law_right (defBody (top 51)) = true := by decide +kernel
theorem mf_law_refused_right : mSs tx (["box", "graph", "ray", "named", "turn", "bad", "told"] : List Str) true (defScope (top 52)) bf_law_refused_right (defBody (top 52)) = true := by decide +kernel
theorem mlaw : mSs tx (["script", "k", "box", "named", "graph", "many", "at", "ray"] : List Str) true (defScope (top 53)) blaw (defBody (top 53)) = true := by decide +kernel
/-- the facts of the classes -/
structure Cl (K : Fg) (C0 C1 C2 C3 I1 I2 I3 : Addr) : Prop where
  c0 : ClsF K "WalkError" C0
  c1 : ClsF K "InvalidNumber" C1
  c2 : ClsF K "InvalidGraph" C2
  c3 : ClsF K "InvalidRay" C3
  i1 : IniF K "InvalidNumber.__init__" C1 I1 (inClass (top 3) 0)
  i2 : IniF K "InvalidGraph.__init__" C2 I2 (inClass (top 4) 0)
  i3 : IniF K "InvalidRay.__init__" C3 I3 (inClass (top 5) 0)
  b : BaseC K C0
  s0_0 : PySem.W.subIn K (.ref C0) (.ref C0) = some true
  s0_1 : PySem.W.subIn K (.ref C0) (.ref C1) = some false
  s0_2 : PySem.W.subIn K (.ref C0) (.ref C2) = some false
  s0_3 : PySem.W.subIn K (.ref C0) (.ref C3) = some false
  s1_0 : PySem.W.subIn K (.ref C1) (.ref C0) = some true
  s1_1 : PySem.W.subIn K (.ref C1) (.ref C1) = some true
  s1_2 : PySem.W.subIn K (.ref C1) (.ref C2) = some false
  s1_3 : PySem.W.subIn K (.ref C1) (.ref C3) = some false
  s2_0 : PySem.W.subIn K (.ref C2) (.ref C0) = some true
  s2_1 : PySem.W.subIn K (.ref C2) (.ref C1) = some false
  s2_2 : PySem.W.subIn K (.ref C2) (.ref C2) = some true
  s2_3 : PySem.W.subIn K (.ref C2) (.ref C3) = some false
  s3_0 : PySem.W.subIn K (.ref C3) (.ref C0) = some true
  s3_1 : PySem.W.subIn K (.ref C3) (.ref C1) = some false
  s3_2 : PySem.W.subIn K (.ref C3) (.ref C2) = some false
  s3_3 : PySem.W.subIn K (.ref C3) (.ref C3) = some true
theorem txt {P : Program} {w : World} {K : Fg} {h : Heap} {mg : MG} {base : Heap} {C0 C1 C2 C3 I1 I2 I3 : Addr} (X : K.In h) (G : h.Ns mainGlobals mg) (O : Own K) (c : Cl K C0 C1 C2 C3 I1 I2 I3)
    (hdivisor_of : DefF K "divisor_of" (top 7))
    (hleads : DefF K "leads" (top 9))
    (hproduct_in : DefF K "product_in" (top 10))
    (his_integer : DefF K "is_integer" (top 13))
    (his_within : DefF K "is_within" (top 14))
    (his_tuple : DefF K "is_tuple" (top 15))
    (his_integers : DefF K "is_integers" (top 16))
    (his_row : DefF K "is_row" (top 17))
    (his_square : DefF K "is_square" (top 18))
    (his_masses : DefF K "is_masses" (top 20))
    (his_even_by : DefF K "is_even_by" (top 21))
    (his_graph : DefF K "is_graph" (top 22))
    (hcheck_graph : DefF K "check_graph" (top 23))
    (his_plain_ray : DefF K "is_plain_ray" (top 25))
    (hfits_ray : DefF K "fits_ray" (top 26))
    (hcheck_ray : DefF K "check_ray" (top 27))
    (hmoments : DefF K "moments" (top 30))
    (hf_law_cell : DefF K "_law_cell" (top 32))
    (hf_law_box : DefF K "_law_box" (top 33))
    (hf_law_take : DefF K "_law_take" (top 34))
    (hf_law_pick : DefF K "_law_pick" (top 35))
    (hf_law_same : DefF K "_law_same" (top 36))
    (hf_law_copy : DefF K "_law_copy" (top 37))
    (hf_law_very : DefF K "_law_very" (top 38))
    (hf_law_gcd : DefF K "_law_gcd" (top 39))
    (hf_law_ray : DefF K "_law_ray" (top 40))
    (hf_law_led : DefF K "_law_led" (top 41))
    (hf_law_dot : DefF K "_law_dot" (top 42))
    (hf_law_graph : DefF K "_law_graph" (top 43))
    (hf_law_drawn_ray : DefF K "_law_drawn_ray" (top 44))
    (hf_law_changed : DefF K "_law_changed" (top 45))
    (hf_law_moments : DefF K "_law_moments" (top 46))
    (hf_law_bad_graph : DefF K "_law_bad_graph" (top 47))
    (hf_law_bad_ray : DefF K "_law_bad_ray" (top 48))
    (hf_law_met : DefF K "_law_met" (top 49))
    (hf_law_some_graph : DefF K "_law_some_graph" (top 50))
    (hf_law_right : DefF K "_law_right" (top 51))
    (hf_law_refused_right : DefF K "_law_refused_right" (top 52))
    (hlaw : DefF K "law" (top 53))
    (g0 : ∃ u v, PySem.W.nsIn K mainGlobals "MOST_NODES" = some (some u) ∧ RelV v u ∧ ∀ ι M H, Rep K ι M H (Mp.D.int 8) v)
    (g1 : ∃ u v, PySem.W.nsIn K mainGlobals "MOST_MOMENTS" = some (some u) ∧ RelV v u ∧ ∀ ι M H, Rep K ι M H (Mp.D.int 16) v)
    (hgcd : true = true → PySem.W.nsIn K mainGlobals (Str.ofString "gcd") = some (some (.builtin "math.gcd")))
    : TxtOk P w K mg base tx tab := by
  have mgC : ∀ {n : Str} {v : Value}, PySem.W.nsIn K mainGlobals n = some (some v) → mg n = some v := fun e => PySem.W.mg_of X G e
  refine ⟨gb_of X G O ?_ ?_ ?_ (fun e => mgC (hgcd e)), fun d hd => memB_ok ?_ hd, fun _ => rfl, fun f ks hf => ?_⟩
  · exact (all_cons (all_cons ⟨C0, C0, mgC c.c0.ns, mgC c.c0.ns, (c.c0.exm c.c0 c.s0_0).trans (by decide +kernel)⟩ (all_cons ⟨C0, C1, mgC c.c0.ns, mgC c.c1.ns, (c.c0.exm c.c1 c.s0_1).trans (by decide +kernel)⟩ (all_cons ⟨C0, C2, mgC c.c0.ns, mgC c.c2.ns, (c.c0.exm c.c2 c.s0_2).trans (by decide +kernel)⟩ (all_cons ⟨C0, C3, mgC c.c0.ns, mgC c.c3.ns, (c.c0.exm c.c3 c.s0_3).trans (by decide +kernel)⟩ all_nil)))) (all_cons (all_cons ⟨C1, C0, mgC c.c1.ns, mgC c.c0.ns, (c.c1.exm c.c0 c.s1_0).trans (by decide +kernel)⟩ (all_cons ⟨C1, C1, mgC c.c1.ns, mgC c.c1.ns, (c.c1.exm c.c1 c.s1_1).trans (by decide +kernel)⟩ (all_cons ⟨C1, C2, mgC c.c1.ns, mgC c.c2.ns, (c.c1.exm c.c2 c.s1_2).trans (by decide +kernel)⟩ (all_cons ⟨C1, C3, mgC c.c1.ns, mgC c.c3.ns, (c.c1.exm c.c3 c.s1_3).trans (by decide +kernel)⟩ all_nil)))) (all_cons (all_cons ⟨C2, C0, mgC c.c2.ns, mgC c.c0.ns, (c.c2.exm c.c0 c.s2_0).trans (by decide +kernel)⟩ (all_cons ⟨C2, C1, mgC c.c2.ns, mgC c.c1.ns, (c.c2.exm c.c1 c.s2_1).trans (by decide +kernel)⟩ (all_cons ⟨C2, C2, mgC c.c2.ns, mgC c.c2.ns, (c.c2.exm c.c2 c.s2_2).trans (by decide +kernel)⟩ (all_cons ⟨C2, C3, mgC c.c2.ns, mgC c.c3.ns, (c.c2.exm c.c3 c.s2_3).trans (by decide +kernel)⟩ all_nil)))) (all_cons (all_cons ⟨C3, C0, mgC c.c3.ns, mgC c.c0.ns, (c.c3.exm c.c0 c.s3_0).trans (by decide +kernel)⟩ (all_cons ⟨C3, C1, mgC c.c3.ns, mgC c.c1.ns, (c.c3.exm c.c1 c.s3_1).trans (by decide +kernel)⟩ (all_cons ⟨C3, C2, mgC c.c3.ns, mgC c.c2.ns, (c.c3.exm c.c2 c.s3_2).trans (by decide +kernel)⟩ (all_cons ⟨C3, C3, mgC c.c3.ns, mgC c.c3.ns, (c.c3.exm c.c3 c.s3_3).trans (by decide +kernel)⟩ all_nil)))) all_nil))))
  · exact (all_cons ⟨C0, mgC c.c0.ns, c.c0.xf, c.c0.no⟩ (all_cons ⟨C1, mgC c.c1.ns, c.c1.xf, c.c1.no⟩ (all_cons ⟨C2, mgC c.c2.ns, c.c2.xf, c.c2.no⟩ (all_cons ⟨C3, mgC c.c3.ns, c.c3.xf, c.c3.no⟩ all_nil))))
  · intro x d hd
    have gg : ∀ p ∈ gs, ∃ (u : Value) (v : V), mg p.1 = some u ∧ RelV v u ∧ ∀ ι M H, Rep K ι M H p.2 v := by
      exact (all_cons (by obtain ⟨u, v, e1, e2, e3⟩ := g0; exact ⟨u, v, mgC e1, e2, e3⟩) (all_cons (by obtain ⟨u, v, e1, e2, e3⟩ := g1; exact ⟨u, v, mgC e1, e2, e3⟩) all_nil))
    exact gcB_ok (P := fun x d => ∃ (u : Value) (v : V), mg x = some u ∧ RelV v u ∧ ∀ ι M H, Rep K ι M H d v) gg hd
  · exact (all_cons (clsAt_of (self := "self") (g := "given") (b := "WalkError") (m := "not a number as asked for") (j := 0) (q1 := ⟨8, 8, 8, 17⟩) (q2 := ⟨8, 8, 8, 26⟩) (q3 := ⟨8, 27, 8, 31⟩) (q4 := ⟨8, 33, 8, 60⟩) (q5 := ⟨8, 8, 8, 61⟩) (q6 := ⟨8, 8, 8, 61⟩) (q7 := ⟨9, 8, 9, 12⟩) (q8 := ⟨9, 8, 9, 18⟩) (q9 := ⟨9, 21, 9, 26⟩) (q10 := ⟨9, 8, 9, 26⟩) X G c.c1 c.i1 c.b c.c0.ns ⟨rfl, rfl, rfl, by decide +kernel, rfl, by decide +kernel, by decide +kernel⟩ (by kernel_rfl) (by decide +kernel) (by decide +kernel) (by decide +kernel) (by decide +kernel) (by decide +kernel) (by decide +kernel) (fun env => ⟨_, rfl⟩) (fun _ _ _ _ _ _ us hl => match us, hl with | [_, _], _ => rfl)) (all_cons (clsAt_of (self := "self") (g := "given") (b := "WalkError") (m := "not a graph as asked for") (j := 0) (q1 := ⟨13, 8, 13, 17⟩) (q2 := ⟨13, 8, 13, 26⟩) (q3 := ⟨13, 27, 13, 31⟩) (q4 := ⟨13, 33, 13, 59⟩) (q5 := ⟨13, 8, 13, 60⟩) (q6 := ⟨13, 8, 13, 60⟩) (q7 := ⟨14, 8, 14, 12⟩) (q8 := ⟨14, 8, 14, 18⟩) (q9 := ⟨14, 21, 14, 26⟩) (q10 := ⟨14, 8, 14, 26⟩) X G c.c2 c.i2 c.b c.c0.ns ⟨rfl, rfl, rfl, by decide +kernel, rfl, by decide +kernel, by decide +kernel⟩ (by kernel_rfl) (by decide +kernel) (by decide +kernel) (by decide +kernel) (by decide +kernel) (by decide +kernel) (by decide +kernel) (fun env => ⟨_, rfl⟩) (fun _ _ _ _ _ _ us hl => match us, hl with | [_, _], _ => rfl)) (all_cons (clsAt_of (self := "self") (g := "given") (b := "WalkError") (m := "not a ray for the graph") (j := 0) (q1 := ⟨18, 8, 18, 17⟩) (q2 := ⟨18, 8, 18, 26⟩) (q3 := ⟨18, 27, 18, 31⟩) (q4 := ⟨18, 33, 18, 58⟩) (q5 := ⟨18, 8, 18, 59⟩) (q6 := ⟨18, 8, 18, 59⟩) (q7 := ⟨19, 8, 19, 12⟩) (q8 := ⟨19, 8, 19, 18⟩) (q9 := ⟨19, 21, 19, 26⟩) (q10 := ⟨19, 8, 19, 26⟩) X G c.c3 c.i3 c.b c.c0.ns ⟨rfl, rfl, rfl, by decide +kernel, rfl, by decide +kernel, by decide +kernel⟩ (by kernel_rfl) (by decide +kernel) (by decide +kernel) (by decide +kernel) (by decide +kernel) (by decide +kernel) (by decide +kernel) (fun env => ⟨_, rfl⟩) (fun _ _ _ _ _ _ us hl => match us, hl with | [_, _], _ => rfl)) all_nil)))
  · have ff : ∀ p ∈ fs, ∃ ps fn, tab p.1 = some (ps, fn) ∧ DefAt K mg tx p.2 p.1 ps fn := by
      exact (all_cons ⟨(["items"] : List Str), ddivisor_of, tdivisor_of, defAt_of X G hdivisor_of ⟨rfl, rfl, rfl, by decide +kernel, rfl, by decide +kernel, by decide +kernel⟩ rfl mdivisor_of (fun kV dc pm an cd ct => (all_cons (fun us ws zs e => by
      obtain ⟨hl, rfl⟩ := arr_nil e
      match us, hl with | [_], _ => rfl) all_nil))⟩
      (all_cons ⟨(["graph", "row"] : List Str), dleads, tleads, defAt_of X G hleads ⟨rfl, rfl, rfl, by decide +kernel, rfl, by decide +kernel, by decide +kernel⟩ rfl mleads (fun kV dc pm an cd ct => (all_cons (fun us ws zs e => by
      obtain ⟨hl, rfl⟩ := arr_nil e
      match us, hl with | [_, _], _ => rfl) all_nil))⟩
      (all_cons ⟨(["masses", "one", "other"] : List Str), dproduct_in, tproduct_in, defAt_of X G hproduct_in ⟨rfl, rfl, rfl, by decide +kernel, rfl, by decide +kernel, by decide +kernel⟩ rfl mproduct_in (fun kV dc pm an cd ct => (all_cons (fun us ws zs e => by
      obtain ⟨hl, rfl⟩ := arr_nil e
      match us, hl with | [_, _, _], _ => rfl) all_nil))⟩
      (all_cons ⟨(["value"] : List Str), dis_integer, tis_integer, defAt_of X G his_integer ⟨rfl, rfl, rfl, by decide +kernel, rfl, by decide +kernel, by decide +kernel⟩ rfl mis_integer (fun kV dc pm an cd ct => (all_cons (fun us ws zs e => by
      obtain ⟨hl, rfl⟩ := arr_nil e
      match us, hl with | [_], _ => rfl) all_nil))⟩
      (all_cons ⟨(["value", "low", "high"] : List Str), dis_within, tis_within, defAt_of X G his_within ⟨rfl, rfl, rfl, by decide +kernel, rfl, by decide +kernel, by decide +kernel⟩ rfl mis_within (fun kV dc pm an cd ct => (all_cons (fun us ws zs e => by
      obtain ⟨hl, rfl⟩ := arr_nil e
      match us, hl with | [_, _, _], _ => rfl) all_nil))⟩
      (all_cons ⟨(["value", "many"] : List Str), dis_tuple, tis_tuple, defAt_of X G his_tuple ⟨rfl, rfl, rfl, by decide +kernel, rfl, by decide +kernel, by decide +kernel⟩ rfl mis_tuple (fun kV dc pm an cd ct => (all_cons (fun us ws zs e => by
      obtain ⟨hl, rfl⟩ := arr_nil e
      match us, hl with | [_, _], _ => rfl) all_nil))⟩
      (all_cons ⟨(["value"] : List Str), dis_integers, tis_integers, defAt_of X G his_integers ⟨rfl, rfl, rfl, by decide +kernel, rfl, by decide +kernel, by decide +kernel⟩ rfl mis_integers (fun kV dc pm an cd ct => (all_cons (fun us ws zs e => by
      obtain ⟨hl, rfl⟩ := arr_nil e
      match us, hl with | [_], _ => rfl) all_nil))⟩
      (all_cons ⟨(["value", "many"] : List Str), dis_row, tis_row, defAt_of X G his_row ⟨rfl, rfl, rfl, by decide +kernel, rfl, by decide +kernel, by decide +kernel⟩ rfl mis_row (fun kV dc pm an cd ct => (all_cons (fun us ws zs e => by
      obtain ⟨hl, rfl⟩ := arr_nil e
      match us, hl with | [_, _], _ => rfl) all_nil))⟩
      (all_cons ⟨(["value", "many"] : List Str), dis_square, tis_square, defAt_of X G his_square ⟨rfl, rfl, rfl, by decide +kernel, rfl, by decide +kernel, by decide +kernel⟩ rfl mis_square (fun kV dc pm an cd ct => (all_cons (fun us ws zs e => by
      obtain ⟨hl, rfl⟩ := arr_nil e
      match us, hl with | [_, _], _ => rfl) all_nil))⟩
      (all_cons ⟨(["value"] : List Str), dis_masses, tis_masses, defAt_of X G his_masses ⟨rfl, rfl, rfl, by decide +kernel, rfl, by decide +kernel, by decide +kernel⟩ rfl mis_masses (fun kV dc pm an cd ct => (all_cons (fun us ws zs e => by
      obtain ⟨hl, rfl⟩ := arr_nil e
      match us, hl with | [_], _ => rfl) all_nil))⟩
      (all_cons ⟨(["masses", "matrix"] : List Str), dis_even_by, tis_even_by, defAt_of X G his_even_by ⟨rfl, rfl, rfl, by decide +kernel, rfl, by decide +kernel, by decide +kernel⟩ rfl mis_even_by (fun kV dc pm an cd ct => (all_cons (fun us ws zs e => by
      obtain ⟨hl, rfl⟩ := arr_nil e
      match us, hl with | [_, _], _ => rfl) all_nil))⟩
      (all_cons ⟨(["value"] : List Str), dis_graph, tis_graph, defAt_of X G his_graph ⟨rfl, rfl, rfl, by decide +kernel, rfl, by decide +kernel, by decide +kernel⟩ rfl mis_graph (fun kV dc pm an cd ct => (all_cons (fun us ws zs e => by
      obtain ⟨hl, rfl⟩ := arr_nil e
      match us, hl with | [_], _ => rfl) all_nil))⟩
      (all_cons ⟨(["graph"] : List Str), dcheck_graph, tcheck_graph, defAt_of X G hcheck_graph ⟨rfl, rfl, rfl, by decide +kernel, rfl, by decide +kernel, by decide +kernel⟩ rfl mcheck_graph (fun kV dc pm an cd ct => (all_cons (fun us ws zs e => by
      obtain ⟨hl, rfl⟩ := arr_nil e
      match us, hl with | [_], _ => rfl) all_nil))⟩
      (all_cons ⟨(["value"] : List Str), dis_plain_ray, tis_plain_ray, defAt_of X G his_plain_ray ⟨rfl, rfl, rfl, by decide +kernel, rfl, by decide +kernel, by decide +kernel⟩ rfl mis_plain_ray (fun kV dc pm an cd ct => (all_cons (fun us ws zs e => by
      obtain ⟨hl, rfl⟩ := arr_nil e
      match us, hl with | [_], _ => rfl) all_nil))⟩
      (all_cons ⟨(["graph", "value"] : List Str), dfits_ray, tfits_ray, defAt_of X G hfits_ray ⟨rfl, rfl, rfl, by decide +kernel, rfl, by decide +kernel, by decide +kernel⟩ rfl mfits_ray (fun kV dc pm an cd ct => (all_cons (fun us ws zs e => by
      obtain ⟨hl, rfl⟩ := arr_nil e
      match us, hl with | [_, _], _ => rfl) all_nil))⟩
      (all_cons ⟨(["graph", "ray"] : List Str), dcheck_ray, tcheck_ray, defAt_of X G hcheck_ray ⟨rfl, rfl, rfl, by decide +kernel, rfl, by decide +kernel, by decide +kernel⟩ rfl mcheck_ray (fun kV dc pm an cd ct => (all_cons (fun us ws zs e => by
      obtain ⟨hl, rfl⟩ := arr_nil e
      match us, hl with | [_, _], _ => rfl) all_nil))⟩
      (all_cons ⟨(["graph", "ray", "number"] : List Str), dmoments, tmoments, defAt_of X G hmoments ⟨rfl, rfl, rfl, by decide +kernel, rfl, by decide +kernel, by decide +kernel⟩ rfl mmoments (fun kV dc pm an cd ct => (all_cons (fun us ws zs e => by
      obtain ⟨hl, rfl⟩ := arr_nil e
      match us, hl with | [_, _, _], _ => rfl) (all_cons (fun us ws zs e => by
      obtain ⟨h1, h2⟩ := arr_kw e
      match us, ws, h1, h2, e with | [], [_, _, _], _, _, e => cases e; rfl) all_nil)))⟩
      (all_cons ⟨(["script", "k"] : List Str), df_law_cell, tf_law_cell, defAt_of X G hf_law_cell ⟨rfl, rfl, rfl, by decide +kernel, rfl, by decide +kernel, by decide +kernel⟩ rfl mf_law_cell (fun kV dc pm an cd ct => (all_cons (fun us ws zs e => by
      obtain ⟨hl, rfl⟩ := arr_nil e
      match us, hl with | [_, _], _ => rfl) all_nil))⟩
      (all_cons ⟨(["great"] : List Str), df_law_box, tf_law_box, defAt_of X G hf_law_box ⟨rfl, rfl, rfl, by decide +kernel, rfl, by decide +kernel, by decide +kernel⟩ rfl mf_law_box (fun kV dc pm an cd ct => (all_cons (fun us ws zs e => by
      obtain ⟨hl, rfl⟩ := arr_nil e
      match us, hl with | [_], _ => rfl) all_nil))⟩
      (all_cons ⟨(["box", "many"] : List Str), df_law_take, tf_law_take, defAt_of X G hf_law_take ⟨rfl, rfl, rfl, by decide +kernel, rfl, by decide +kernel, by decide +kernel⟩ rfl mf_law_take (fun kV dc pm an cd ct => (all_cons (fun us ws zs e => by
      obtain ⟨hl, rfl⟩ := arr_nil e
      match us, hl with | [_, _], _ => rfl) all_nil))⟩
      (all_cons ⟨(["box", "items"] : List Str), df_law_pick, tf_law_pick, defAt_of X G hf_law_pick ⟨rfl, rfl, rfl, by decide +kernel, rfl, by decide +kernel, by decide +kernel⟩ rfl mf_law_pick (fun kV dc pm an cd ct => (all_cons (fun us ws zs e => by
      obtain ⟨hl, rfl⟩ := arr_nil e
      match us, hl with | [_, _], _ => rfl) all_nil))⟩
      (all_cons ⟨(["given", "due"] : List Str), df_law_same, tf_law_same, defAt_of X G hf_law_same ⟨rfl, rfl, rfl, by decide +kernel, rfl, by decide +kernel, by decide +kernel⟩ rfl mf_law_same (fun kV dc pm an cd ct => (all_cons (fun us ws zs e => by
      obtain ⟨hl, rfl⟩ := arr_nil e
      match us, hl with | [_, _], _ => rfl) all_nil))⟩
      (all_cons ⟨(["value"] : List Str), df_law_copy, tf_law_copy, defAt_of X G hf_law_copy ⟨rfl, rfl, rfl, by decide +kernel, rfl, by decide +kernel, by decide +kernel⟩ rfl mf_law_copy (fun kV dc pm an cd ct => (all_cons (fun us ws zs e => by
      obtain ⟨hl, rfl⟩ := arr_nil e
      match us, hl with | [_], _ => rfl) all_nil))⟩
      (all_cons ⟨(["given", "value"] : List Str), df_law_very, tf_law_very, defAt_of X G hf_law_very ⟨rfl, rfl, rfl, by decide +kernel, rfl, by decide +kernel, by decide +kernel⟩ rfl mf_law_very (fun kV dc pm an cd ct => (all_cons (fun us ws zs e => by
      obtain ⟨hl, rfl⟩ := arr_nil e
      match us, hl with | [_, _], _ => rfl) all_nil))⟩
      (all_cons ⟨(["one", "other"] : List Str), df_law_gcd, tf_law_gcd, defAt_of X G hf_law_gcd ⟨rfl, rfl, rfl, by decide +kernel, rfl, by decide +kernel, by decide +kernel⟩ rfl mf_law_gcd (fun kV dc pm an cd ct => (all_cons (fun us ws zs e => by
      obtain ⟨hl, rfl⟩ := arr_nil e
      match us, hl with | [_, _], _ => rfl) all_nil))⟩
      (all_cons ⟨(["row"] : List Str), df_law_ray, tf_law_ray, defAt_of X G hf_law_ray ⟨rfl, rfl, rfl, by decide +kernel, rfl, by decide +kernel, by decide +kernel⟩ rfl mf_law_ray (fun kV dc pm an cd ct => (all_cons (fun us ws zs e => by
      obtain ⟨hl, rfl⟩ := arr_nil e
      match us, hl with | [_], _ => rfl) all_nil))⟩
      (all_cons ⟨(["graph", "row"] : List Str), df_law_led, tf_law_led, defAt_of X G hf_law_led ⟨rfl, rfl, rfl, by decide +kernel, rfl, by decide +kernel, by decide +kernel⟩ rfl mf_law_led (fun kV dc pm an cd ct => (all_cons (fun us ws zs e => by
      obtain ⟨hl, rfl⟩ := arr_nil e
      match us, hl with | [_, _], _ => rfl) all_nil))⟩
      (all_cons ⟨(["graph", "one", "other"] : List Str), df_law_dot, tf_law_dot, defAt_of X G hf_law_dot ⟨rfl, rfl, rfl, by decide +kernel, rfl, by decide +kernel, by decide +kernel⟩ rfl mf_law_dot (fun kV dc pm an cd ct => (all_cons (fun us ws zs e => by
      obtain ⟨hl, rfl⟩ := arr_nil e
      match us, hl with | [_, _, _], _ => rfl) all_nil))⟩
      (all_cons ⟨(["box", "many", "most"] : List Str), df_law_graph, tf_law_graph, defAt_of X G hf_law_graph ⟨rfl, rfl, rfl, by decide +kernel, rfl, by decide +kernel, by decide +kernel⟩ rfl mf_law_graph (fun kV dc pm an cd ct => (all_cons (fun us ws zs e => by
      obtain ⟨hl, rfl⟩ := arr_nil e
      match us, hl with | [_, _, _], _ => rfl) all_nil))⟩
      (all_cons ⟨(["box", "many", "most"] : List Str), df_law_drawn_ray, tf_law_drawn_ray, defAt_of X G hf_law_drawn_ray ⟨rfl, rfl, rfl, by decide +kernel, rfl, by decide +kernel, by decide +kernel⟩ rfl mf_law_drawn_ray (fun kV dc pm an cd ct => (all_cons (fun us ws zs e => by
      obtain ⟨hl, rfl⟩ := arr_nil e
      match us, hl with | [_, _, _], _ => rfl) all_nil))⟩
      (all_cons ⟨(["graph", "factor", "number"] : List Str), df_law_changed, tf_law_changed, defAt_of X G hf_law_changed ⟨rfl, rfl, rfl, by decide +kernel, rfl, by decide +kernel, by decide +kernel⟩ rfl mf_law_changed (fun kV dc pm an cd ct => (all_cons (fun us ws zs e => by
      obtain ⟨hl, rfl⟩ := arr_nil e
      match us, hl with | [_, _, _], _ => rfl) all_nil))⟩
      (all_cons ⟨(["graph", "ray", "number"] : List Str), df_law_moments, tf_law_moments, defAt_of X G hf_law_moments ⟨rfl, rfl, rfl, by decide +kernel, rfl, by decide +kernel, by decide +kernel⟩ rfl mf_law_moments (fun kV dc pm an cd ct => (all_cons (fun us ws zs e => by
      obtain ⟨hl, rfl⟩ := arr_nil e
      match us, hl with | [_, _, _], _ => rfl) all_nil))⟩
      (all_cons ⟨(["box", "graph"] : List Str), df_law_bad_graph, tf_law_bad_graph, defAt_of X G hf_law_bad_graph ⟨rfl, rfl, rfl, by decide +kernel, rfl, by decide +kernel, by decide +kernel⟩ rfl mf_law_bad_graph (fun kV dc pm an cd ct => (all_cons (fun us ws zs e => by
      obtain ⟨hl, rfl⟩ := arr_nil e
      match us, hl with | [_, _], _ => rfl) all_nil))⟩
      (all_cons ⟨(["box", "ray"] : List Str), df_law_bad_ray, tf_law_bad_ray, defAt_of X G hf_law_bad_ray ⟨rfl, rfl, rfl, by decide +kernel, rfl, by decide +kernel, by decide +kernel⟩ rfl mf_law_bad_ray (fun kV dc pm an cd ct => (all_cons (fun us ws zs e => by
      obtain ⟨hl, rfl⟩ := arr_nil e
      match us, hl with | [_, _], _ => rfl) all_nil))⟩
      (all_cons ⟨(["some", "named"] : List Str), df_law_met, tf_law_met, defAt_of X G hf_law_met ⟨rfl, rfl, rfl, by decide +kernel, rfl, by decide +kernel, by decide +kernel⟩ rfl mf_law_met (fun kV dc pm an cd ct => (all_cons (fun us ws zs e => by
      obtain ⟨hl, rfl⟩ := arr_nil e
      match us, hl with | [_, _], _ => rfl) all_nil))⟩
      (all_cons ⟨(["box"] : List Str), df_law_some_graph, tf_law_some_graph, defAt_of X G hf_law_some_graph ⟨rfl, rfl, rfl, by decide +kernel, rfl, by decide +kernel, by decide +kernel⟩ rfl mf_law_some_graph (fun kV dc pm an cd ct => (all_cons (fun us ws zs e => by
      obtain ⟨hl, rfl⟩ := arr_nil e
      match us, hl with | [_], _ => rfl) all_nil))⟩
      (all_cons ⟨(["box", "graph", "ray", "named"] : List Str), df_law_right, tf_law_right, defAt_of X G hf_law_right ⟨rfl, rfl, rfl, by decide +kernel, rfl, by decide +kernel, by decide +kernel⟩ rfl mf_law_right (fun kV dc pm an cd ct => (all_cons (fun us ws zs e => by
      obtain ⟨hl, rfl⟩ := arr_nil e
      match us, hl with | [_, _, _, _], _ => rfl) all_nil))⟩
      (all_cons ⟨(["box", "graph", "ray", "named"] : List Str), df_law_refused_right, tf_law_refused_right, defAt_of X G hf_law_refused_right ⟨rfl, rfl, rfl, by decide +kernel, rfl, by decide +kernel, by decide +kernel⟩ rfl mf_law_refused_right (fun kV dc pm an cd ct => (all_cons (fun us ws zs e => by
      obtain ⟨hl, rfl⟩ := arr_nil e
      match us, hl with | [_, _, _, _], _ => rfl) all_nil))⟩
      (all_cons ⟨(["script"] : List Str), dlaw, tlaw, defAt_of X G hlaw ⟨rfl, rfl, rfl, by decide +kernel, rfl, by decide +kernel, by decide +kernel⟩ rfl mlaw (fun kV dc pm an cd ct => (all_cons (fun us ws zs e => by
      obtain ⟨hl, rfl⟩ := arr_nil e
      match us, hl with | [_], _ => rfl) all_nil))⟩
      all_nil)))))))))))))))))))))))))))))))))))))))
    obtain ⟨kss, ⟨ps, fn, e1, e2⟩, e3⟩ := fnB_ok (P := fun f kss => ∃ ps fn, tab f = some (ps, fn) ∧ DefAt K mg tx kss f ps fn) ff hf
    exact ⟨ps, fn, kss, e1, e2, e3⟩
end Lk74
namespace Lk74
open PySem PySem.Spec PyProof.Rows L2 Mp
open He
def fsN : List Str := [Str.ofString "divisor_of", Str.ofString "leads", Str.ofString "product_in", Str.ofString "is_integer", Str.ofString "is_within", Str.ofString "is_tuple", Str.ofString "is_integers", Str.ofString "is_row", Str.ofString "is_square", Str.ofString "is_masses", Str.ofString "is_even_by", Str.ofString "is_graph", Str.ofString "check_graph", Str.ofString "is_plain_ray", Str.ofString "fits_ray", Str.ofString "check_ray", Str.ofString "moments", Str.ofString "_law_cell", Str.ofString "_law_box", Str.ofString "_law_take", Str.ofString "_law_pick", Str.ofString "_law_same", Str.ofString "_law_copy", Str.ofString "_law_very", Str.ofString "_law_gcd", Str.ofString "_law_ray", Str.ofString "_law_led", Str.ofString "_law_dot", Str.ofString "_law_graph", Str.ofString "_law_drawn_ray", Str.ofString "_law_changed", Str.ofString "_law_moments", Str.ofString "_law_bad_graph", Str.ofString "_law_bad_ray", Str.ofString "_law_met", Str.ofString "_law_some_graph", Str.ofString "_law_right", Str.ofString "_law_refused_right", Str.ofString "law"]
def ex : Fg → Bool := exM true fsN cs is gs
def i0 : DefD := ⟨("InvalidNumber", some "__init__"), "__init__", "InvalidNumber.__init__", defArgs (inClass (top 3) 0), defBody (inClass (top 3) 0), defScope (inClass (top 3) 0), [], []⟩
def i1 : DefD := ⟨("InvalidGraph", some "__init__"), "__init__", "InvalidGraph.__init__", defArgs (inClass (top 4) 0), defBody (inClass (top 4) 0), defScope (inClass (top 4) 0), [], []⟩
def i2 : DefD := ⟨("InvalidRay", some "__init__"), "__init__", "InvalidRay.__init__", defArgs (inClass (top 5) 0), defBody (inClass (top 5) 0), defScope (inClass (top 5) 0), [], []⟩
def n0 : DefD := ⟨("divisor_of", none), "divisor_of", "divisor_of", defArgs (top 7), defBody (top 7), defScope (top 7), [], []⟩
def n1 : DefD := ⟨("leads", none), "leads", "leads", defArgs (top 9), defBody (top 9), defScope (top 9), [], []⟩
def n2 : DefD := ⟨("product_in", none), "product_in", "product_in", defArgs (top 10), defBody (top 10), defScope (top 10), [], []⟩
def n3 : DefD := ⟨("is_integer", none), "is_integer", "is_integer", defArgs (top 13), defBody (top 13), defScope (top 13), [], []⟩
def n4 : DefD := ⟨("is_within", none), "is_within", "is_within", defArgs (top 14), defBody (top 14), defScope (top 14), [], []⟩
def n5 : DefD := ⟨("is_tuple", none), "is_tuple", "is_tuple", defArgs (top 15), defBody (top 15), defScope (top 15), [], []⟩
def n6 : DefD := ⟨("is_integers", none), "is_integers", "is_integers", defArgs (top 16), defBody (top 16), defScope (top 16), [], []⟩
def n7 : DefD := ⟨("is_row", none), "is_row", "is_row", defArgs (top 17), defBody (top 17), defScope (top 17), [], []⟩
def n8 : DefD := ⟨("is_square", none), "is_square", "is_square", defArgs (top 18), defBody (top 18), defScope (top 18), [], []⟩
def n9 : DefD := ⟨("is_masses", none), "is_masses", "is_masses", defArgs (top 20), defBody (top 20), defScope (top 20), [], []⟩
def n10 : DefD := ⟨("is_even_by", none), "is_even_by", "is_even_by", defArgs (top 21), defBody (top 21), defScope (top 21), [], []⟩
def n11 : DefD := ⟨("is_graph", none), "is_graph", "is_graph", defArgs (top 22), defBody (top 22), defScope (top 22), [], []⟩
def n12 : DefD := ⟨("check_graph", none), "check_graph", "check_graph", defArgs (top 23), defBody (top 23), defScope (top 23), [], []⟩
def n13 : DefD := ⟨("is_plain_ray", none), "is_plain_ray", "is_plain_ray", defArgs (top 25), defBody (top 25), defScope (top 25), [], []⟩
def n14 : DefD := ⟨("fits_ray", none), "fits_ray", "fits_ray", defArgs (top 26), defBody (top 26), defScope (top 26), [], []⟩
def n15 : DefD := ⟨("check_ray", none), "check_ray", "check_ray", defArgs (top 27), defBody (top 27), defScope (top 27), [], []⟩
def n16 : DefD := ⟨("moments", none), "moments", "moments", defArgs (top 30), defBody (top 30), defScope (top 30), [], []⟩
def n17 : DefD := ⟨("_law_cell", none), "_law_cell", "_law_cell", defArgs (top 32), defBody (top 32), defScope (top 32), [], []⟩
def n18 : DefD := ⟨("_law_box", none), "_law_box", "_law_box", defArgs (top 33), defBody (top 33), defScope (top 33), [], []⟩
def n19 : DefD := ⟨("_law_take", none), "_law_take", "_law_take", defArgs (top 34), defBody (top 34), defScope (top 34), [], []⟩
def n20 : DefD := ⟨("_law_pick", none), "_law_pick", "_law_pick", defArgs (top 35), defBody (top 35), defScope (top 35), [], []⟩
def n21 : DefD := ⟨("_law_same", none), "_law_same", "_law_same", defArgs (top 36), defBody (top 36), defScope (top 36), [], []⟩
def n22 : DefD := ⟨("_law_copy", none), "_law_copy", "_law_copy", defArgs (top 37), defBody (top 37), defScope (top 37), [], []⟩
def n23 : DefD := ⟨("_law_very", none), "_law_very", "_law_very", defArgs (top 38), defBody (top 38), defScope (top 38), [], []⟩
def n24 : DefD := ⟨("_law_gcd", none), "_law_gcd", "_law_gcd", defArgs (top 39), defBody (top 39), defScope (top 39), [], []⟩
def n25 : DefD := ⟨("_law_ray", none), "_law_ray", "_law_ray", defArgs (top 40), defBody (top 40), defScope (top 40), [], []⟩
def n26 : DefD := ⟨("_law_led", none), "_law_led", "_law_led", defArgs (top 41), defBody (top 41), defScope (top 41), [], []⟩
def n27 : DefD := ⟨("_law_dot", none), "_law_dot", "_law_dot", defArgs (top 42), defBody (top 42), defScope (top 42), [], []⟩
def n28 : DefD := ⟨("_law_graph", none), "_law_graph", "_law_graph", defArgs (top 43), defBody (top 43), defScope (top 43), [], []⟩
def n29 : DefD := ⟨("_law_drawn_ray", none), "_law_drawn_ray", "_law_drawn_ray", defArgs (top 44), defBody (top 44), defScope (top 44), [], []⟩
def n30 : DefD := ⟨("_law_changed", none), "_law_changed", "_law_changed", defArgs (top 45), defBody (top 45), defScope (top 45), [], []⟩
def n31 : DefD := ⟨("_law_moments", none), "_law_moments", "_law_moments", defArgs (top 46), defBody (top 46), defScope (top 46), [], []⟩
def n32 : DefD := ⟨("_law_bad_graph", none), "_law_bad_graph", "_law_bad_graph", defArgs (top 47), defBody (top 47), defScope (top 47), [], []⟩
def n33 : DefD := ⟨("_law_bad_ray", none), "_law_bad_ray", "_law_bad_ray", defArgs (top 48), defBody (top 48), defScope (top 48), [], []⟩
def n34 : DefD := ⟨("_law_met", none), "_law_met", "_law_met", defArgs (top 49), defBody (top 49), defScope (top 49), [], []⟩
def n35 : DefD := ⟨("_law_some_graph", none), "_law_some_graph", "_law_some_graph", defArgs (top 50), defBody (top 50), defScope (top 50), [], []⟩
def n36 : DefD := ⟨("_law_right", none), "_law_right", "_law_right", defArgs (top 51), defBody (top 51), defScope (top 51), [], []⟩
def n37 : DefD := ⟨("_law_refused_right", none), "_law_refused_right", "_law_refused_right", defArgs (top 52), defBody (top 52), defScope (top 52), [], []⟩
def n38 : DefD := ⟨("law", none), "law", "law", defArgs (top 53), defBody (top 53), defScope (top 53), [], []⟩
def fnl0 : List DefD := [i0, i1, i2, n0, n1, n2, n3, n4, n5, n6, n7, n8, n9, n10, n11, n12, n13, n14, n15, n16, n17, n18, n19, n20, n21, n22, n23, n24, n25, n26]
def fnl1 : List DefD := [n27, n28, n29, n30, n31, n32, n33, n34, n35, n36, n37, n38]
def fnl : List DefD := fnl0 ++ fnl1
theorem facts {P : Program} {w : World} {K : Fg} {h : Heap} {mg : MG} {base : Heap} (X : K.In h) (G : h.Ns mainGlobals mg) (c : SaysM ex fnl K) : TxtOk P w K mg base tx tab := by
  have E := exM_ok c.more
  obtain ⟨_, F0⟩ := c.def_ 0 (d := i0) rfl
  obtain ⟨_, F1⟩ := c.def_ 1 (d := i1) rfl
  obtain ⟨_, F2⟩ := c.def_ 2 (d := i2) rfl
  obtain ⟨_, F3⟩ := c.def_ 3 (d := n0) rfl
  obtain ⟨_, F4⟩ := c.def_ 4 (d := n1) rfl
  obtain ⟨_, F5⟩ := c.def_ 5 (d := n2) rfl
  obtain ⟨_, F6⟩ := c.def_ 6 (d := n3) rfl
  obtain ⟨_, F7⟩ := c.def_ 7 (d := n4) rfl
  obtain ⟨_, F8⟩ := c.def_ 8 (d := n5) rfl
  obtain ⟨_, F9⟩ := c.def_ 9 (d := n6) rfl
  obtain ⟨_, F10⟩ := c.def_ 10 (d := n7) rfl
  obtain ⟨_, F11⟩ := c.def_ 11 (d := n8) rfl
  obtain ⟨_, F12⟩ := c.def_ 12 (d := n9) rfl
  obtain ⟨_, F13⟩ := c.def_ 13 (d := n10) rfl
  obtain ⟨_, F14⟩ := c.def_ 14 (d := n11) rfl
  obtain ⟨_, F15⟩ := c.def_ 15 (d := n12) rfl
  obtain ⟨_, F16⟩ := c.def_ 16 (d := n13) rfl
  obtain ⟨_, F17⟩ := c.def_ 17 (d := n14) rfl
  obtain ⟨_, F18⟩ := c.def_ 18 (d := n15) rfl
  obtain ⟨_, F19⟩ := c.def_ 19 (d := n16) rfl
  obtain ⟨_, F20⟩ := c.def_ 20 (d := n17) rfl
  obtain ⟨_, F21⟩ := c.def_ 21 (d := n18) rfl
  obtain ⟨_, F22⟩ := c.def_ 22 (d := n19) rfl
  obtain ⟨_, F23⟩ := c.def_ 23 (d := n20) rfl
  obtain ⟨_, F24⟩ := c.def_ 24 (d := n21) rfl
  obtain ⟨_, F25⟩ := c.def_ 25 (d := n22) rfl
  obtain ⟨_, F26⟩ := c.def_ 26 (d := n23) rfl
  obtain ⟨_, F27⟩ := c.def_ 27 (d := n24) rfl
  obtain ⟨_, F28⟩ := c.def_ 28 (d := n25) rfl
  obtain ⟨_, F29⟩ := c.def_ 29 (d := n26) rfl
  obtain ⟨_, F30⟩ := c.def_ 30 (d := n27) rfl
  obtain ⟨_, F31⟩ := c.def_ 31 (d := n28) rfl
  obtain ⟨_, F32⟩ := c.def_ 32 (d := n29) rfl
  obtain ⟨_, F33⟩ := c.def_ 33 (d := n30) rfl
  obtain ⟨_, F34⟩ := c.def_ 34 (d := n31) rfl
  obtain ⟨_, F35⟩ := c.def_ 35 (d := n32) rfl
  obtain ⟨_, F36⟩ := c.def_ 36 (d := n33) rfl
  obtain ⟨_, F37⟩ := c.def_ 37 (d := n34) rfl
  obtain ⟨_, F38⟩ := c.def_ 38 (d := n35) rfl
  obtain ⟨_, F39⟩ := c.def_ 39 (d := n36) rfl
  obtain ⟨_, F40⟩ := c.def_ 40 (d := n37) rfl
  obtain ⟨_, F41⟩ := c.def_ 41 (d := n38) rfl
  have cl : Cl K (ga K "WalkError") (ga K "InvalidNumber") (ga K "InvalidGraph") (ga K "InvalidRay") (fAd K ("InvalidNumber", some "__init__")) (fAd K ("InvalidGraph", some "__init__")) (fAd K ("InvalidRay", some "__init__")) := by
    constructor
    case c0 => exact E.cls _ (List.mem_of_getElem? (l := cs) (i := 0) rfl)
    case c1 => exact E.cls _ (List.mem_of_getElem? (l := cs) (i := 1) rfl)
    case c2 => exact E.cls _ (List.mem_of_getElem? (l := cs) (i := 2) rfl)
    case c3 => exact E.cls _ (List.mem_of_getElem? (l := cs) (i := 3) rfl)
    case i1 => exact ini_ok (E.ini _ (List.mem_of_getElem? (l := is) (i := 0) rfl)) F0
    case i2 => exact ini_ok (E.ini _ (List.mem_of_getElem? (l := is) (i := 1) rfl)) F1
    case i3 => exact ini_ok (E.ini _ (List.mem_of_getElem? (l := is) (i := 2) rfl)) F2
    case b => exact E.base
    case s0_0 => exact (E.sub _ (List.mem_of_getElem? (l := cs) (i := 0) rfl) _ (List.mem_of_getElem? (l := cs) (i := 0) rfl)).trans (by decide +kernel)
    case s0_1 => exact (E.sub _ (List.mem_of_getElem? (l := cs) (i := 0) rfl) _ (List.mem_of_getElem? (l := cs) (i := 1) rfl)).trans (by decide +kernel)
    case s0_2 => exact (E.sub _ (List.mem_of_getElem? (l := cs) (i := 0) rfl) _ (List.mem_of_getElem? (l := cs) (i := 2) rfl)).trans (by decide +kernel)
    case s0_3 => exact (E.sub _ (List.mem_of_getElem? (l := cs) (i := 0) rfl) _ (List.mem_of_getElem? (l := cs) (i := 3) rfl)).trans (by decide +kernel)
    case s1_0 => exact (E.sub _ (List.mem_of_getElem? (l := cs) (i := 1) rfl) _ (List.mem_of_getElem? (l := cs) (i := 0) rfl)).trans (by decide +kernel)
    case s1_1 => exact (E.sub _ (List.mem_of_getElem? (l := cs) (i := 1) rfl) _ (List.mem_of_getElem? (l := cs) (i := 1) rfl)).trans (by decide +kernel)
    case s1_2 => exact (E.sub _ (List.mem_of_getElem? (l := cs) (i := 1) rfl) _ (List.mem_of_getElem? (l := cs) (i := 2) rfl)).trans (by decide +kernel)
    case s1_3 => exact (E.sub _ (List.mem_of_getElem? (l := cs) (i := 1) rfl) _ (List.mem_of_getElem? (l := cs) (i := 3) rfl)).trans (by decide +kernel)
    case s2_0 => exact (E.sub _ (List.mem_of_getElem? (l := cs) (i := 2) rfl) _ (List.mem_of_getElem? (l := cs) (i := 0) rfl)).trans (by decide +kernel)
    case s2_1 => exact (E.sub _ (List.mem_of_getElem? (l := cs) (i := 2) rfl) _ (List.mem_of_getElem? (l := cs) (i := 1) rfl)).trans (by decide +kernel)
    case s2_2 => exact (E.sub _ (List.mem_of_getElem? (l := cs) (i := 2) rfl) _ (List.mem_of_getElem? (l := cs) (i := 2) rfl)).trans (by decide +kernel)
    case s2_3 => exact (E.sub _ (List.mem_of_getElem? (l := cs) (i := 2) rfl) _ (List.mem_of_getElem? (l := cs) (i := 3) rfl)).trans (by decide +kernel)
    case s3_0 => exact (E.sub _ (List.mem_of_getElem? (l := cs) (i := 3) rfl) _ (List.mem_of_getElem? (l := cs) (i := 0) rfl)).trans (by decide +kernel)
    case s3_1 => exact (E.sub _ (List.mem_of_getElem? (l := cs) (i := 3) rfl) _ (List.mem_of_getElem? (l := cs) (i := 1) rfl)).trans (by decide +kernel)
    case s3_2 => exact (E.sub _ (List.mem_of_getElem? (l := cs) (i := 3) rfl) _ (List.mem_of_getElem? (l := cs) (i := 2) rfl)).trans (by decide +kernel)
    case s3_3 => exact (E.sub _ (List.mem_of_getElem? (l := cs) (i := 3) rfl) _ (List.mem_of_getElem? (l := cs) (i := 3) rfl)).trans (by decide +kernel)
  exact txt X G E.own cl (def_ok (E.fn _ (List.mem_of_getElem? (l := fsN) (i := 0) rfl)) F3) (def_ok (E.fn _ (List.mem_of_getElem? (l := fsN) (i := 1) rfl)) F4) (def_ok (E.fn _ (List.mem_of_getElem? (l := fsN) (i := 2) rfl)) F5) (def_ok (E.fn _ (List.mem_of_getElem? (l := fsN) (i := 3) rfl)) F6) (def_ok (E.fn _ (List.mem_of_getElem? (l := fsN) (i := 4) rfl)) F7) (def_ok (E.fn _ (List.mem_of_getElem? (l := fsN) (i := 5) rfl)) F8) (def_ok (E.fn _ (List.mem_of_getElem? (l := fsN) (i := 6) rfl)) F9) (def_ok (E.fn _ (List.mem_of_getElem? (l := fsN) (i := 7) rfl)) F10) (def_ok (E.fn _ (List.mem_of_getElem? (l := fsN) (i := 8) rfl)) F11) (def_ok (E.fn _ (List.mem_of_getElem? (l := fsN) (i := 9) rfl)) F12) (def_ok (E.fn _ (List.mem_of_getElem? (l := fsN) (i := 10) rfl)) F13) (def_ok (E.fn _ (List.mem_of_getElem? (l := fsN) (i := 11) rfl)) F14) (def_ok (E.fn _ (List.mem_of_getElem? (l := fsN) (i := 12) rfl)) F15) (def_ok (E.fn _ (List.mem_of_getElem? (l := fsN) (i := 13) rfl)) F16) (def_ok (E.fn _ (List.mem_of_getElem? (l := fsN) (i := 14) rfl)) F17) (def_ok (E.fn _ (List.mem_of_getElem? (l := fsN) (i := 15) rfl)) F18) (def_ok (E.fn _ (List.mem_of_getElem? (l := fsN) (i := 16) rfl)) F19) (def_ok (E.fn _ (List.mem_of_getElem? (l := fsN) (i := 17) rfl)) F20) (def_ok (E.fn _ (List.mem_of_getElem? (l := fsN) (i := 18) rfl)) F21) (def_ok (E.fn _ (List.mem_of_getElem? (l := fsN) (i := 19) rfl)) F22) (def_ok (E.fn _ (List.mem_of_getElem? (l := fsN) (i := 20) rfl)) F23) (def_ok (E.fn _ (List.mem_of_getElem? (l := fsN) (i := 21) rfl)) F24) (def_ok (E.fn _ (List.mem_of_getElem? (l := fsN) (i := 22) rfl)) F25) (def_ok (E.fn _ (List.mem_of_getElem? (l := fsN) (i := 23) rfl)) F26) (def_ok (E.fn _ (List.mem_of_getElem? (l := fsN) (i := 24) rfl)) F27) (def_ok (E.fn _ (List.mem_of_getElem? (l := fsN) (i := 25) rfl)) F28) (def_ok (E.fn _ (List.mem_of_getElem? (l := fsN) (i := 26) rfl)) F29) (def_ok (E.fn _ (List.mem_of_getElem? (l := fsN) (i := 27) rfl)) F30) (def_ok (E.fn _ (List.mem_of_getElem? (l := fsN) (i := 28) rfl)) F31) (def_ok (E.fn _ (List.mem_of_getElem? (l := fsN) (i := 29) rfl)) F32) (def_ok (E.fn _ (List.mem_of_getElem? (l := fsN) (i := 30) rfl)) F33) (def_ok (E.fn _ (List.mem_of_getElem? (l := fsN) (i := 31) rfl)) F34) (def_ok (E.fn _ (List.mem_of_getElem? (l := fsN) (i := 32) rfl)) F35) (def_ok (E.fn _ (List.mem_of_getElem? (l := fsN) (i := 33) rfl)) F36) (def_ok (E.fn _ (List.mem_of_getElem? (l := fsN) (i := 34) rfl)) F37) (def_ok (E.fn _ (List.mem_of_getElem? (l := fsN) (i := 35) rfl)) F38) (def_ok (E.fn _ (List.mem_of_getElem? (l := fsN) (i := 36) rfl)) F39) (def_ok (E.fn _ (List.mem_of_getElem? (l := fsN) (i := 37) rfl)) F40) (def_ok (E.fn _ (List.mem_of_getElem? (l := fsN) (i := 38) rfl)) F41) (E.con _ (List.mem_of_getElem? (l := gs) (i := 0) rfl)) (E.con _ (List.mem_of_getElem? (l := gs) (i := 1) rfl)) E.gcd
abbrev R : PySem.W.OpenRow := PySem.W.OpenLaw.row PySem.Challenge.rw_realagain_k74_moments
abbrev hk : PySem.W.Hook := hookM 5 ex fnl
def ob (s : PySem.W.SharedT) : AlD := obsMG 5 ex fnl (HandSHeadRun.getT s)
theorem ob_eq (s : PySem.W.SharedT) : ob s = hk.obs s.abs := obsMG_eq (HandSHeadRun.getT_eq s)
def loo0 : List Str := [Str.ofString "WalkError", Str.ofString "InvalidNumber", Str.ofString "InvalidGraph", Str.ofString "InvalidRay", Str.ofString "divisor_of", Str.ofString "leads", Str.ofString "product_in", Str.ofString "MOST_NODES", Str.ofString "is_integer", Str.ofString "is_within", Str.ofString "is_tuple", Str.ofString "is_integers", Str.ofString "is_row", Str.ofString "is_square", Str.ofString "is_masses", Str.ofString "is_even_by", Str.ofString "is_graph", Str.ofString "check_graph", Str.ofString "is_plain_ray", Str.ofString "fits_ray", Str.ofString "check_ray", Str.ofString "MOST_MOMENTS", Str.ofString "moments", Str.ofString "_law_cell", Str.ofString "_law_box", Str.ofString "_law_take", Str.ofString "_law_pick", Str.ofString "_law_same", Str.ofString "_law_copy", Str.ofString "_law_very"]
def loo1 : List Str := [Str.ofString "_law_gcd", Str.ofString "_law_ray", Str.ofString "_law_led", Str.ofString "_law_dot", Str.ofString "_law_graph", Str.ofString "_law_drawn_ray", Str.ofString "_law_changed", Str.ofString "_law_moments", Str.ofString "_law_bad_graph", Str.ofString "_law_bad_ray", Str.ofString "_law_met", Str.ofString "_law_some_graph", Str.ofString "_law_right", Str.ofString "_law_refused_right"]
def loo : List Str := loo0 ++ loo1
theorem run (w : World) : HandSHeadRun.RunEqI R (PySem.W.view R.prog [0, 53]) hk ob 60000 loo w := by
  unfold HandSHeadRun.RunEqI
  kernel_rfl
end Lk74
namespace Lk74
open PySem Mp
/-! ### the table's facts -/
theorem tTake : TakeT tab 15486013 179424907 104831 := ⟨tf_law_take, by decide, by decide, by decide⟩
theorem tRay : RayT tab := { integer := ⟨_, tis_integer⟩, tuple := ⟨_, tis_tuple⟩, integers := ⟨_, tis_integers⟩, row := ⟨_, tis_row⟩, square := ⟨_, tis_square⟩, masses := ⟨_, tis_masses⟩, even_by := ⟨_, tis_even_by⟩, graph := ⟨_, tis_graph⟩, divisor := ⟨_, tdivisor_of⟩, plain := ⟨_, tis_plain_ray⟩, fits := ⟨_, tfits_ray⟩, checkR := ⟨_, tcheck_ray⟩, checkG := ⟨_, tcheck_graph⟩ }
/-- a graph and a ray of it, their numbers not above a line -/
structure GR (ms : List Int) (ws : List (List Int)) (r : List Int) : Prop where
  g : GrOk ms ws
  ray : RayOk r
  len : r.length = ms.length
  bm : ∀ x ∈ ms, x.natAbs < 2 ^ 200
  bw : ∀ w ∈ ws, ∀ x ∈ w, x.natAbs < 2 ^ 200
  br : ∀ x ∈ r, x.natAbs < 2 ^ 200
def momL (ms : List Int) (ws : List (List Int)) (r : List Int) (k : Nat) : List Int := (List.range k).map fun i => prodL ms r (itL ws r i)
theorem v_int {S : Store} {l : List Int} (hl : l.length ≤ 1000) (b : ∀ x ∈ l, x.natAbs < 2 ^ 200) : vD S (iD l) = true := by
  show (decide ((l.map D.int).length ≤ 16777216) && vL S (l.map D.int)) = true
  rw [Bool.and_eq_true, decide_eq_true_eq, vL_all, List.all_eq_true]
  refine ⟨by rw [List.length_map]; omega, fun x hx => ?_⟩
  obtain ⟨i, hi, rfl⟩ := List.mem_map.mp hx
  exact decide_eq_true (bd_mono (b i hi) (by omega))
theorem v_mat {S : Store} {ws : List (List Int)} (hl : ws.length ≤ 1000) (hr : ∀ r ∈ ws, r.length ≤ 1000) (b : ∀ w ∈ ws, ∀ x ∈ w, x.natAbs < 2 ^ 200) : vD S (mD ws) = true := by
  show (decide ((ws.map iD).length ≤ 16777216) && vL S (ws.map iD)) = true
  rw [Bool.and_eq_true, decide_eq_true_eq, vL_all, List.all_eq_true]
  refine ⟨by rw [List.length_map]; omega, fun x hx => ?_⟩
  obtain ⟨i, hi, rfl⟩ := List.mem_map.mp hx
  exact v_int (hr i hi) (b i hi)
theorem v_gr {S : Store} {ms : List Int} {ws : List (List Int)} (g : GrOk ms ws) (bm : ∀ x ∈ ms, x.natAbs < 2 ^ 200) (bw : ∀ w ∈ ws, ∀ x ∈ w, x.natAbs < 2 ^ 200) : vD S (gD ms ws) = true := by
  have h8 := g.most
  have h1 := v_int (S := S) (l := ms) (by omega) bm
  have h2 := v_mat (S := S) (ws := ws) (by rw [g.len]; omega) (fun r hr => by rw [g.row r hr]; omega) bw
  show (decide (2 ≤ 16777216) && (vD S (iD ms) && (vD S (mD ws) && true))) = true
  rw [h1, h2]
  rfl
theorem isG {ms : List Int} {ws : List (List Int)} (g : GrOk ms ws) : isGraphD (gD ms ws) = true := graph_iff.mpr ⟨ms, ws, rfl, g⟩
section
variable {n : Nat} {S : Store}
theorem mom_turn (hn : 1 ≤ n) {ms r : List Int} {ws : List (List Int)} (h : GR ms ws r) (k i : Nat) (hi : i < 16) (e5 : D) {xs : List D} (hx : S[q]? = some (.lst xs)) (hl : xs.length ≤ 100) :
    evSs (phi tab n) l1_moments [some (gD ms ws), some (iD r), some (.int (k : Int)), some (.ref q), some (iD (itL ws r i)), some e5] S = .nx [some (gD ms ws), some (iD r), some (.int (k : Int)), some (.ref q), some (iD (itL ws r (i + 1))), some e5] (S.set q (.lst (xs ++ [.int (prodL ms r (itL ws r i))]))) := by
  have g8 := h.g.most
  have li := itL_len h.g h.len i
  have bi := itL_bd h.g h.len h.bw h.br i
  have big : 200 + 203 * i ≤ 4000 := by omega
  have bi' : ∀ x ∈ itL ws r i, x.natAbs < 2 ^ 4000 := fun x hx => bd_mono (bi x hx) (by omega)
  have e1 := product_ok (T := tab) (n := n) (S := S) tproduct_in rfl hn g8 h.len li h.bm h.br bi' (by omega)
  have e2 := fun S => leads_ok (T := tab) (n := n) (S := S) (ms := ms) tleads rfl hn (by rw [h.g.len]; exact g8) (by rw [li]; exact g8) (fun w hw => by rw [h.g.row w hw, li]) h.bw bi' (by omega)
  have hq : lstOf S (.ref q) = some xs := by simp only [lstOf, hx]
  have ma := meth_append hx (by omega) (.int (prodL ms r (itL ws r i)))
  simp [l1_moments, at0, hq, e1, ma, e2, itL]
theorem moments_ok (hn : 7 ≤ n) {ms r : List Int} {ws : List (List Int)} (h : GR ms ws r) {k : Nat} (k1 : 1 ≤ k) (k16 : k ≤ 16) :
    ∃ o, phi tab n "moments" [gD ms ws, iD r, .int (k : Int)] [] [] S = .ok (iD (momL ms ws r k)) (S ++ [o]) := by
  obtain ⟨n, rfl⟩ : ∃ m, n = m + 1 := ⟨n - 1, by omega⟩
  rw [phi_whole tmoments rfl]
  have g8 := h.g.most
  have vg := v_gr (S := S) h.g h.bm h.bw
  have vr := v_int (S := S) (l := r) (by rw [h.len]; omega) h.br
  have e1 := check_graph_ok tRay (n := n) (by omega) vg (isG h.g)
  have e2 := check_ray_ok tRay (n := n) (by omega) vr h.ray h.len (ws := ws)
  have vk : vD S (.int (k : Int)) = true := decide_eq_true (bd_mono (a := 5) (by show k < 32; omega) (by omega))
  have e3 := within_ok tis_within tRay.toGraphT.toShapeT (n := n) (by omega) vk 1 16
  have e3' : inD 1 16 (.int (k : Int)) = true := by simp [inD]; omega
  rw [e3'] at e3
  have li : line = 16777216 := rfl
  obtain ⟨ρ, S', e, e5, rfl, rfl⟩ := eachF_inv (f := fun x ρ S => evSs (phi tab n) l1_moments (ρ.set 5 (some x)) S)
    (fun i ρ S' => ∃ e5, ρ = [some (gD ms ws), some (iD r), some (.int (k : Int)), some (.ref S.length), some (iD (itL ws r i)), e5] ∧ S' = S ++ [.lst ((momL ms ws r i).map .int)]) (xs := rngL 0 k)
    (fun i hi ρ S' hI => by
      obtain ⟨e5, rfl, rfl⟩ := hI
      rw [rngL_sz] at hi
      rw [rngL_get (by rw [rngL_sz]; exact hi)]
      refine ⟨_, _, .inl (mom_turn (n := n) (by omega) h k i (by omega) _ (end_get S _) (by simp [momL]; omega)), _, rfl, ?_⟩
      rw [set_last]
      simp [momL, List.range_succ]) (ρ := [some (gD ms ws), some (iD r), some (.int (k : Int)), some (.ref S.length), some (iD r), none]) (S := S ++ [.lst []]) ⟨none, rfl, rfl⟩
  rw [rngL_sz] at e
  refine ⟨.lst ((momL ms ws r k).map .int), ?_⟩
  have rk := rng_of (show k ≤ line by rw [li]; omega)
  have sq : seqOf (S ++ [O.lst ((momL ms ws r k).map .int)]) (.ref S.length) = some ((momL ms ws r k).map .int) := by simp [seqOf, lstOf]
  have run : evSs (phi tab n) bmoments (startE 6 [gD ms ws, iD r, .int (k : Int)]) S = .rt (iD (momL ms ws r k)) (S ++ [.lst ((momL ms ws r k).map .int)]) := by
    refine (ss_step (ρ' := [some (gD ms ws), some (iD r), some (.int (k : Int)), none, none, none]) (S' := S) (by simp [startE, e1])).trans ?_
    refine (ss_step (ρ' := [some (gD ms ws), some (iD r), some (.int (k : Int)), none, none, none]) (S' := S) (by simp [e2])).trans ?_
    refine (ss_step (ρ' := [some (gD ms ws), some (iD r), some (.int (k : Int)), none, none, none]) (S' := S) (by simp [e3])).trans ?_
    refine (ss_step (ρ' := [some (gD ms ws), some (iD r), some (.int (k : Int)), some (.ref S.length), some (iD r), none]) (S' := S ++ [.lst []]) (by simp)).trans ?_
    refine (ss_step (each_rng (x := (k : Int)) (by simp) rk e)).trans ?_
    simp [blt, blt1, sq]
  rw [run]
  rfl
theorem moments_noG (hn : 7 ≤ n) {d b c : D} (h : vD S d = true) (hg : isGraphD d = false) (hb : noexc b = true) (hc : noexc c = true) : phi tab n "moments" [d, b, c] [] [] S = .exc "InvalidGraph" [fldN "InvalidGraph"] [d] S := by
  obtain ⟨n, rfl⟩ : ∃ m, n = m + 1 := ⟨n - 1, by omega⟩
  rw [phi_whole tmoments rfl]
  have e1 := check_graph_no tRay (n := n) (by omega) h hg
  have sd := v_slot h
  simp [bmoments, startE, sd, e1]
theorem moments_noR (hn : 7 ≤ n) {ms : List Int} {ws : List (List Int)} (g : GrOk ms ws) (bm : ∀ x ∈ ms, x.natAbs < 2 ^ 200) (bw : ∀ w ∈ ws, ∀ x ∈ w, x.natAbs < 2 ^ 200) {d c : D} (h : vD S d = true) (hr : fitsD ms.length d = false) (hc : noexc c = true) :
    phi tab n "moments" [gD ms ws, d, c] [] [] S = .exc "InvalidRay" [fldN "InvalidRay"] [d] S := by
  obtain ⟨n, rfl⟩ : ∃ m, n = m + 1 := ⟨n - 1, by omega⟩
  rw [phi_whole tmoments rfl]
  have e1 := check_graph_ok tRay (n := n) (by omega) (v_gr (S := S) g bm bw) (isG g)
  have e2 := check_ray_no tRay (n := n) (by omega) h hr (ws := ws)
  have sd := v_slot h
  simp [bmoments, startE, sd, e1, e2]
theorem moments_noN (hn : 7 ≤ n) {ms r : List Int} {ws : List (List Int)} (h : GR ms ws r) {d : D} (hd : vD S d = true) (hr : inD 1 16 d = false) :
    phi tab n "moments" [gD ms ws, iD r, d] [] [] S = .exc "InvalidNumber" [fldN "InvalidNumber"] [d] S := by
  obtain ⟨n, rfl⟩ : ∃ m, n = m + 1 := ⟨n - 1, by omega⟩
  rw [phi_whole tmoments rfl]
  have g8 := h.g.most
  have e1 := check_graph_ok tRay (n := n) (by omega) (v_gr (S := S) h.g h.bm h.bw) (isG h.g)
  have e2 := check_ray_ok tRay (n := n) (by omega) (v_int (S := S) (l := r) (by rw [h.len]; omega) h.br) h.ray h.len (ws := ws)
  have e3 := within_ok tis_within tRay.toGraphT.toShapeT (n := n) (by omega) hd 1 16
  rw [hr] at e3
  have sd := v_slot hd
  simp [bmoments, startE, sd, e1, e2, e3]
end
end Lk74
namespace Lk74
open PySem Mp
section
variable {n : Nat} {S : Store}
/-! ### what is due: the moments by halves -/
def rowsD (ws : List (List Int)) (r : List Int) (k : Nat) : List D := (List.range (k + 1)).map fun a => iD (itL ws r a)
theorem rowsD_succ (ws : List (List Int)) (r : List Int) (k : Nat) : rowsD ws r (k + 1) = rowsD ws r k ++ [iD (itL ws r (k + 1))] := by
  unfold rowsD
  rw [List.range_succ (n := k + 1), List.map_append]
  rfl
theorem rowsD_len (ws : List (List Int)) (r : List Int) (k : Nat) : (rowsD ws r k).length = k + 1 := by simp [rowsD]
theorem rowsD_get (ws : List (List Int)) (r : List Int) {k a : Nat} (h : a ≤ k) : L2.atI (rowsD ws r k) (a : Int) = some (iD (itL ws r a)) := by
  have := atI_map (fun a => iD (itL ws r a)) (List.range (k + 1)) 0 (i := a) (by simp; omega)
  rw [show rowsD ws r k = (List.range (k + 1)).map (fun a => iD (itL ws r a)) from rfl, this]
  simp [List.getD_eq_getElem?_getD, show a < k + 1 by omega]
theorem atI_last (xs : List D) (x : D) : L2.atI (xs ++ [x]) (-1) = some x := by
  simp only [L2.atI, L2.ixN, List.length_append, List.length_singleton]
  rw [if_neg (by omega), if_pos (by omega)]
  show (xs ++ [x])[(-1 + ((xs.length + 1 : Nat) : Int)).toNat]? = some x
  rw [show (-1 + ((xs.length + 1 : Nat) : Int)).toNat = xs.length by omega]
  simp
theorem rowsD_last (ws : List (List Int)) (r : List Int) (k : Nat) : L2.atI (rowsD ws r k) (-1) = some (iD (itL ws r k)) := by
  cases k with
  | zero => exact atI_last [] _
  | succ k => rw [rowsD_succ]; exact atI_last _ _
theorem fdiv2 (m : Nat) : (m : Int).fdiv 2 = ((m / 2 : Nat) : Int) := by rw [Int.fdiv_eq_ediv_of_nonneg _ (by omega)]; omega
theorem div2 (i : Int) : divOk i 2 = true := divOk_small (by omega) (by omega)
theorem lmom_turn (hn : 1 ≤ n) {ms r : List Int} {ws : List (List Int)} (h : GR ms ws r) (m : D) (i : Nat) (hi : i < 16) (e4 : D) (e5 : Option D) :
    evSs (phi tab n) l1__law_moments [some (gD ms ws), some (iD r), some m, some (.ref 0), some e4, e5] [.lst (rowsD ws r i)] = .nx [some (gD ms ws), some (iD r), some m, some (.ref 0), some e4, e5] [.lst (rowsD ws r (i + 1))] := by
  have g8 := h.g.most
  have li := itL_len h.g h.len i
  have bi := itL_bd h.g h.len h.bw h.br i
  have bi' : ∀ x ∈ itL ws r i, x.natAbs < 2 ^ 4000 := fun x hx => bd_mono (bi x hx) (by omega)
  have e2 := fun S => leads_ok (T := tab) (n := n) (S := S) (ms := ms) tf_law_led rfl hn (by rw [h.g.len]; exact g8) (by rw [li]; exact g8) (fun w hw => by rw [h.g.row w hw, li]) h.bw bi' (by omega)
  have hS : ([O.lst (rowsD ws r i)] : Store)[0]? = some (.lst (rowsD ws r i)) := rfl
  have ma := meth_append hS (by rw [rowsD_len]; omega) (iD (leadsL ws (itL ws r i)))
  have il := rowsD_last ws r i
  have ii : ∀ j, ixop (.ref 0) (.int j) [O.lst (rowsD ws r i)] = L2.atI (rowsD ws r i) j := fun j => ix_lstR hS j
  rw [rowsD_succ, itL]
  simp [l1__law_moments, lstOf, ii, il, e2, ma]
theorem c1m (hn : 1 ≤ n) {ms r : List Int} {ws : List (List Int)} (h : GR ms ws r) (e4 : Option D) :
    evE (phi tab n) c1__law_moments [some (gD ms ws), some (iD r), some (.int 16), some (.ref 0), e4, none] [.lst (rowsD ws r 8)] = .ok (.lst ((momL ms ws r 16).map .int)) [.lst (rowsD ws r 8)] := by
  have g8 := h.g.most
  have hS : ([O.lst (rowsD ws r 8)] : Store)[0]? = some (.lst (rowsD ws r 8)) := rfl
  have ii : ∀ j, ixop (.ref 0) (.int j) [O.lst (rowsD ws r 8)] = L2.atI (rowsD ws r 8) j := fun j => ix_lstR hS j
  have r16 : rngOf [.int 16] = some (rngL 0 16) := rng_of (n := 16) (by decide)
  have e : (momL ms ws r 16).map D.int = (List.range 16).map fun i => .int (prodL ms r (itL ws r i)) := by simp [momL]
  rw [e]
  refine comp_rng (m := 16) (src := .items (rngL 0 16)) (i_rng1 (x := 16) (by simp) r16) rfl (by omega) fun k hk => ?_
  have g1 := rowsD_get ws r (k := 8) (a := k / 2) (by omega)
  have g2 := rowsD_get ws r (k := 8) (a := k - k / 2) (by omega)
  have ck : (k : Int) - ((k / 2 : Nat) : Int) = ((k - k / 2 : Nat) : Int) := by omega
  have bd : ∀ a, a ≤ 16 → ∀ x ∈ itL ws r a, x.natAbs < 2 ^ 4000 := fun a ha x hx => bd_mono (itL_bd h.g h.len h.bw h.br a x hx) (by omega)
  have dt := dot_ok (T := tab) (n := n) (S := [O.lst (rowsD ws r 8)]) (ws := ws) tf_law_dot rfl hn g8 (itL_len h.g h.len (k / 2)) (itL_len h.g h.len (k - k / 2)) h.bm (bd _ (by omega)) (bd _ (by omega)) (by omega)
  rw [mom_half h.g h.len, show k / 2 + (k - k / 2) = k by omega] at dt
  have c2 : ((k / 2 : Nat) : Int) = (k : Int) / 2 := by omega
  rw [c2] at g1 ck
  simp [binI, div2, fdiv2, ii, g1, ck, g2, dt]
theorem lmoments_ok (hn : 3 ≤ n) {ms r : List Int} {ws : List (List Int)} (h : GR ms ws r) : phi tab n "_law_moments" [gD ms ws, iD r, .int 16] [] [] S = .ok (iD (momL ms ws r 16)) S := by
  obtain ⟨n, rfl⟩ : ∃ m, n = m + 1 := ⟨n - 1, by omega⟩
  rw [phi_own0 tf_law_moments rfl (by
    simp only [List.all_cons, List.all_nil, Bool.and_true, Bool.and_eq_true]
    exact ⟨gD_pure ms ws, iD_pure r, rfl⟩)]
  obtain ⟨ρ, S', e, e4, rfl, rfl⟩ := eachF_inv (f := fun x ρ S => evSs (phi tab n) l1__law_moments (ρ.set 4 (some x)) S)
    (fun i ρ S' => ∃ e4, ρ = [some (gD ms ws), some (iD r), some (.int 16), some (.ref 0), e4, none] ∧ S' = [.lst (rowsD ws r i)]) (xs := rngL 0 8)
    (fun i hi ρ S' hI => by
      obtain ⟨e4, rfl, rfl⟩ := hI
      rw [rngL_sz] at hi
      exact ⟨_, _, .inl (lmom_turn (n := n) (by omega) h _ i (by omega) _ _), _, rfl, rfl⟩) (ρ := [some (gD ms ws), some (iD r), some (.int 16), some (.ref 0), none, none]) (S := [.lst (rowsD ws r 0)]) ⟨none, rfl, rfl⟩
  rw [rngL_sz] at e
  have r8 : rngOf [.int 8] = some (rngL 0 8) := rng_of (n := 8) (by decide)
  generalize rngL 0 8 = L8 at *
  have f8 : (16 : Int).fdiv 2 = 8 := rfl
  have c := c1m (n := n) (by omega) h e4
  have run : evSs (phi tab n) bf_law_moments (startE 6 [gD ms ws, iD r, .int 16]) [] = .rt (iD (momL ms ws r 16)) [.lst (rowsD ws r 8)] := by
    refine (ss_step (ρ' := [some (gD ms ws), some (iD r), some (.int 16), some (.ref 0), none, none]) (S' := [.lst (rowsD ws r 0)]) (by simp [startE, rowsD, itL])).trans ?_
    refine (ss_step (each_rng (x := 8) (by simp [binI, div2, f8]) r8 e)).trans ?_
    simp [c]
  rw [run]
  show back true [O.lst (rowsD ws r 8)] 0 (iD (momL ms ws r 16)) S = _
  exact back_pure _ _ _ (iD_pure _) _
end
end Lk74
namespace Lk74
open PySem Mp
theorem fIG : fldN "InvalidGraph" = "given" := by decide +kernel
theorem fIR : fldN "InvalidRay" = "given" := by decide +kernel
theorem fIN : fldN "InvalidNumber" = "given" := by decide +kernel
abbrev clss : List Str := ["WalkError", "InvalidNumber", "InvalidGraph", "InvalidRay"]
theorem cIG : clss.contains "InvalidGraph" = true := by decide +kernel
theorem cIR : clss.contains "InvalidRay" = true := by decide +kernel
theorem cIN : clss.contains "InvalidNumber" = true := by decide +kernel
theorem tGG : takesC "InvalidGraph" "InvalidGraph" = true := by decide +kernel
theorem tRG : takesC "InvalidRay" "InvalidGraph" = false := by decide +kernel
theorem tRR : takesC "InvalidRay" "InvalidRay" = true := by decide +kernel
theorem tNG : takesC "InvalidNumber" "InvalidGraph" = false := by decide +kernel
theorem tNR : takesC "InvalidNumber" "InvalidRay" = false := by decide +kernel
theorem tNN : takesC "InvalidNumber" "InvalidNumber" = true := by decide +kernel
theorem fopG (v : D) : fldop (.exc "InvalidGraph" ["given"] [v]) "given" ["InvalidGraph"] = some v := by
  show (if (["InvalidGraph"] : List Str).contains "InvalidGraph" = true ∧ (Str.ofString "given") = Str.ofString "given" then some v else none) = some v
  rw [if_pos ⟨by decide +kernel, rfl⟩]
theorem fopR (v : D) : fldop (.exc "InvalidRay" ["given"] [v]) "given" ["InvalidRay"] = some v := by
  show (if (["InvalidRay"] : List Str).contains "InvalidRay" = true ∧ (Str.ofString "given") = Str.ofString "given" then some v else none) = some v
  rw [if_pos ⟨by decide +kernel, rfl⟩]
theorem fopN (v : D) : fldop (.exc "InvalidNumber" ["given"] [v]) "given" ["InvalidNumber"] = some v := by
  show (if (["InvalidNumber"] : List Str).contains "InvalidNumber" = true ∧ (Str.ofString "given") = Str.ofString "given" then some v else none) = some v
  rw [if_pos ⟨by decide +kernel, rfl⟩]
section
variable {n : Nat} {S : Store}
theorem kwM (n : Nat) (a b c : D) (S : Store) : phi tab n "moments" [] ["number", "ray", "graph"] [c, b, a] S = phi tab n "moments" [a, b, c] [] [] S := phi_kw tmoments (by rfl) rfl n S
theorem a30 (a b c : D) : L2.atI [a, b, c] 0 = some a := rfl
theorem a31 (a b c : D) : L2.atI [a, b, c] 1 = some b := rfl
theorem a32 (a b c : D) : L2.atI [a, b, c] 2 = some c := rfl
abbrev told (d : D) : D := .lst [.str "told", d]
theorem met_told {a b c d : D} {S S' : Store} (h : phi tab n "moments" [a, b, c] [] [] S = .ok d S') (y : Bool) : phi tab (n + 1) "_law_met" [.lst [a, b, c], .bl y] [] [] S = .ok (told d) S' := by
  rw [phi_whole tf_law_met rfl]
  cases y <;> simp [bf_law_met, startE, a30, a31, a32, kwM, h]
theorem met_graph {a b c d : D} {S S' : Store} (h : phi tab n "moments" [a, b, c] [] [] S = .exc "InvalidGraph" [fldN "InvalidGraph"] [d] S') (y : Bool) : phi tab (n + 1) "_law_met" [.lst [a, b, c], .bl y] [] [] S = .ok (.lst [.str "graph", d]) S' := by
  rw [phi_whole tf_law_met rfl]
  cases y <;> simp [bf_law_met, startE, a30, a31, a32, kwM, h, cIG, tGG, fIG, fopG]
theorem met_ray {a b c d : D} {S S' : Store} (h : phi tab n "moments" [a, b, c] [] [] S = .exc "InvalidRay" [fldN "InvalidRay"] [d] S') (y : Bool) : phi tab (n + 1) "_law_met" [.lst [a, b, c], .bl y] [] [] S = .ok (.lst [.str "ray", d]) S' := by
  rw [phi_whole tf_law_met rfl]
  cases y <;> simp [bf_law_met, startE, a30, a31, a32, kwM, h, cIR, tRG, tRR, fIR, fopR]
theorem met_number {a b c d : D} {S S' : Store} (h : phi tab n "moments" [a, b, c] [] [] S = .exc "InvalidNumber" [fldN "InvalidNumber"] [d] S') (y : Bool) : phi tab (n + 1) "_law_met" [.lst [a, b, c], .bl y] [] [] S = .ok (.lst [.str "number", d]) S' := by
  rw [phi_whole tf_law_met rfl]
  cases y <;> simp [bf_law_met, startE, a30, a31, a32, kwM, h, cIN, tNG, tNR, tNN, fIN, fopN]
/-! ### what is told is right -/
theorem same_self (hn : 9 ≤ n) {d : D} (h : okD 9 d = true) : phi tab n "_law_same" [d, d] [] [] S = .ok (.bl true) S := same_ok tf_law_same (k := 9) hn (Sm_ok h)
theorem okStr : okD 4 (.str "told") = true := by decide +kernel
theorem momL_len (ms : List Int) (ws : List (List Int)) (r : List Int) (k : Nat) : (momL ms ws r k).length = k := by simp [momL]
theorem momL_take (ms : List Int) (ws : List (List Int)) (r : List Int) {k : Nat} (h : k ≤ 16) : (momL ms ws r 16).take k = momL ms ws r k := by
  unfold momL
  rw [← List.map_take, List.take_range, Nat.min_eq_left h]
theorem right_turn (hn : 9 ≤ n) {ms r : List Int} {ws : List (List Int)} (h : GR ms ws r) (b : D) (y : Bool) {k : Nat} (k1 : 1 ≤ k) (k16 : k ≤ 16) :
    ∃ o, evSs (phi tab n) l1__law_right [some b, some (gD ms ws), some (iD r), some (.bl y), some (iD (momL ms ws r 16)), some (.int (k : Int))] S = .nx [some b, some (gD ms ws), some (iD r), some (.bl !y), some (iD (momL ms ws r 16)), some (.int (k : Int))] (S ++ [o]) := by
  obtain ⟨n, rfl⟩ : ∃ m, n = m + 1 := ⟨n - 1, by omega⟩
  obtain ⟨o, e⟩ := moments_ok (n := n) (S := S) (by omega) h k1 k16
  have e1 := met_told e y
  have e2 := same_self (n := n + 1) (S := S ++ [o]) (by omega) (d := told (iD (momL ms ws r k))) (okD_mono (ok2 okStr (okI 2 (by rw [momL_len]; omega))) (by omega))
  have e3 : slop true (iD (momL ms ws r 16)) none (some (k : Int)) (S ++ [o]) = .ok (iD (momL ms ws r k)) (S ++ [o]) := by
    show R.ok (D.tup (cutD ((momL ms ws r 16).map D.int) none (some (k : Int)))) _ = _
    rw [cut_to, ← List.map_take, momL_take ms ws r k16]
  refine ⟨o, ?_⟩
  generalize momL ms ws r 16 = X at *
  simp [l1__law_right, e1, part, e3, e2]
theorem right_ok (hn : 10 ≤ n) {ms r : List Int} {ws : List (List Int)} (h : GR ms ws r) {q : Nat} {o : O} {c : Int} (hS : S[q]? = some o) (hb : BoxOk c o) (hc : c ≤ 1000000) (y : Bool) :
    ∃ o' T, phi tab n "_law_right" [.ref q, gD ms ws, iD r, .bl y] [] [] S = .ok (.bl true) (S.set q o' ++ T) ∧ BoxOk (c + 2) o' := by
  obtain ⟨n, rfl⟩ : ∃ m, n = m + 1 := ⟨n - 1, by omega⟩
  rw [phi_whole tf_law_right rfl]
  have hlt := (List.getElem?_eq_some_iff.mp hS).1
  have e0 := lmoments_ok (n := n) (S := S) (by omega) h
  obtain ⟨d1, o1, t1, a0, a1, hb1⟩ := take_ok tTake (n := n) (by omega) hS hb (by omega) (many := 16) (by omega) (by omega)
  obtain ⟨d2, o2, t2, b0, b1, hb2⟩ := take_ok tTake (n := n) (by omega) (set_back (o := o1) (o' := o) hlt) hb1 (by omega) (many := 16) (by omega) (by omega)
  rw [List.set_set] at t2
  obtain ⟨d1, rfl⟩ := Int.eq_ofNat_of_zero_le a0
  obtain ⟨d2, rfl⟩ := Int.eq_ofNat_of_zero_le b0
  obtain ⟨ns, hns, hall⟩ : ∃ ns : List Nat, [D.int 16, .int (1 + (d1 : Int)), .int (1 + (d2 : Int)), .int 1, .int 2] = ns.map (fun k : Nat => D.int (k : Int)) ∧ ∀ k ∈ ns, 1 ≤ k ∧ k ≤ 16 := by
    refine ⟨[16, 1 + d1, 1 + d2, 1, 2], by simp, ?_⟩
    intro k hk
    simp only [List.mem_cons, List.not_mem_nil, or_false] at hk
    omega
  obtain ⟨ρ, S', e, y', e5, T, rfl, rfl⟩ := eachF_inv (f := fun x ρ S => evSs (phi tab n) l1__law_right (ρ.set 5 (some x)) S)
    (fun i ρ S' => ∃ y e5 T, ρ = [some (.ref q), some (gD ms ws), some (iD r), some (.bl y), some (iD (momL ms ws r 16)), e5] ∧ S' = S.set q o2 ++ T) (xs := ns.map fun k : Nat => D.int (k : Int))
    (fun i hi ρ S' hI => by
      obtain ⟨y, e5, T, rfl, rfl⟩ := hI
      rw [List.length_map] at hi
      rw [List.getElem_map]
      have hk := hall ns[i] (List.getElem_mem hi)
      obtain ⟨o', e⟩ := right_turn (n := n) (S := S.set q o2 ++ T) (by omega) h (.ref q) y hk.1 hk.2
      exact ⟨_, _, .inl e, !y, _, T ++ [o'], rfl, by rw [List.append_assoc]⟩) (ρ := [some (.ref q), some (gD ms ws), some (iD r), some (.bl y), some (iD (momL ms ws r 16)), none]) (S := S.set q o2) ⟨y, none, [], rfl, by simp⟩
  refine ⟨o2, T, ?_, hb2.mono (by omega)⟩
  have run : evSs (phi tab n) bf_law_right (startE 6 [.ref q, gD ms ws, iD r, .bl y]) S = .rt (.bl true) (S.set q o2 ++ T) := by
    refine (ss_step (ρ' := [some (.ref q), some (gD ms ws), some (iD r), some (.bl y), some (iD (momL ms ws r 16)), none]) (S' := S) (by simp [startE, e0])).trans ?_
    refine (ss_step (each_items (d := .lst (ns.map fun k : Nat => D.int (k : Int))) (S1 := S.set q o2) ?_ rfl e)).trans (by simp)
    rw [← hns]
    generalize momL ms ws r 16 = X at *
    simp [t1, t2, binI]
  rw [run]
  rfl
end
end Lk74
namespace Lk74
open PySem Mp
section
variable {n : Nat} {S : Store}
theorem own_end {S S3 : Store} {q : Nat} {o2 : O} {c : Int} (h : S3[0]? = some o2) (hb : BoxOk c o2) : put1 S q S3 = some (S.set q o2) := by
  unfold put1
  rw [h]
  dsimp only
  rw [hb.pure]
  rfl
/-! ### drawn rays -/
theorem drawn_ray_ok (hn : 3 ≤ n) {q : Nat} {o : O} {c : Int} (hS : S[q]? = some o) (hb : BoxOk c o) (hc : c ≤ 1000000) {m w : Nat} (m1 : 1 ≤ m) (m8 : m ≤ 8) (w1 : 1 ≤ w) (w2 : w ≤ 1000000000000) :
    ∃ (r : List Int) (o' : O), phi tab n "_law_drawn_ray" [.ref q, .int (m : Int), .int (w : Int)] [] [] S = .ok (iD r) (S.set q o') ∧ RayOk r ∧ r.length = m ∧ (∀ x ∈ r, x.natAbs < 2 ^ 60) ∧ BoxOk (c + 10) o' := by
  obtain ⟨n, rfl⟩ : ∃ m, n = m + 1 := ⟨n - 1, by omega⟩
  rw [phi_own1 tf_law_drawn_ray rfl (r := q) rfl rfl hS hb.pure]
  have li : line = 16777216 := rfl
  have rm := rng_of (show m ≤ line by rw [li]; omega)
  have mo : mulOk 2 (w : Int) = true := mulOk_small (by decide) (by omega)
  obtain ⟨ys, S1, e1, ⟨o1, rfl, hb1⟩, hl, hp⟩ := comp_draw1 (Φ := phi tab n) (ρ := [some (.ref 0), some (.int (m : Int)), some (.int (w : Int)), none, none]) (S := [o]) (fz := false) (vs := [4]) (t := .n 4) (it := .rng (.cons (.v 1) .nil)) (cond := .nil) (rest := .elt (.bin .Sub true (.call "_law_take" (.cons (.v 0) (.cons (.bin .Add true (.bin .Mult true (.k (.int 2)) (.v 2)) (.k (.int 1))) .nil)) [] .nil) (.v 2)))
    (xs := rngL 0 m) (fun i S' => ∃ o', S' = [o'] ∧ BoxOk (c + i) o') (fun y => ∃ i : Int, y = .int i ∧ i.natAbs < 2 ^ 60) (i_rng1 (x := (m : Int)) (by simp) rm) ⟨o, rfl, by simpa using hb⟩ (by rw [rngL_sz]; omega) (fun i hi S' hI => by
    obtain ⟨o', rfl, hb'⟩ := hI
    rw [rngL_sz] at hi
    rw [rngL_get (by rw [rngL_sz]; exact hi)]
    obtain ⟨d, o2, et, d0, d1, hb2⟩ := take_ok tTake (n := n) (by omega) (S := [o']) (r := 0) rfl hb' (by omega) (many := 2 * (w : Int) + 1) (by omega) (by omega)
    refine ⟨.int (d - w), [o2], ?_, ⟨o2, rfl, ?_⟩, _, rfl, by omega⟩
    · have et : phi tab n "_law_take" [.ref 0, .int (2 * (w : Int) + 1)] [] [] [o'] = .ok (.int d) [o2] := et
      simp [binI, mo, et]
    · have : c + (i : Int) + 1 = c + ((i + 1 : Nat) : Int) := by omega
      rw [← this]; exact hb2)
  rw [rngL_sz] at hl hb1
  obtain ⟨l, rfl, hlb⟩ := ints_form hp
  rw [List.length_map] at hl
  obtain ⟨d1, o2, t1, a0, a1, hb2⟩ := take_ok tTake (n := n) (by omega) (S := [o1, .lst (l.map .int)]) (r := 0) rfl hb1 (by omega) (many := (w : Int)) (by omega) (by omega)
  obtain ⟨d2, o3, t2, b0, b1, hb3⟩ := take_ok tTake (n := n) (by omega) (S := [o2, .lst (l.map .int)]) (r := 0) rfl hb2 (by omega) (many := (m : Int)) (by omega) (by omega)
  have t1 : phi tab n "_law_take" [.ref 0, .int (w : Int)] [] [] [o1, .lst (l.map .int)] = .ok (.int d1) [o2, .lst (l.map .int)] := t1
  have t2 : phi tab n "_law_take" [.ref 0, .int (m : Int)] [] [] [o2, .lst (l.map .int)] = .ok (.int d2) [o3, .lst (l.map .int)] := t2
  obtain ⟨d2, rfl⟩ := Int.eq_ofNat_of_zero_le b0
  have hd2 : d2 < l.length := by omega
  have st : setop (.ref 1) (.int (d2 : Int)) (.int (1 + d1)) [o3, .lst (l.map .int)] = some [o3, .lst ((l.set d2 (1 + d1)).map .int)] := by
    rw [set_lstR (r := 1) (xs := l.map .int) rfl (j := d2) (ixN_nat (by rw [List.length_map]; exact hd2))]
    simp [List.map_set]
  have hb4 : ∀ x ∈ l.set d2 (1 + d1), x.natAbs < 2 ^ 60 := fun x hx => by
    rcases List.mem_or_eq_of_mem_set hx with h | rfl
    · exact hlb x h
    · omega
  have hnz : ∃ x ∈ l.set d2 (1 + d1), x ≠ 0 := ⟨1 + d1, List.mem_set hd2 _, by omega⟩
  have er := lray_ok (T := tab) (n := n) tf_law_ray tf_law_gcd (by omega) (S := [o3, .lst ((l.set d2 (1 + d1)).map .int)]) (q := 1) (l := l.set d2 (1 + d1)) rfl (by rw [List.length_set]; omega) hb4 hnz
  refine ⟨rayL (l.set d2 (1 + d1)), o3, ?_, rayL_ok (by rw [List.length_set]; omega) (by rw [List.length_set]; omega) hnz, by rw [rayL_len, List.length_set, hl], rayL_bd hb4 hnz, hb3.mono (by omega)⟩
  have e1 : evE (phi tab n) c1__law_drawn_ray [some (.ref 0), some (.int (m : Int)), some (.int (w : Int)), none, none] [o] = .ok (.ref 1) [o1, .lst (l.map .int)] := e1
  have run : evSs (phi tab n) bf_law_drawn_ray (startE 5 [.ref 0, .int (m : Int), .int (w : Int)]) [o] = .rt (iD (rayL (l.set d2 (1 + d1)))) [o3, .lst ((l.set d2 (1 + d1)).map .int)] := by
    generalize l.set d2 (1 + d1) = L at st er ⊢
    simp [bf_law_drawn_ray, startE, e1, t1, binI, t2, st, er]
  show backR true 1 (put1 S q) (fret (evSs (phi tab n) bf_law_drawn_ray (startE 5 [.ref 0, .int (m : Int), .int (w : Int)]) [o])) = _
  rw [run, fret_rt]
  simp only [backR, own_end (S := S) (q := q) (S3 := [o3, .lst ((l.set d2 (1 + d1)).map .int)]) (o2 := o3) rfl hb3]
  exact back_pure _ _ _ (iD_pure _) _
end
end Lk74
namespace Lk74
open PySem Mp
/-! ### drawn graphs: the matrix in balance by masses -/
def okF (ms : List Int) (f : Nat → Nat → Int) : Prop := (∀ i j, (f i j).natAbs < 2 ^ 30) ∧ ∀ i j, ms.getD i 0 * f i j = ms.getD j 0 * f j i
theorem okF_upd {ms : List Int} {f : Nat → Nat → Int} (h : okF ms f) {i j : Nat} {x y : Int} (hx : x.natAbs < 2 ^ 30) (hy : y.natAbs < 2 ^ 30) (hxy : ms.getD i 0 * x = ms.getD j 0 * y) : okF ms (updF (updF f i j x) j i y) := by
  obtain ⟨h1, h2⟩ := h
  refine ⟨fun a b => ?_, fun a b => ?_⟩
  · unfold updF
    split
    · exact hy
    · split
      · exact hx
      · exact h1 a b
  · by_cases e1 : a = j ∧ b = i
    · obtain ⟨rfl, rfl⟩ := e1
      by_cases e2 : a = b
      · subst e2; rfl
      · have q1 : updF (updF f b a x) a b y a b = y := by unfold updF; rw [if_pos ⟨rfl, rfl⟩]
        have q2 : updF (updF f b a x) a b y b a = x := by unfold updF; rw [if_neg (fun z => e2 z.1.symm), if_pos ⟨rfl, rfl⟩]
        rw [q1, q2]
        exact hxy.symm
    · by_cases e2 : a = i ∧ b = j
      · obtain ⟨rfl, rfl⟩ := e2
        have e3 : ¬ (a = b) := fun z => e1 ⟨z, z.symm⟩
        have q1 : updF (updF f a b x) b a y a b = x := by unfold updF; rw [if_neg e1, if_pos ⟨rfl, rfl⟩]
        have q2 : updF (updF f a b x) b a y b a = y := by unfold updF; rw [if_pos ⟨rfl, rfl⟩]
        rw [q1, q2]
        exact hxy
      · have q1 : updF (updF f i j x) j i y a b = f a b := by unfold updF; rw [if_neg e1, if_neg e2]
        have q2 : updF (updF f i j x) j i y b a = f b a := by unfold updF; rw [if_neg (fun z => e2 ⟨z.2, z.1⟩), if_neg (fun z => e1 ⟨z.2, z.1⟩)]
        rw [q1, q2]
        exact h2 a b
section
variable {n : Nat} {S : Store}
theorem mass_at {d : Int} (h0 : 0 ≤ d) (h1 : d < 6) : ∃ v : Int, L2.atI [D.int 1, D.int 1, D.int 1, D.int 2, D.int 3, D.int 4] d = some (.int v) ∧ 1 ≤ v ∧ v ≤ 4 := by
  have : d = 0 ∨ d = 1 ∨ d = 2 ∨ d = 3 ∨ d = 4 ∨ d = 5 := by omega
  rcases this with rfl | rfl | rfl | rfl | rfl | rfl
  · exact ⟨1, rfl, by omega, by omega⟩
  · exact ⟨1, rfl, by omega, by omega⟩
  · exact ⟨1, rfl, by omega, by omega⟩
  · exact ⟨2, rfl, by omega, by omega⟩
  · exact ⟨3, rfl, by omega, by omega⟩
  · exact ⟨4, rfl, by omega, by omega⟩
theorem masses_draw (hn : 1 ≤ n) {o : O} {c : Int} (hb : BoxOk c o) (hc : c ≤ 1000000) {m : Nat} (h8 : m ≤ 8) (w : D) :
    ∃ (ms : List Int) (o' : O), evE (phi tab n) c2__law_graph [some (.ref 0), some (.int (m : Int)), some w, none, none, none, none, none, none, none, none] [o] = .ok (.lst (ms.map .int)) [o'] ∧ ms.length = m ∧ (∀ x ∈ ms, 1 ≤ x ∧ x ≤ 4) ∧ BoxOk (c + 8) o' := by
  have li : line = 16777216 := rfl
  have rm := rng_of (show m ≤ line by rw [li]; omega)
  obtain ⟨ys, S1, e1, ⟨o1, rfl, hb1⟩, hl, hp⟩ := comp_draw1 (Φ := phi tab n) (ρ := [some (.ref 0), some (.int (m : Int)), some w, none, none, none, none, none, none, none, none]) (S := [o]) (fz := true) (vs := [5]) (t := .n 5) (it := .rng (.cons (.v 1) .nil)) (cond := .nil) (rest := .elt (.ix (.lst true (.cons (.k (.int 1)) (.cons (.k (.int 1)) (.cons (.k (.int 1)) (.cons (.k (.int 2)) (.cons (.k (.int 3)) (.cons (.k (.int 4)) .nil))))))) (.call "_law_take" (.cons (.v 0) (.cons (.k (.int 6)) .nil)) [] .nil)))
    (xs := rngL 0 m) (fun i S' => ∃ o', S' = [o'] ∧ BoxOk (c + i) o') (fun y => ∃ i : Int, y = .int i ∧ 1 ≤ i ∧ i ≤ 4) (i_rng1 (x := (m : Int)) (by simp) rm) ⟨o, rfl, by simpa using hb⟩ (by rw [rngL_sz]; omega) (fun i hi S' hI => by
    obtain ⟨o', rfl, hb'⟩ := hI
    rw [rngL_sz] at hi
    rw [rngL_get (by rw [rngL_sz]; exact hi)]
    obtain ⟨d, o2, et, d0, d1, hb2⟩ := take_ok tTake (n := n) hn (S := [o']) (r := 0) rfl hb' (by omega) (many := 6) (by omega) (by omega)
    obtain ⟨v, hv, v1, v4⟩ := mass_at d0 d1
    refine ⟨.int v, [o2], ?_, ⟨o2, rfl, ?_⟩, _, rfl, v1, v4⟩
    · have et : phi tab n "_law_take" [.ref 0, .int 6] [] [] [o'] = .ok (.int d) [o2] := et
      simp [et, hv]
    · have : c + (i : Int) + 1 = c + ((i + 1 : Nat) : Int) := by omega
      rw [← this]; exact hb2)
  rw [rngL_sz] at hl hb1
  obtain ⟨l, rfl, hlb⟩ := ints_form hp
  rw [List.length_map] at hl
  exact ⟨l, o1, e1, hl, hlb, hb1.mono (by omega)⟩
theorem parts {a b : Int} (ha : 1 ≤ a ∧ a ≤ 4) (hb : 1 ≤ b ∧ b ≤ 4) :
    let g : Int := ((Nat.gcd a.natAbs b.natAbs : Nat) : Int)
    0 < g ∧ g ≤ 4 ∧ 0 ≤ a.fdiv g ∧ a.fdiv g ≤ 4 ∧ 0 ≤ b.fdiv g ∧ b.fdiv g ≤ 4 ∧ a = g * a.fdiv g ∧ b = g * b.fdiv g := by
  have ca : a = 1 ∨ a = 2 ∨ a = 3 ∨ a = 4 := by omega
  have cb : b = 1 ∨ b = 2 ∨ b = 3 ∨ b = 4 := by omega
  rcases ca with rfl | rfl | rfl | rfl <;> rcases cb with rfl | rfl | rfl | rfl <;> decide
/-- what a turn writes -/
theorem cell_turn (hn : 2 ≤ n) {m w : Nat} (h8 : m ≤ 8) (w2 : w ≤ 99999) {ms : List Int} (hl : ms.length = m) (hm : ∀ x ∈ ms, 1 ≤ x ∧ x ≤ 4) {i j : Nat} (hi : i < m) (hj : j < m) {b : O} {c : Int} (hb : BoxOk c b) (hc : c ≤ 2000000) {f : Nat → Nat → Int} (hf : okF ms f) (e8 e9 : Option D) :
    ∃ e8' e9' b' f', evSs (phi tab n) l1__law_graph [some (.ref 0), some (.int (m : Int)), some (.int (w : Int)), some (.lst (ms.map .int)), some (.ref (1 + m)), none, some (.int (i : Int)), some (.int (j : Int)), e8, e9, none] (stS b m f) = .nx [some (.ref 0), some (.int (m : Int)), some (.int (w : Int)), some (.lst (ms.map .int)), some (.ref (1 + m)), none, some (.int (i : Int)), some (.int (j : Int)), e8', e9', none] (stS b' m f') ∧ BoxOk (c + 2) b' ∧ okF ms f' := by
  obtain ⟨k, b1, ek, k0, k1, hb1⟩ := take_ok tTake (n := n) (by omega) (stS_box b m f) hb (by omega) (many := 3) (by omega) (by omega)
  rw [stS_setbox] at ek
  have mo : mulOk 2 (w : Int) = true := mulOk_small (by decide) (by omega)
  obtain ⟨x, b2, ex, hx, hb2⟩ : ∃ (x : Int) (b2 : O), evE (phi tab n) (.ife (.cmp .Gt (.call "_law_take" (.cons (.v 0) (.cons (.k (.int 3)) .nil)) [] .nil) (.k (.int 0))) (.bin .Sub true (.call "_law_take" (.cons (.v 0) (.cons (.bin .Add true (.bin .Mult true (.k (.int 2)) (.v 2)) (.k (.int 1))) .nil)) [] .nil) (.v 2)) (.k (.int 0)))
      [some (.ref 0), some (.int (m : Int)), some (.int (w : Int)), some (.lst (ms.map .int)), some (.ref (1 + m)), none, some (.int (i : Int)), some (.int (j : Int)), e8, e9, none] (stS b m f) = .ok (.int x) (stS b2 m f) ∧ x.natAbs ≤ 99999 ∧ BoxOk (c + 2) b2 := by
    by_cases z : 0 < k
    · obtain ⟨d, b2, ed, d0, d1, hb2⟩ := take_ok tTake (n := n) (by omega) (stS_box b1 m f) hb1 (by omega) (many := 2 * (w : Int) + 1) (by omega) (by omega)
      rw [stS_setbox] at ed
      exact ⟨d - w, b2, by simp [ek, cmpI, z, binI, mo, ed], by omega, hb2.mono (by omega)⟩
    · exact ⟨0, b1, by simp [ek, cmpI, z], by omega, hb1.mono (by omega)⟩
  have gi := atI_map D.int ms 0 (i := i) (by omega)
  have gj := atI_map D.int ms 0 (i := j) (by omega)
  have mi := hm (ms.getD i 0) (by simp [List.getD_eq_getElem?_getD, show i < ms.length by omega])
  have mj := hm (ms.getD j 0) (by simp [List.getD_eq_getElem?_getD, show j < ms.length by omega])
  obtain ⟨g0, g4, a0, a4, c0, c4, sa, sc⟩ := parts mi mj
  have hg := gcd_ok (T := tab) (n := n) (S := stS b2 m f) tf_law_gcd (by omega) (a := ms.getD i 0) (b := ms.getD j 0) (bd_mono (a := 3) (by show _ < 8; omega) (by omega))
  have dv1 := divOk_small (i := ms.getD i 0) g0 (by omega)
  have dv2 := divOk_small (i := ms.getD j 0) g0 (by omega)
  have xy : ms.getD i 0 * (x * (ms.getD j 0).fdiv ((Nat.gcd (ms.getD i 0).natAbs (ms.getD j 0).natAbs : Nat) : Int)) = ms.getD j 0 * (x * (ms.getD i 0).fdiv ((Nat.gcd (ms.getD i 0).natAbs (ms.getD j 0).natAbs : Nat) : Int)) := by
    generalize ((Nat.gcd (ms.getD i 0).natAbs (ms.getD j 0).natAbs : Nat) : Int) = g at *
    generalize (ms.getD i 0).fdiv g = A at *
    generalize (ms.getD j 0).fdiv g = B at *
    rw [sa, sc]
    simp only [Int.mul_comm, Int.mul_left_comm]
  generalize hga : ((Nat.gcd (ms.getD i 0).natAbs (ms.getD j 0).natAbs : Nat) : Int) = g at *
  have hA : (x * (ms.getD i 0).fdiv g).natAbs < 2 ^ 30 := mul_bd (a := 20) (b := 10) (by omega) (by omega)
  have hB : (x * (ms.getD j 0).fdiv g).natAbs < 2 ^ 30 := mul_bd (a := 20) (b := 10) (by omega) (by omega)
  have q1 : mulOk x ((ms.getD i 0).fdiv g) = true := mulOk_small (by omega) (by omega)
  have q2 : mulOk x ((ms.getD j 0).fdiv g) = true := mulOk_small (by omega) (by omega)
  refine ⟨some (.int x), some (.int g), b2, _, ?_, hb2, okF_upd hf hB hA xy⟩
  generalize ms.getD i 0 = A at *
  generalize ms.getD j 0 = B at *
  have s1 := seq_ix (seq_ref (stS_end b2 m f)) (i : Int)
  rw [at_refs hi] at s1
  have s2 := set_row (stS_row b2 f hi) (j := j) (by simp; omega) (.int (x * B.fdiv g))
  rw [stS_set b2 f hi hj] at s2
  have s3 := seq_ix (seq_ref (stS_end b2 m (updF f i j (x * B.fdiv g)))) (j : Int)
  rw [at_refs hj] at s3
  have s4 := set_row (stS_row b2 (updF f i j (x * B.fdiv g)) hj) (j := i) (by simp; omega) (.int (x * A.fdiv g))
  rw [stS_set b2 (updF f i j (x * B.fdiv g)) hj hi] at s4
  refine (ss_step (ρ' := [some (.ref 0), some (.int (m : Int)), some (.int (w : Int)), some (.lst (ms.map .int)), some (.ref (1 + m)), none, some (.int (i : Int)), some (.int (j : Int)), some (.int x), e9, none]) (S' := stS b2 m f) (by rw [s_asg, ex, stm_ok, t_n]; rfl)).trans ?_
  refine (ss_step (ρ' := [some (.ref 0), some (.int (m : Int)), some (.int (w : Int)), some (.lst (ms.map .int)), some (.ref (1 + m)), none, some (.int (i : Int)), some (.int (j : Int)), some (.int x), some (.int g), none]) (S' := stS b2 m f) (by simp [gi, gj, hg])).trans ?_
  simp [gi, gj, binI, dv1, dv2, q1, q2, s1, s2, s3, s4]
end
end Lk74
namespace Lk74
open PySem Mp
section
variable {n : Nat} {S : Store}
theorem mk_gr {m : Nat} (h1 : 1 ≤ m) (h8 : m ≤ 8) {ms : List Int} (hl : ms.length = m) (hm : ∀ x ∈ ms, 1 ≤ x ∧ x ≤ 4) {f : Nat → Nat → Int} (hf : okF ms f) : GrOk ms (mk m f) where
  pos := by omega
  most := by omega
  mp := fun x hx => by have := hm x hx; omega
  len := by simp [mk, hl]
  row := fun r hr => by
    obtain ⟨i, _, rfl⟩ := List.mem_map.mp hr
    simp [hl]
  bal := by
    unfold balB
    rw [List.all_eq_true]
    intro i hi
    rw [List.all_eq_true]
    intro j hj
    have hi := List.mem_range.mp hi
    have hj := List.mem_range.mp hj
    rw [mk_ent (by omega) (by omega), mk_ent (by omega) (by omega)]
    exact decide_eq_true (hf.2 i j)
theorem mk_bd {m : Nat} {ms : List Int} {f : Nat → Nat → Int} (hf : okF ms f) : ∀ w ∈ mk m f, ∀ x ∈ w, x.natAbs < 2 ^ 30 := by
  intro w hw x hx
  obtain ⟨i, _, rfl⟩ := List.mem_map.mp hw
  obtain ⟨j, _, rfl⟩ := List.mem_map.mp hx
  exact hf.1 i j
theorem row_loop (hn : 2 ≤ n) {m w : Nat} (h8 : m ≤ 8) (w2 : w ≤ 99999) {ms : List Int} (hl : ms.length = m) (hm : ∀ x ∈ ms, 1 ≤ x ∧ x ≤ 4) (i : Nat) (hi : i < m) (b : O) (c : Int) (f : Nat → Nat → Int) (e7 e8 e9 : Option D) (hb : BoxOk c b) (hc : c ≤ 1000000) (hf : okF ms f) :
    ∃ e7' e8' e9' b' f', evSs (phi tab n) l2__law_graph [some (.ref 0), some (.int (m : Int)), some (.int (w : Int)), some (.lst (ms.map .int)), some (.ref (1 + m)), none, some (.int (i : Int)), e7, e8, e9, none] (stS b m f) = .nx [some (.ref 0), some (.int (m : Int)), some (.int (w : Int)), some (.lst (ms.map .int)), some (.ref (1 + m)), none, some (.int (i : Int)), e7', e8', e9', none] (stS b' m f') ∧ BoxOk (c + 20) b' ∧ okF ms f' := by
  obtain ⟨ρ', S', e, e7', e8', e9', b', f', rfl, rfl, hb', hf'⟩ := eachF_inv (f := fun x ρ S => evSs (phi tab n) l1__law_graph (ρ.set 7 (some x)) S)
    (fun j ρ S' => ∃ e7' e8' e9' b' f', ρ = [some (.ref 0), some (.int (m : Int)), some (.int (w : Int)), some (.lst (ms.map .int)), some (.ref (1 + m)), none, some (.int (i : Int)), e7', e8', e9', none] ∧ S' = stS b' m f' ∧ BoxOk (c + 2 * j) b' ∧ okF ms f')
    (xs := rngL 0 (i + 1)) (fun j hj ρ S' hI => by
      obtain ⟨e7', e8', e9', b', f', rfl, rfl, hb', hf'⟩ := hI
      rw [rngL_sz] at hj
      rw [rngL_get (by rw [rngL_sz]; exact hj)]
      obtain ⟨a, b2, bx, fx, e, hb2, hf2⟩ := cell_turn (n := n) hn h8 w2 hl hm hi (j := j) (by omega) hb' (by omega) hf' e8' e9'
      simp only [Int.zero_add]
      exact ⟨_, _, .inl e, _, _, _, _, _, rfl, rfl, hb2.mono (by omega), hf2⟩)
    (ρ := [some (.ref 0), some (.int (m : Int)), some (.int (w : Int)), some (.lst (ms.map .int)), some (.ref (1 + m)), none, some (.int (i : Int)), e7, e8, e9, none]) (S := stS b m f) ⟨e7, e8, e9, b, f, rfl, rfl, by simpa using hb, hf⟩
  rw [rngL_sz] at hb'
  refine ⟨e7', e8', e9', b', f', ?_, hb'.mono (by omega), hf'⟩
  have ri := rng_of (show i + 1 ≤ line from Nat.le_trans (show i + 1 ≤ 8 by omega) (by decide))
  refine (ss_step (each_rng (x := ((i + 1 : Nat) : Int)) ?_ ri e)).trans (by simp)
  simp [binI]
theorem graph_draw (hn : 3 ≤ n) {q : Nat} {o : O} {c : Int} (hS : S[q]? = some o) (hb : BoxOk c o) (hc : c ≤ 100000) {m w : Nat} (h1 : 1 ≤ m) (h8 : m ≤ 8) (w2 : w ≤ 99999) :
    ∃ ms ws o', phi tab n "_law_graph" [.ref q, .int (m : Int), .int (w : Int)] [] [] S = .ok (gD ms ws) (S.set q o') ∧ GrOk ms ws ∧ ms.length = m ∧ (∀ x ∈ ms, 1 ≤ x ∧ x ≤ 4) ∧ (∀ w ∈ ws, ∀ x ∈ w, x.natAbs < 2 ^ 30) ∧ BoxOk (c + 300) o' := by
  obtain ⟨n, rfl⟩ : ∃ m, n = m + 1 := ⟨n - 1, by omega⟩
  rw [phi_own1 tf_law_graph rfl (r := q) rfl rfl hS hb.pure]
  have rm := rng_of (show m ≤ line from Nat.le_trans h8 (by decide))
  obtain ⟨ms, o1, em, hl, hm, hb1⟩ := masses_draw (n := n) (by omega) hb (by omega) h8 (.int (w : Int))
  have ez : evE (phi tab n) c3__law_graph [some (.ref 0), some (.int (m : Int)), some (.int (w : Int)), none, none, none, none, none, none, none, none] [o1] = .ok (.ref (1 + m)) (stS o1 m fun _ _ => 0) := zero_rows (v := 5) h8 o1 (by simp) (fun x S' => by simp)
  obtain ⟨ρ', S', e, e6, e7, e8, e9, b', f', rfl, rfl, hb', hf'⟩ := eachF_inv (f := fun x ρ S => evSs (phi tab n) l2__law_graph (ρ.set 6 (some x)) S)
    (fun i ρ S' => ∃ e6 e7 e8 e9 b' f', ρ = [some (.ref 0), some (.int (m : Int)), some (.int (w : Int)), some (.lst (ms.map .int)), some (.ref (1 + m)), none, e6, e7, e8, e9, none] ∧ S' = stS b' m f' ∧ BoxOk (c + 8 + 20 * i) b' ∧ okF ms f')
    (xs := rngL 0 m) (fun i hi ρ S' hI => by
      obtain ⟨e6, e7, e8, e9, b', f', rfl, rfl, hb', hf'⟩ := hI
      rw [rngL_sz] at hi
      rw [rngL_get (by rw [rngL_sz]; exact hi)]
      obtain ⟨a7, a8, a9, b2, f2, e, hb2, hf2⟩ := row_loop (n := n) (by omega) h8 w2 hl hm i hi b' _ f' e7 e8 e9 hb' (by omega) hf'
      simp only [Int.zero_add]
      exact ⟨_, _, .inl e, _, _, _, _, _, _, rfl, rfl, hb2.mono (by omega), hf2⟩)
    (ρ := [some (.ref 0), some (.int (m : Int)), some (.int (w : Int)), some (.lst (ms.map .int)), some (.ref (1 + m)), none, none, none, none, none, none]) (S := stS o1 m fun _ _ => 0) ⟨none, none, none, none, o1, _, rfl, rfl, by simpa using hb1, fun _ _ => by show 0 < _; exact Nat.two_pow_pos _, fun _ _ => by simp⟩
  rw [rngL_sz] at hb'
  refine ⟨ms, mk m f', b', ?_, mk_gr h1 h8 hl hm hf', hl, hm, mk_bd hf', hb'.mono (by omega)⟩
  obtain ⟨src, q1, q2⟩ := seq_src (seq_ref (stS_end b' m f'))
  have c1 : evE (phi tab n) c1__law_graph [some (.ref 0), some (.int (m : Int)), some (.int (w : Int)), some (.lst (ms.map .int)), some (.ref (1 + m)), none, e6, e7, e8, e9, none] (stS b' m f') = .ok (.lst ((mk m f').map iD)) (stS b' m f') := by
    have er : (mk m f').map iD = (List.range m).map fun i => iD ((List.range m).map fun j => f' i j) := by simp [mk]
    rw [er]
    refine comp_list (F := fun i => .ref (1 + i)) (l := List.range m) (src := src) ?_ q2 (by simp; omega) fun i hi => ?_
    · rw [i_e, e_v]
      show (match srcOf _ (.ref (1 + m)) with | some s => R.ok s _ | none => .bad) = _
      rw [q1]
    · have sq := seq_ref (stS_row b' f' (List.mem_range.mp hi))
      simp [blt, blt1, sq]
  have run : evSs (phi tab n) bf_law_graph (startE 11 [.ref 0, .int (m : Int), .int (w : Int)]) [o] = .rt (gD ms (mk m f')) (stS b' m f') := by
    refine (ss_step (ρ' := [some (.ref 0), some (.int (m : Int)), some (.int (w : Int)), some (.lst (ms.map .int)), some (.ref (1 + m)), none, none, none, none, none, none]) (S' := stS o1 m fun _ _ => 0) ?_).trans ?_
    · simp [startE, em, ez]
    · refine (ss_step (each_rng (x := (m : Int)) (by simp) rm e)).trans ?_
      simp [c1]
  show backR true 1 (put1 S q) (fret (evSs (phi tab n) bf_law_graph (startE 11 [.ref 0, .int (m : Int), .int (w : Int)]) [o])) = _
  rw [run, fret_rt]
  simp only [backR, own_end (S := S) (q := q) (stS_box b' m f') hb']
  exact back_pure _ _ _ (gD_pure _ _) _
end
end Lk74
namespace Lk74
open PySem Mp
section
variable {n : Nat} {S : Store}
def chF (ws : List (List Int)) (f x : Int) (i j : Nat) : Int := f * ent ws i j + if (i : Int) = (j : Int) then x else 0
theorem changed_ok (hn : 1 ≤ n) {ms : List Int} {ws : List (List Int)} (g : GrOk ms ws) (bw : ∀ w ∈ ws, ∀ x ∈ w, x.natAbs < 2 ^ 30) {f x : Int} (hf : f.natAbs < 2 ^ 64) :
    phi tab n "_law_changed" [gD ms ws, .int f, .int x] [] [] S = .ok (gD ms (mk ms.length (chF ws f x))) S := by
  obtain ⟨n, rfl⟩ : ∃ m, n = m + 1 := ⟨n - 1, by omega⟩
  rw [phi_whole tf_law_changed rfl]
  have h8 := g.most
  have rm := rng_of (show ms.length ≤ line from Nat.le_trans h8 (by decide))
  have bm := blt_len (S := S) (d := iD ms) (k := ms.length) (by show some _ = _; rw [List.length_map])
  have inner : ∀ i, i < ms.length → evE (phi tab n) c1__law_changed [some (gD ms ws), some (.int f), some (.int x), some (.int (ms.length : Int)), none, some (.int (i : Int))] S = .ok (.lst ((List.range ms.length).map fun j => .int (chF ws f x i j))) S := fun i hi => by
    refine comp_rng (m := ms.length) (src := .items (rngL 0 ms.length)) (i_rng1 (x := (ms.length : Int)) (by simp) rm) rfl (by omega) fun j hj => ?_
    have hr : ws.getD i [] ∈ ws := by
      rw [List.getD_eq_getElem?_getD, List.getElem?_eq_getElem (by rw [g.len]; exact hi)]
      exact List.getElem_mem _
    have e1 := atI_map iD ws [] (i := i) (by rw [g.len]; exact hi)
    have e2 := atI_map D.int (ws.getD i []) 0 (i := j) (by rw [g.row _ hr]; exact hj)
    have q := mulOk_of (i := f) (j := ent ws i j) (a := 64) (b := 30) hf (getD_bd (bw _ hr) j) (by omega)
    unfold chF
    have ee : (ws.getD i []).getD j 0 = ent ws i j := rfl
    rw [ee] at e2
    generalize ent ws i j = v at *
    generalize ws.getD i [] = r at *
    by_cases z : (i : Int) = (j : Int)
    · have z' : i = j := by omega
      subst z'
      simp [at1, e1, e2, binI, q, cmpI]
    · have z' : ¬ i = j := by omega
      simp [at1, e1, e2, binI, q, cmpI, z, z']
  have outer : evE (phi tab n) c2__law_changed [some (gD ms ws), some (.int f), some (.int x), some (.int (ms.length : Int)), none, none] S = .ok (.lst ((mk ms.length (chF ws f x)).map iD)) S := by
    have er : (mk ms.length (chF ws f x)).map iD = (List.range ms.length).map fun i => iD ((List.range ms.length).map fun j => chF ws f x i j) := by simp [mk]
    rw [er]
    refine comp_rng (m := ms.length) (src := .items (rngL 0 ms.length)) (i_rng1 (x := (ms.length : Int)) (by simp) rm) rfl (by omega) fun i hi => ?_
    have := inner i hi
    simp [this, blt, blt1]
  simp [bf_law_changed, startE, at0, bm, outer]
theorem changed_gr {ms : List Int} {ws : List (List Int)} (g : GrOk ms ws) (f x : Int) : GrOk ms (mk ms.length (chF ws f x)) where
  pos := g.pos
  most := g.most
  mp := g.mp
  len := by simp [mk]
  row := fun r hr => by
    obtain ⟨i, _, rfl⟩ := List.mem_map.mp hr
    simp
  bal := by
    unfold balB
    rw [List.all_eq_true]
    intro i hi
    rw [List.all_eq_true]
    intro j hj
    have hi := List.mem_range.mp hi
    have hj := List.mem_range.mp hj
    rw [mk_ent (by omega) (by omega), mk_ent (by omega) (by omega)]
    have b := bal_all g.bal hi (show j < ms.length by omega)
    refine decide_eq_true ?_
    unfold chF
    rw [if_neg (by omega), if_neg (by omega), Int.add_zero, Int.add_zero, Int.mul_left_comm, b, Int.mul_left_comm]
theorem changed_bd {ms : List Int} {ws : List (List Int)} (bw : ∀ w ∈ ws, ∀ x ∈ w, x.natAbs < 2 ^ 30) {f x : Int} (hf : f.natAbs < 2 ^ 64) (hx : x.natAbs < 2 ^ 64) : ∀ w ∈ mk ms.length (chF ws f x), ∀ y ∈ w, y.natAbs < 2 ^ 200 := by
  intro w hw y hy
  obtain ⟨i, _, rfl⟩ := List.mem_map.mp hw
  obtain ⟨j, _, rfl⟩ := List.mem_map.mp hy
  have he : (ent ws i j).natAbs < 2 ^ 30 := by
    unfold ent
    by_cases z : i < ws.length
    · refine getD_bd (bw _ ?_) j
      rw [List.getD_eq_getElem?_getD, List.getElem?_eq_getElem z]
      exact List.getElem_mem _
    · have e : ws.getD i [] = [] := by rw [List.getD_eq_getElem?_getD, List.getElem?_eq_none (by omega)]; rfl
      rw [e]
      show (0 : Nat) < _
      exact Nat.two_pow_pos _
  have h1 := mul_bd hf he
  refine bd_mono (a := 95) ?_ (by omega)
  show (f * ent ws i j + _).natAbs < _
  have e95 : (2 : Nat) ^ 95 = 2 ^ (64 + 30) + 2 ^ (64 + 30) := by rw [show (95 : Nat) = 64 + 30 + 1 from rfl, Nat.pow_succ]
  have h2 : (2 : Nat) ^ 64 ≤ 2 ^ (64 + 30) := Nat.pow_le_pow_right (by omega) (by omega)
  rw [e95]
  split <;> omega
end
end Lk74
namespace Lk74
open PySem Mp
section
variable {n : Nat} {S : Store}
structure GB (ms : List Int) (ws : List (List Int)) : Prop where
  g : GrOk ms ws
  bm : ∀ x ∈ ms, x.natAbs < 2 ^ 200
  bw : ∀ w ∈ ws, ∀ x ∈ w, x.natAbs < 2 ^ 200
theorem gb_of {ms : List Int} {ws : List (List Int)} (g : GrOk ms ws) (hm : ∀ x ∈ ms, 1 ≤ x ∧ x ≤ 4) (hw : ∀ w ∈ ws, ∀ x ∈ w, x.natAbs < 2 ^ 30) : GB ms ws :=
  ⟨g, fun x hx => bd_mono (a := 3) (by have := hm x hx; show _ < 8; omega) (by omega), fun w hw' x hx => bd_mono (hw w hw' x hx) (by omega)⟩
theorem some_graph_ok (hn : 5 ≤ n) {q : Nat} {o : O} {c : Int} (hS : S[q]? = some o) (hb : BoxOk c o) (hc : c ≤ 10000) :
    ∃ ms ws o', phi tab n "_law_some_graph" [.ref q] [] [] S = .ok (gD ms ws) (S.set q o') ∧ GB ms ws ∧ BoxOk (c + 700) o' := by
  obtain ⟨n, rfl⟩ : ∃ m, n = m + 1 := ⟨n - 1, by omega⟩
  rw [phi_own1 tf_law_some_graph rfl (r := q) rfl rfl hS hb.pure]
  suffices h : ∃ ms ws o', evSs (phi tab n) bf_law_some_graph (startE 3 [.ref 0]) [o] = .rt (gD ms ws) [o'] ∧ GB ms ws ∧ BoxOk (c + 700) o' by
    obtain ⟨ms, ws, o', run, hg, hb'⟩ := h
    refine ⟨ms, ws, o', ?_, hg, hb'⟩
    show backR true 1 (put1 S q) (fret (evSs (phi tab n) bf_law_some_graph (startE 3 [.ref 0]) [o])) = _
    rw [run, fret_rt]
    simp only [backR, own_end (S := S) (q := q) (S3 := [o']) rfl hb']
    exact back_pure _ _ _ (gD_pure _ _) _
  obtain ⟨k, o1, ek, k0, k1, hb1⟩ := take_ok tTake (n := n) (by omega) (S := [o]) (r := 0) rfl hb (by omega) (many := 8) (by omega) (by omega)
  have ek : phi tab n "_law_take" [.ref 0, .int 8] [] [] [o] = .ok (.int k) [o1] := ek
  obtain ⟨d, o2, ed, d0, d1, hb2⟩ := take_ok tTake (n := n) (by omega) (S := [o1]) (r := 0) rfl hb1 (by omega) (many := 4) (by omega) (by omega)
  have ed : phi tab n "_law_take" [.ref 0, .int 4] [] [] [o1] = .ok (.int d) [o2] := ed
  obtain ⟨d, rfl⟩ := Int.eq_ofNat_of_zero_le d0
  by_cases z0 : k = 0
  · obtain ⟨t, o3, et, t0, t1, hb3⟩ := take_ok tTake (n := n) (by omega) (S := [o2]) (r := 0) rfl hb2 (by omega) (many := 2) (by omega) (by omega)
    have et : phi tab n "_law_take" [.ref 0, .int 2] [] [] [o2] = .ok (.int t) [o3] := et
    by_cases z : t = 0
    · obtain ⟨ms, ws, o4, eg, hg, _, hm, hwb, hb4⟩ := graph_draw (n := n) (by omega) (S := [o3]) (q := 0) rfl hb3 (by omega) (m := 5 + d) (w := 99999) (by omega) (by omega) (by omega)
      have eg : phi tab n "_law_graph" [.ref 0, .int (5 + (d : Int)), .int 99999] [] [] [o3] = .ok (gD ms ws) [o4] := by
        have : ((5 + d : Nat) : Int) = 5 + (d : Int) := by omega
        rw [← this]; exact eg
      refine ⟨ms, ws, o4, ?_, gb_of hg hm hwb, hb4.mono (by omega)⟩
      simp [bf_law_some_graph, startE, ek, cmpI, z0, z, ed, binI, et, eg]
    · obtain ⟨ms, ws, o4, eg, hg, _, hm, hwb, hb4⟩ := graph_draw (n := n) (by omega) (S := [o3]) (q := 0) rfl hb3 (by omega) (m := 5 + d) (w := 9) (by omega) (by omega) (by omega)
      have eg : phi tab n "_law_graph" [.ref 0, .int (5 + (d : Int)), .int 9] [] [] [o3] = .ok (gD ms ws) [o4] := by
        have : ((5 + d : Nat) : Int) = 5 + (d : Int) := by omega
        rw [← this]; exact eg
      refine ⟨ms, ws, o4, ?_, gb_of hg hm hwb, hb4.mono (by omega)⟩
      simp [bf_law_some_graph, startE, ek, cmpI, z0, z, ed, binI, et, eg]
  · obtain ⟨ms, ws, o3, eg, hg, _, hm, hwb, hb3⟩ := graph_draw (n := n) (by omega) (S := [o2]) (q := 0) rfl hb2 (by omega) (m := 1 + d) (w := 9) (by omega) (by omega) (by omega)
    have eg : phi tab n "_law_graph" [.ref 0, .int (1 + (d : Int)), .int 9] [] [] [o2] = .ok (gD ms ws) [o3] := by
      have : ((1 + d : Nat) : Int) = 1 + (d : Int) := by omega
      rw [← this]; exact eg
    by_cases z1 : k = 1
    · obtain ⟨p, hp, o4, ep, hb4⟩ := pick_ok tTake tf_law_pick (n := n) (by omega) (S := [o3]) (r := 0) rfl hb3 (by omega) (items := .lst [.int 1000000000001, .int (-1000000000000000007), .int 3000000000000000]) (xs := [.int 1000000000001, .int (-1000000000000000007), .int 3000000000000000]) rfl (by intro e; cases e) (by simp) (by simp)
      obtain ⟨f, hf, fb⟩ : ∃ f : Int, [D.int 1000000000001, .int (-1000000000000000007), .int 3000000000000000][p] = .int f ∧ f.natAbs < 2 ^ 64 := by
        have : p = 0 ∨ p = 1 ∨ p = 2 := by simp at hp; omega
        rcases this with rfl | rfl | rfl
        · exact ⟨_, rfl, by decide⟩
        · exact ⟨_, rfl, by decide⟩
        · exact ⟨_, rfl, by decide⟩
      rw [hf] at ep
      have ep : phi tab n "_law_pick" [.ref 0, .lst [.int 1000000000001, .int (-1000000000000000007), .int 3000000000000000]] [] [] [o3] = .ok (.int f) [o4] := ep
      obtain ⟨y, o5, ey, y0, y1, hb5⟩ := take_ok tTake (n := n) (by omega) (S := [o4]) (r := 0) rfl hb4 (by omega) (many := 1000000000) (by omega) (by omega)
      have ey : phi tab n "_law_take" [.ref 0, .int 1000000000] [] [] [o4] = .ok (.int y) [o5] := ey
      have ec := changed_ok (n := n) (S := [o5]) (by omega) hg hwb (f := f) (x := y * 100000000) fb
      have p12 : powOk 10 12 = true := by decide
      have p18 : powOk 10 18 = true := by decide
      have p15 : powOk 10 15 = true := by decide
      have p9 : powOk 10 9 = true := by decide
      have p8 : powOk 10 8 = true := by decide
      have m1 : mulOk 3 1000000000000000 = true := mulOk_small (by decide) (by decide)
      have m2 : mulOk y 100000000 = true := mulOk_small (by omega) (by decide)
      refine ⟨ms, _, o5, ?_, ⟨changed_gr hg f (y * 100000000), (gb_of hg hm hwb).bm, changed_bd hwb fb (by omega)⟩, hb5.mono (by omega)⟩
      subst z1
      generalize mk ms.length (chF ws f (y * 100000000)) = ws' at *
      simp [bf_law_some_graph, startE, ek, cmpI, ed, binI, eg, p12, p18, p15, p9, p8, m1, ep, ey, m2, ec]
    · refine ⟨ms, ws, o3, ?_, gb_of hg hm hwb, hb3.mono (by omega)⟩
      simp [bf_law_some_graph, startE, ek, cmpI, z0, z1, ed, binI, eg]
end
end Lk74
namespace Lk74
open PySem Mp
/-! ### the ray of a node -/
def unitL (m a : Nat) : List Int := (List.range m).map fun k : Nat => if (k : Int) = (a : Int) then 1 else 0
theorem unit_ok {m a : Nat} (h8 : m ≤ 8) (ha : a < m) : RayOk (unitL m a) ∧ (unitL m a).length = m ∧ ∀ x ∈ unitL m a, x.natAbs < 2 ^ 200 := by
  have mem : (1 : Int) ∈ unitL m a := List.mem_map.mpr ⟨a, List.mem_range.mpr ha, if_pos rfl⟩
  have pos : ∀ x ∈ unitL m a, x = 0 ∨ x = 1 := by
    intro x hx
    obtain ⟨k, _, rfl⟩ := List.mem_map.mp hx
    split
    · exact .inr rfl
    · exact .inl rfl
  have len : (unitL m a).length = m := by simp [unitL]
  refine ⟨⟨by omega, by omega, ?_, ?_⟩, len, fun x hx => ?_⟩
  · have h := (gcdL_dvd (unitL m a) 0).2 1 mem
    exact Nat.eq_one_of_dvd_one h
  · unfold firstNZ
    cases ec : (unitL m a).filter (fun x => decide (x ≠ 0)) with
    | nil =>
      have : (1 : Int) ∈ (unitL m a).filter (fun x => decide (x ≠ 0)) := List.mem_filter.mpr ⟨mem, by decide⟩
      rw [ec] at this
      cases this
    | cons y r =>
      have hy : y ∈ (unitL m a).filter (fun x => decide (x ≠ 0)) := by rw [ec]; exact List.mem_cons_self
      have h2 := List.mem_filter.mp hy
      have y0 : y ≠ 0 := by simpa using h2.2
      have := pos y h2.1
      show 0 < y
      omega
  · refine bd_mono (a := 1) ?_ (by omega)
    rcases pos x hx with rfl | rfl <;> decide
section
variable {n : Nat} {S : Store}
theorem unit_comp {m a : Nat} (h8 : m ≤ 8) (x0 x2 x3 x4 x7 : Option D) : evE (phi tab n) c1_law [x0, some x1, x2, x3, x4, some (.int (m : Int)), some (.int (a : Int)), x7] S = .ok (.lst ((unitL m a).map .int)) S := by
  have rm := rng_of (show m ≤ line from Nat.le_trans h8 (by decide))
  have er : (unitL m a).map D.int = (List.range m).map fun k : Nat => .int (if (k : Int) = (a : Int) then 1 else 0) := by simp [unitL]
  rw [er]
  refine comp_rng (m := m) (src := .items (rngL 0 m)) (i_rng1 (x := (m : Int)) (by simp) rm) rfl (by omega) fun j hj => ?_
  by_cases z : (j : Int) = (a : Int)
  · have z' : j = a := by omega
    subst z'
    simp [cmpI, blt, blt1]
    rfl
  · have z' : ¬ j = a := by omega
    simp [cmpI, blt, blt1, z, z']
    rfl
end
end Lk74
namespace Lk74
open PySem Mp
/-! ### what is no ray -/
theorem no_ray {m : Nat} {l : List Int} (h : ¬ (RayOk l ∧ l.length = m)) : fitsD m (iD l) = false := by
  cases e : fitsD m (iD l) with
  | false => rfl
  | true =>
    obtain ⟨k, ek, hk, hl⟩ := fits_iff.mp e
    have : l = k := by
      have h1 := toInts_iD l
      have h2 := toInts_iD k
      rw [← h1, ek, h2]
    subst this
    exact absurd ⟨hk, hl⟩ h
theorem no_item {m : Nat} {xs : List D} {x : D} (hx : x ∈ xs) (h : isIntD x = false) : fitsD m (.tup xs) = false := by
  have e : isIntsD (.tup xs) = false := by
    cases e : isIntsD (.tup xs) with
    | false => rfl
    | true =>
      have e : xs.all isIntD = true := e
      rw [List.all_eq_true] at e
      rw [e x hx] at h
      cases h
  unfold fitsD isRayD
  rw [e]
  rfl
theorem no_scale {r : List Int} (h : RayOk r) (k : Nat) (hk : 2 ≤ k) {c : Int} (hc : c.natAbs = k) : ¬ RayOk (r.map fun x => c * x) := fun z => by
  have h1 : k ∣ gcdL (r.map fun x => c * x) 0 := dvd_gcdL _ 0 (Nat.dvd_zero _) fun x hx => by
    obtain ⟨y, _, rfl⟩ := List.mem_map.mp hx
    rw [Int.natAbs_mul, hc]
    exact Nat.dvd_mul_right _ _
  rw [z.one] at h1
  have := Nat.le_of_dvd (by omega) h1
  omega
theorem first_neg : ∀ r : List Int, firstNZ (r.map fun x => -x) = -firstNZ r
  | [] => rfl
  | x :: r => by
    have ih := first_neg r
    unfold firstNZ at *
    rw [List.map_cons, List.filter_cons, List.filter_cons]
    by_cases z : x = 0
    · subst z
      simpa using ih
    · have z' : -x ≠ 0 := by omega
      simp [z, z']
theorem no_neg {r : List Int} (h : RayOk r) : ¬ RayOk (r.map fun x => -x) := fun z => by
  have h1 := z.first
  rw [first_neg] at h1
  have := h.first
  omega
theorem no_zero (m : Nat) : ¬ RayOk (List.replicate m 0) := fun z => by
  have h1 := z.one
  have : (List.replicate m (0 : Int)).filter (fun x => decide (x ≠ 0)) = [] := by
    rw [List.filter_eq_nil_iff]
    intro x hx
    rw [(List.mem_replicate.mp hx).2]
    decide
  rw [gcdL_zero this] at h1
  cases h1
end Lk74
namespace Lk74
open PySem Mp
/-! ### what is no graph -/
theorem no_graph {d : D} (h : ∀ ms ws, d = gD ms ws → ¬ GrOk ms ws) : isGraphD d = false := by
  cases e : isGraphD d with
  | false => rfl
  | true =>
    obtain ⟨ms, ws, ed, hg⟩ := graph_iff.mp e
    exact absurd hg (h ms ws ed)
theorem iD_inj {a b : List Int} (h : iD a = iD b) : a = b := by
  have h1 := toInts_iD a
  rw [h, toInts_iD] at h1
  exact h1.symm
theorem mD_inj' : ∀ {a b : List (List Int)}, a.map iD = b.map iD → a = b
  | [], [], _ => rfl
  | [], _ :: _, h => by cases h
  | _ :: _, [], h => by cases h
  | x :: a, y :: b, h => by
    rw [List.map_cons, List.map_cons] at h
    obtain ⟨h1, h2⟩ := List.cons.inj h
    rw [iD_inj h1, mD_inj' h2]
theorem mD_inj {a b : List (List Int)} (h : mD a = mD b) : a = b := mD_inj' (D.tup.inj h)
theorem gD_inv {a b : D} {ms : List Int} {ws : List (List Int)} (h : D.tup [a, b] = gD ms ws) : a = iD ms ∧ b = mD ws := by
  have h := D.tup.inj h
  obtain ⟨h1, h2⟩ := List.cons.inj h
  exact ⟨h1, (List.cons.inj h2).1⟩
/-- other masses, or another matrix -/
theorem no_pair {a b : D} (h : ∀ ms ws, a = iD ms → b = mD ws → ¬ GrOk ms ws) : isGraphD (.tup [a, b]) = false := no_graph fun ms ws e => h ms ws (gD_inv e).1 (gD_inv e).2
theorem no_len {xs : List D} (h : xs.length ≠ 2) : isGraphD (.tup xs) = false := no_graph fun ms ws e => absurd (congrArg List.length (D.tup.inj e)) h
/-- one weight more -/
theorem no_more {ms : List Int} {ws ws' : List (List Int)} (g : GrOk ms ws) {i j : Nat} (hi : i < ms.length) (hj : j < ms.length) (e1 : ent ws' i j = ent ws i j + 1) (e2 : ent ws' j i = ent ws j i) : ¬ GrOk ms ws' := fun z => by
  have b1 := bal_all g.bal hi hj
  have b2 := bal_all z.bal hi hj
  have hm : 0 < ms.getD i 0 := g.mp _ (by simp [List.getD_eq_getElem?_getD, hi])
  rw [e1, e2, ← b1, Int.mul_add, Int.mul_one] at b2
  omega
end Lk74
namespace Lk74
open PySem Mp
section
variable {n : Nat} {S : Store}
/-! ### values that are no ray -/
def rb1 (r : List Int) : List D := [.non, .int 5, .str "ray", .tup [], .ref 1, .ref 2, .tup (r.map .int ++ [.int 0]), .tup ((r.map .int).drop 1), .tup (List.replicate r.length (.int 0)), .tup ((r.map fun x => -x).map .int), .tup ((r.map fun x => 2 * x).map .int), .ref 5]
def wrongs : List D := [.non, .bl true, .str "1", .tup [.int 1], .lst [.int 1]]
def rb2 (r : List Int) (a : Nat) : List D := wrongs.map fun b => .tup ((r.map .int).take a ++ [b] ++ (r.map .int).drop (a + 1))
def rb3 (r : List Int) : List D := [.tup ((r.map fun x => -3 * x).map .int)]
theorem wrongs_ok : ∀ b ∈ wrongs, gv 3 b = true ∧ isIntD b = false ∧ noexc b = true := by
  have s1 : shp (.str "1") = true := by decide +kernel
  intro b hb
  simp only [wrongs, List.mem_cons, List.not_mem_nil, or_false] at hb
  rcases hb with rfl | rfl | rfl | rfl | rfl
  · exact ⟨rfl, rfl, rfl⟩
  · exact ⟨rfl, rfl, rfl⟩
  · exact ⟨s1, rfl, rfl⟩
  · exact ⟨gv_tup (by simp) (fun x hx => by rw [List.mem_singleton.mp hx]; exact gv_small (by decide)), rfl, rfl⟩
  · exact ⟨gv_lst (by simp) (fun x hx => by rw [List.mem_singleton.mp hx]; exact gv_small (by decide)), rfl, rfl⟩
theorem drop1 (xs : List D) : cutD xs (some 1) none = xs.drop 1 := cut_from xs 1
theorem cutS (xs : List D) (a : Nat) : cutD xs (some ((a : Int) + 1)) none = xs.drop (a + 1) := cut_from xs (a + 1)
def renv (l : List Int) (a : Nat) (e4 : Option D) : Mp.Env := [some (.ref 0), some (iD l), some (.int (a : Int)), some (.int (l.length : Int)), e4, none, none]
theorem rc3 {l : List Int} (hl : l.length ≤ 8) (a : Nat) (e4 : Option D) (S : Store) : evE (phi tab n) c3__law_bad_ray (renv l a e4) S = .ok (.ref S.length) (S ++ [.lst ((l.map fun x => -x).map .int)]) := by
  have e : (l.map fun x => -x).map D.int = l.map fun x => D.int (-x) := by simp
  rw [e]
  refine comp_list (F := D.int) (l := l) (src := .items (l.map .int)) (by simp [renv, srcOf]) rfl (by omega) fun x hx => ?_
  simp [renv]
theorem rc4 {l : List Int} (hl : l.length ≤ 8) (hb : ∀ x ∈ l, x.natAbs < 2 ^ 200) (a : Nat) (e4 : Option D) (S : Store) : evE (phi tab n) c4__law_bad_ray (renv l a e4) S = .ok (.ref S.length) (S ++ [.lst ((l.map fun x => 2 * x).map .int)]) := by
  have e : (l.map fun x => 2 * x).map D.int = l.map fun x => D.int (2 * x) := by simp
  rw [e]
  refine comp_list (F := D.int) (l := l) (src := .items (l.map .int)) (by simp [renv, srcOf]) rfl (by omega) fun x hx => ?_
  have m := mulOk_of (i := 2) (a := 2) (by decide) (hb x hx) (by omega)
  simp [renv, binI, m]
theorem rc2 {l : List Int} (hl : l.length ≤ 8) (hb : ∀ x ∈ l, x.natAbs < 2 ^ 200) (a : Nat) (e4 : Option D) (S : Store) : evE (phi tab n) c2__law_bad_ray (renv l a e4) S = .ok (.lst ((l.map fun x => -3 * x).map .int)) S := by
  have e : (l.map fun x => -3 * x).map D.int = l.map fun x => D.int (-3 * x) := by simp
  rw [e]
  refine comp_list (F := D.int) (l := l) (src := .items (l.map .int)) (by simp [renv, srcOf]) rfl (by omega) fun x hx => ?_
  have m := mulOk_of (i := -3) (a := 2) (by decide) (hb x hx) (by omega)
  simp [renv, binI, m]
theorem rc1 {l : List Int} (hl : l.length ≤ 8) (a : Nat) (e4 : Option D) (S : Store) : evE (phi tab n) c1__law_bad_ray (renv l a e4) S = .ok (.lst (rb2 l a)) S := by
  have hlen : ((l.map D.int).take a).length ≤ 8 := by simp; omega
  have hlen2 : ((l.map D.int).drop (a + 1)).length ≤ 8 := by simp; omega
  refine comp_list (F := id) (l := wrongs) (src := .items wrongs) (g := fun b => .tup ((l.map .int).take a ++ [b] ++ (l.map .int).drop (a + 1))) ?_ (by simp [itemsOf]) (by decide) fun x hx => ?_
  · simp [renv, srcOf, wrongs]
  have hs := slotR_some (wrongs_ok x hx).2.2 S
  have c1 := cut_to (l.map D.int) a
  have c2 := cutS (l.map D.int) a
  generalize (l.map D.int).take a = X at *
  generalize (l.map D.int).drop (a + 1) = Y at *
  have q1 : X.length + 1 ≤ 16777216 := by omega
  have q2 : X.length + 1 + Y.length ≤ 16777216 := by omega
  simp [renv, hs, part, slop, c1, c2, binI, q1, q2]
theorem rb_ok {l : List Int} (h : RayOk l) (hb : ∀ x ∈ l, x.natAbs < 2 ^ 200) {a : Nat} (ha : a < l.length) {S : Store} (s1 : S[1]? = some (.lst [.int 1])) (s2 : S[2]? = some (.lst (l.map .int))) (s5 : S[5]? = some (.dic [.inr "1"] [.int 1])) :
    ∀ x ∈ rb1 l ++ rb2 l a ++ rb3 l, Bd (fitsD l.length) S 1 6 x := by
  have h8 := h.most
  have h1 := h.pos
  have bd : ∀ x ∈ l, x.natAbs < 2 ^ 1000 := fun x hx => bd_mono (hb x hx) (by omega)
  have gI : ∀ x ∈ l.map D.int, gv 5 x = true := fun x hx => by
    obtain ⟨i, hi, rfl⟩ := List.mem_map.mp hx
    exact gv_i (bd i hi)
  have neg : ∀ k : List Int, ¬ (RayOk k ∧ k.length = l.length) → k.length ≤ 1000 → (∀ x ∈ k, x.natAbs < 2 ^ 1000) → Bd (fitsD l.length) S 1 6 (iD k) := fun k hk hl hb => .inl ⟨gvI 4 hl hb, no_ray hk⟩
  have sr : shp (.str "ray") = true := by decide +kernel
  have g1 : gv 6 (.int 1) = true := gv_small (by decide)
  intro x hx
  rcases List.mem_append.mp hx with hx | hx
  · rcases List.mem_append.mp hx with hx | hx
    · simp only [rb1, List.mem_cons, List.not_mem_nil, or_false] at hx
      rcases hx with rfl | rfl | rfl | rfl | rfl | rfl | rfl | rfl | rfl | rfl | rfl | rfl
      · exact .inl ⟨rfl, rfl⟩
      · exact .inl ⟨gv_small (by decide), rfl⟩
      · exact .inl ⟨sr, rfl⟩
      · exact .inl ⟨rfl, rfl⟩
      · refine .inr ⟨1, _, rfl, by omega, s1, ?_⟩
        show (decide (1 ≤ 10000) && (gv 6 (.int 1) && true)) = true
        rw [g1]; rfl
      · refine .inr ⟨2, _, rfl, by omega, s2, ?_⟩
        show (decide ((l.map D.int).length ≤ 10000) && (l.map D.int).all (gv 6)) = true
        rw [Bool.and_eq_true, List.all_eq_true]
        exact ⟨decide_eq_true (by rw [List.length_map]; omega), fun x hx => gv_mono (gI x hx) (by omega)⟩
      · have e : D.tup (l.map .int ++ [.int 0]) = iD (l ++ [0]) := by simp
        rw [e]
        refine neg _ (fun z => by have := z.2; simp at this) (by simp; omega) fun x hx => ?_
        rcases List.mem_append.mp hx with hx | hx
        · exact bd x hx
        · rw [List.mem_singleton.mp hx]; exact Nat.two_pow_pos _
      · rw [← List.map_drop]
        exact neg _ (fun z => by have := z.2; rw [List.length_drop] at this; omega) (by simp; omega) fun x hx => bd x (List.mem_of_mem_drop hx)
      · have e : D.tup (List.replicate l.length (.int 0)) = iD (List.replicate l.length 0) := by simp
        rw [e]
        exact neg _ (fun z => no_zero _ z.1) (by simp; omega) fun x hx => by rw [(List.mem_replicate.mp hx).2]; exact Nat.two_pow_pos _
      · refine neg _ (fun z => no_neg h z.1) (by simp; omega) fun x hx => ?_
        obtain ⟨y, hy, rfl⟩ := List.mem_map.mp hx
        rw [Int.natAbs_neg]; exact bd y hy
      · refine neg _ (fun z => no_scale h 2 (by omega) (c := 2) rfl z.1) (by simp; omega) fun x hx => ?_
        obtain ⟨y, hy, rfl⟩ := List.mem_map.mp hx
        exact bd_mono (mul_bd (a := 2) (by decide) (hb y hy)) (by omega)
      · refine .inr ⟨5, _, rfl, by omega, s5, ?_⟩
        have : gF (.int 1) = true := g1
        show ((decide (1 ≤ 1000) && decide (1 = 1)) && (decide ([Sum.inr (Str.ofString "1")] : List Key).Nodup && (gF (.int 1) && true))) = true
        rw [this]
        simp
    · obtain ⟨b, hw, rfl⟩ := List.mem_map.mp hx
      obtain ⟨w1, w2, w3⟩ := wrongs_ok b hw
      refine .inl ⟨gv_tup (by simp; omega) fun x hx => ?_, no_item (x := b) (by simp) w2⟩
      rcases List.mem_append.mp hx with hx | hx
      · rcases List.mem_append.mp hx with hx | hx
        · exact gI x (List.mem_of_mem_take hx)
        · rw [List.mem_singleton.mp hx]; exact gv_mono w1 (by omega)
      · exact gI x (List.mem_of_mem_drop hx)
  · have : x = iD (l.map fun x => -3 * x) := List.mem_singleton.mp hx
    subst this
    refine neg _ (fun z => no_scale h 3 (by omega) (c := -3) rfl z.1) (by simp; omega) fun x hx => ?_
    obtain ⟨y, hy, rfl⟩ := List.mem_map.mp hx
    exact bd_mono (mul_bd (a := 2) (by decide) (hb y hy)) (by omega)
theorem bad_ray_ok (hn : 3 ≤ n) {r : Nat} {o : O} {c : Int} (hS : S[r]? = some o) (hb : BoxOk c o) (hc : c ≤ 1000000) {l : List Int} (h : RayOk l) (hlb : ∀ x ∈ l, x.natAbs < 2 ^ 200) :
    ∃ d S', phi tab n "_law_bad_ray" [.ref r, iD l] [] [] S = .ok d S' ∧ Bo (fitsD l.length) S r (c + 2) 6 d S' := by
  obtain ⟨n, rfl⟩ : ∃ m, n = m + 1 := ⟨n - 1, by omega⟩
  have h8 := h.most
  have h1 := h.pos
  rw [phi_own1 tf_law_bad_ray rfl (r := r) (by
    simp only [List.all_cons, List.all_nil, Bool.and_true, Bool.and_eq_true]
    exact ⟨rfl, iD_pure l⟩) rfl hS hb.pure]
  obtain ⟨a, o1, et, a0, a1, hb1⟩ := take_ok tTake (n := n) (by omega) (S := [o]) (r := 0) rfl hb (by omega) (many := (l.length : Int)) (by omega) (by omega)
  obtain ⟨a, rfl⟩ := Int.eq_ofNat_of_zero_le a0
  have et : phi tab n "_law_take" [.ref 0, .int (l.length : Int)] [] [] [o] = .ok (.int (a : Int)) [o1] := et
  have bl := blt_len (S := [o]) (d := iD l) (k := l.length) (by show some _ = _; rw [List.length_map])
  have bl' := blt_len (S := [o1]) (d := iD l) (k := l.length) (by show some _ = _; rw [List.length_map])
  have c3 := fun S => rc3 (n := n) h8 a none S
  have c4 := fun S => rc4 (n := n) h8 hlb a none S
  have c1 := fun S => rc1 (n := n) h8 a (some (.ref 6)) S
  have c2 := fun S => rc2 (n := n) h8 hlb a (some (.ref 6)) S
  have mm := fun S => mul_one false (.int 0) (show l.length ≤ 1000 by omega) S
  have ok := rb_ok (S := [o1, .lst [.int 1], .lst (l.map .int), .lst ((l.map fun x => -x).map .int), .lst ((l.map fun x => 2 * x).map .int), .dic [.inr "1"] [.int 1], .lst (rb1 l)]) h hlb (a := a) (by omega) rfl rfl rfl
  obtain ⟨q, hq, o2, ep, hb2⟩ := pick_ok tTake tf_law_pick (n := n) (by omega) (S := [o1, .lst [.int 1], .lst (l.map .int), .lst ((l.map fun x => -x).map .int), .lst ((l.map fun x => 2 * x).map .int), .dic [.inr "1"] [.int 1], .lst (rb1 l)]) (r := 0) rfl hb1 (by omega) (items := .lst (rb1 l ++ rb2 l a ++ rb3 l)) (xs := rb1 l ++ rb2 l a ++ rb3 l) rfl (by intro e; cases e) (by simp [rb1]) (by simp [rb1, rb2, rb3, wrongs])
  have okx := ok _ (List.getElem_mem hq)
  generalize (rb1 l ++ rb2 l a ++ rb3 l)[q] = x at *
  have okx := okx.set (q := 0) (by omega) o2
  obtain ⟨d, S', e, hbo⟩ := bad_end (S := S) (r := r) (o9 := o2) (by rfl) (hb2.mono (c' := c + 2) (by omega)) okx
  refine ⟨d, S', ?_, hbo⟩
  refine Eq.trans ?_ e
  congr 1
  have run : evSs (phi tab n) bf_law_bad_ray (startE 7 (List.map sub0 [D.ref r, iD l])) [o] = .rt x ([o1, .lst [.int 1], .lst (l.map .int), .lst ((l.map fun x => -x).map .int), .lst ((l.map fun x => 2 * x).map .int), .dic [.inr "1"] [.int 1], .lst (rb1 l)].set 0 o2) := by
    refine (ss_step (ρ' := renv l a none) (S' := [o1]) (by simp [startE, sub0, bl, et, bl', renv])).trans ?_
    refine (ss_step (ρ' := renv l a (some (.ref 6))) (S' := [o1, .lst [.int 1], .lst (l.map .int), .lst ((l.map fun x => -x).map .int), .lst ((l.map fun x => 2 * x).map .int), .dic [.inr "1"] [.int 1], .lst (rb1 l)]) ?_).trans ?_
    · have q1 : l.length + 1 ≤ 16777216 := by omega
      simp only [renv] at c3 c4 ⊢
      simp [c3, c4, mm, q1, part, slop, drop1, seqOf, lstOf, rb1]
    · simp only [renv] at c1 c2 ⊢
      have l1 : (rb1 l).length = 12 := rfl
      have l2 : (rb2 l a).length = 5 := rfl
      have ad := add_rl (S := [o1, .lst [.int 1], .lst (l.map .int), .lst ((l.map fun x => -x).map .int), .lst ((l.map fun x => 2 * x).map .int), .dic [.inr "1"] [.int 1], .lst (rb1 l)]) (a := 6) (x := rb1 l) (y := rb2 l a) rfl (by rw [l1, l2]; omega)
      generalize rb1 l = M1 at *
      generalize rb2 l a = M2 at *
      have q2 : (M1 ++ M2).length + 1 ≤ 16777216 := by simp [l1, l2]
      have ad2 : ∀ (y : D) (S : Store), binop .Add true (.lst (M1 ++ M2)) (.lst [y]) S = .ok (.lst (M1 ++ M2 ++ [y])) S := fun y S => by
        rw [add_ll, if_pos (show (M1 ++ M2).length + [y].length ≤ 16777216 from q2)]
        rfl
      unfold rb3 at ep
      simp only [evSs, s_ret, ss_cons, e_call, es_cons_, es_nil_, e_v, e_bin, List.getElem?_cons_zero, List.getElem?_cons_succ, slotR_ref, R.bind_ok, c1, ad, e_lst, e_blt, c2, b_tuple, seq_lst', Option.map_some, ofD_some, List.length_singleton, line_n, Nat.reduceLeDiff, if_true, ad2, alloc_fz, ep, stm_ok, next_rt]
  rw [run]
  rfl
end
end Lk74
namespace Lk74
open PySem Mp
section
variable {n : Nat} {S : Store}
/-! ### values that are no graph -/
def bads : List D := [.int 0, .int (-1), .bl true, .non, .str "1"]
def gw1 (ms : List Int) (ws : List (List Int)) : List D := [.non, .int 5, .str "graph", .tup [], .ref (2 + ms.length), .tup [iD ms], .tup [iD ms, mD ws, .int 0], .tup [.lst (ms.map .int), mD ws], .tup [iD ms, .lst (ws.map iD)], .tup [.tup [], .tup []], .ref (3 + ms.length)]
def entD (ws : List (List Int)) (a b : Nat) : D := .int (ent ws a b)
def gw2 (ms : List Int) (ws : List (List Int)) (i j : Nat) (w : D) : List D := [.tup [.tup (ms.map .int).dropLast, mD ws], .tup [iD ms, .tup (ws.map iD).dropLast], .tup [iD ms, matD ms.length (updD (entD ws) i j w)], .tup [iD ms, .tup (ws.map fun r => .lst (r.map .int))]]
def gw3 (ms : List Int) (ws : List (List Int)) (i : Nat) : List D := bads.map fun b => .tup [.tup ((ms.map .int).take i ++ [b] ++ (ms.map .int).drop (i + 1)), mD ws]
def gw4 (ms : List Int) (ws : List (List Int)) (i : Nat) : D := .tup [iD ms, .tup ((ws.map iD).take i ++ [.tup ((ws.getD i []).map .int ++ [.int 0])] ++ (ws.map iD).drop (i + 1))]
def gw5 : D := .tup [.tup (List.replicate 9 (.int 1)), .tup (List.replicate 9 (.tup (List.replicate 9 (.int 0))))]
def gw6 (ms : List Int) (ws : List (List Int)) (i j : Nat) : D := .tup [iD ms, matD ms.length (updD (entD ws) i j (.int (ent ws i j + 1)))]
abbrev No (x : D) : Prop := gv 6 x = true ∧ isGraphD x = false
variable {ms : List Int} {ws : List (List Int)}
theorem GB.ent (h : GB ms ws) (a b : Nat) : (ent ws a b).natAbs < 2 ^ 200 := by
  unfold Mp.ent
  by_cases z : a < ws.length
  · refine getD_bd (h.bw _ ?_) b
    rw [List.getD_eq_getElem?_getD, List.getElem?_eq_getElem z]
    exact List.getElem_mem _
  · have e : ws.getD a [] = [] := by rw [List.getD_eq_getElem?_getD, List.getElem?_eq_none (by omega)]; rfl
    rw [e]
    exact Nat.two_pow_pos _
theorem big {x : Int} (h : x.natAbs < 2 ^ 200) : x.natAbs < 2 ^ 1000 := bd_mono h (by omega)
theorem GB.gm (h : GB ms ws) (k : Nat) : gv (k + 2) (iD ms) = true := gvI k (by have := h.g.most; omega) fun x hx => big (h.bm x hx)
theorem GB.gws (h : GB ms ws) (k : Nat) : gv (k + 3) (mD ws) = true := gvM k (by have := h.g.most; have := h.g.len; omega) (fun r hr => by have := h.g.row r hr; have := h.g.most; omega) fun r hr x hx => big (h.bw r hr x hx)
theorem GB.gr (h : GB ms ws) (k : Nat) {r : List Int} (hr : r ∈ ws) : gv (k + 2) (iD r) = true := gvI k (by have := h.g.row r hr; have := h.g.most; omega) fun x hx => big (h.bw r hr x hx)
theorem no2 {a b : D} (ga : gv 5 a = true) (gb : gv 5 b = true) (h : ∀ ms ws, a = iD ms → b = mD ws → ¬ GrOk ms ws) : No (.tup [a, b]) :=
  ⟨gv_tup (by simp) fun x hx => by
    rcases List.mem_cons.mp hx with rfl | hx
    · exact ga
    · rw [List.mem_singleton.mp hx]; exact gb, no_pair h⟩
theorem iD_len {xs : List D} {l : List Int} (h : D.tup xs = iD l) : l.length = xs.length := by
  have := congrArg List.length (D.tup.inj h)
  rw [List.length_map] at this
  exact this.symm
theorem gw1_ok (h : GB ms ws) {S : Store} (s1 : S[2 + ms.length]? = some (.lst [iD ms, mD ws])) (s2 : S[3 + ms.length]? = some (.dic [.inr "1"] [.int 1])) : ∀ x ∈ gw1 ms ws, Bd isGraphD S (2 + ms.length) 6 x ∧ ∀ q, x = .ref q → q < 4 + ms.length := by
  have sg : shp (.str "graph") = true := by decide +kernel
  have g1 : gv 6 (.int 1) = true := gv_small (by decide)
  have np : ∀ {x : D}, No x → Bd isGraphD S (2 + ms.length) 6 x ∧ ∀ q, x = .ref q → q < 4 + ms.length := fun {x} hx => ⟨.inl hx, fun q e => by subst e; have := gv_pure hx.1; cases this⟩
  intro x hx
  simp only [gw1, List.mem_cons, List.not_mem_nil, or_false] at hx
  rcases hx with rfl | rfl | rfl | rfl | rfl | rfl | rfl | rfl | rfl | rfl | rfl
  · exact np ⟨rfl, rfl⟩
  · exact np ⟨gv_small (by decide), rfl⟩
  · exact np ⟨sg, rfl⟩
  · exact np ⟨rfl, rfl⟩
  · refine ⟨.inr ⟨_, _, rfl, Nat.le_refl _, s1, ?_⟩, fun q e => by cases e; omega⟩
    show (decide (2 ≤ 10000) && (gv 6 (iD ms) && (gv 6 (mD ws) && true))) = true
    rw [h.gm 4, h.gws 3]; rfl
  · refine np ⟨gv_tup (by simp) fun x hx => by rw [List.mem_singleton.mp hx]; exact h.gm 3, no_len (by simp)⟩
  · refine np ⟨gv_tup (by simp) fun x hx => ?_, no_len (by simp)⟩
    simp only [List.mem_cons, List.not_mem_nil, or_false] at hx
    rcases hx with rfl | rfl | rfl
    · exact h.gm 3
    · exact h.gws 2
    · exact gv_small (by decide)
  · exact np (no2 (h.gm 3) (h.gws 2) fun _ _ e => by cases e)
  · exact np (no2 (h.gm 3) (h.gws 2) fun _ _ _ e => by cases e)
  · exact np (no2 rfl rfl fun m' w' e _ z => by have h1 := z.pos; have h2 := iD_len e; rw [h2] at h1; exact absurd h1 (by decide))
  · refine ⟨.inr ⟨_, _, rfl, by omega, s2, ?_⟩, fun q e => by cases e; omega⟩
    have : gF (.int 1) = true := g1
    show ((decide (1 ≤ 1000) && decide (1 = 1)) && (decide ([Sum.inr (Str.ofString "1")] : List Key).Nodup && (gF (.int 1) && true))) = true
    rw [this]
    simp
theorem upd_gv (h : GB ms ws) {i j : Nat} {x : D} (gx : gv 3 x = true) : gv 5 (matD ms.length (updD (entD ws) i j x)) = true := matD_gv (k := 3) (by have := h.g.most; omega) fun a b _ _ => by
  unfold updD
  split
  · exact gx
  · exact gv_i (big (h.ent a b))
theorem dropLast_len (xs : List D) : xs.dropLast.length = xs.length - 1 := List.length_dropLast
theorem gw2_ok (h : GB ms ws) {i j : Nat} (hi : i < ms.length) (hj : j < ms.length) {w : D} (gw : gv 3 w = true) (iw : isIntD w = false) : ∀ x ∈ gw2 ms ws i j w, No x := by
  have h8 := h.g.most
  have h1 := h.g.pos
  have hl := h.g.len
  intro x hx
  simp only [gw2, List.mem_cons, List.not_mem_nil, or_false] at hx
  rcases hx with rfl | rfl | rfl | rfl
  · refine no2 (gv_tup (by simp; omega) fun x hx => ?_) (h.gws 2) fun m' w' e e2 z => ?_
    · exact (gv_seq (h.gm 3)).2 x (List.dropLast_subset _ hx)
    · have e3 := mD_inj e2
      subst e3
      have := iD_len e
      have := z.len
      rw [dropLast_len, List.length_map] at *
      omega
  · refine no2 (h.gm 3) (gv_tup (by simp; omega) fun x hx => ?_) fun m' w' e e2 z => ?_
    · exact (gv_seq (h.gws 2)).2 x (List.dropLast_subset _ hx)
    · have e3 := iD_inj e
      subst e3
      have := congrArg List.length (D.tup.inj e2)
      have := z.len
      rw [dropLast_len, List.length_map, List.length_map] at *
      omega
  · refine no2 (h.gm 3) (upd_gv h gw) fun m' w' e e2 z => ?_
    have e3 := iD_inj e
    subst e3
    obtain ⟨_, q⟩ := mat_inv z.len z.row e2
    have := q i j hi hj
    unfold updD at this
    rw [if_pos ⟨rfl, rfl⟩] at this
    rw [this] at iw
    cases iw
  · refine no2 (h.gm 3) (gv_tup (by simp; omega) fun x hx => ?_) fun m' w' e e2 z => ?_
    · obtain ⟨r, hr, rfl⟩ := List.mem_map.mp hx
      exact h.gr 2 hr
    · have e3 := D.tup.inj e2
      obtain ⟨r, hr⟩ : ∃ r, r ∈ ws := by
        cases ws with
        | nil => simp at hl; omega
        | cons r _ => exact ⟨r, by simp⟩
      have : D.lst (r.map .int) ∈ w'.map iD := by rw [← e3]; exact List.mem_map.mpr ⟨r, hr, rfl⟩
      obtain ⟨q, _, e⟩ := List.mem_map.mp this
      cases e
theorem bads_ok : ∀ b ∈ bads, gv 3 b = true ∧ noexc b = true ∧ ∀ v, b = .int v → v ≤ 0 := by
  have s1 : shp (.str "1") = true := by decide +kernel
  intro b hb
  simp only [bads, List.mem_cons, List.not_mem_nil, or_false] at hb
  rcases hb with rfl | rfl | rfl | rfl | rfl
  · exact ⟨gv_small (by decide), rfl, fun v e => by cases e; omega⟩
  · exact ⟨gv_small (by decide), rfl, fun v e => by cases e; omega⟩
  · exact ⟨rfl, rfl, fun v e => by cases e⟩
  · exact ⟨rfl, rfl, fun v e => by cases e⟩
  · exact ⟨s1, rfl, fun v e => by cases e⟩
theorem gw3_ok (h : GB ms ws) (i : Nat) : ∀ x ∈ gw3 ms ws i, No x := by
  have h8 := h.g.most
  intro x hx
  obtain ⟨b, hb, rfl⟩ := List.mem_map.mp hx
  obtain ⟨b1, b2, b3⟩ := bads_ok b hb
  have gm := (gv_seq (h.gm 3)).2
  refine no2 (gv_tup (by simp; omega) fun x hx => ?_) (h.gws 2) fun m' w' e _ z => ?_
  · rcases List.mem_append.mp hx with hx | hx
    · rcases List.mem_append.mp hx with hx | hx
      · exact gm x (List.mem_of_mem_take hx)
      · rw [List.mem_singleton.mp hx]; exact gv_mono b1 (by omega)
    · exact gm x (List.mem_of_mem_drop hx)
  · have : b ∈ m'.map D.int := by rw [← D.tup.inj e]; simp
    obtain ⟨v, hv, e⟩ := List.mem_map.mp this
    have := b3 v e.symm
    have := z.mp v hv
    omega
theorem gw4_ok (h : GB ms ws) {i : Nat} (hi : i < ms.length) : No (gw4 ms ws i) := by
  have h8 := h.g.most
  have hl := h.g.len
  have gw := (gv_seq (h.gws 2)).2
  have hr : ws.getD i [] ∈ ws := by
    rw [List.getD_eq_getElem?_getD, List.getElem?_eq_getElem (by omega)]
    exact List.getElem_mem _
  have hrl := h.g.row _ hr
  refine no2 (h.gm 3) (gv_tup (by simp; omega) fun x hx => ?_) fun m' w' e e2 z => ?_
  · rcases List.mem_append.mp hx with hx | hx
    · rcases List.mem_append.mp hx with hx | hx
      · exact gw x (List.mem_of_mem_take hx)
      · rw [List.mem_singleton.mp hx]
        refine gv_tup (by rw [List.length_append, List.length_map, List.length_singleton]; omega) fun y hy => ?_
        rcases List.mem_append.mp hy with hy | hy
        · exact (gv_seq (h.gr 2 hr)).2 y hy
        · rw [List.mem_singleton.mp hy]; exact gv_small (by decide)
    · exact gw x (List.mem_of_mem_drop hx)
  · have e3 := iD_inj e
    subst e3
    have : D.tup ((ws.getD i []).map .int ++ [.int 0]) ∈ w'.map iD := by rw [← D.tup.inj e2]; simp
    obtain ⟨q, hq, e⟩ := List.mem_map.mp this
    have := z.row q hq
    have := congrArg List.length (D.tup.inj e)
    rw [List.length_append, List.length_map, List.length_map, List.length_singleton] at this
    omega
theorem gw5_ok : No gw5 := by
  refine no2 (gv_tup (by simp) fun x hx => ?_) (gv_tup (by simp) fun x hx => ?_) fun m' w' e _ z => ?_
  · rw [(List.mem_replicate.mp hx).2]; exact gv_small (by decide)
  · rw [(List.mem_replicate.mp hx).2]
    refine gv_tup (by simp) fun x hx => ?_
    rw [(List.mem_replicate.mp hx).2]; exact gv_small (by decide)
  · have := iD_len e
    have := z.most
    simp at *
    omega
theorem gw6_ok (h : GB ms ws) {i j : Nat} (hi : i < ms.length) (hj : j < ms.length) (hij : i ≠ j) : No (gw6 ms ws i j) := by
  have hb := h.ent i j
  have hp : (ent ws i j + 1).natAbs < 2 ^ 201 := by
    rw [show (201 : Nat) = 200 + 1 from rfl, Nat.pow_succ]
    omega
  refine no2 (h.gm 3) (upd_gv h (gv_i (bd_mono hp (by omega)))) fun m' w' e e2 z => ?_
  have e3 := iD_inj e
  subst e3
  obtain ⟨_, q⟩ := mat_inv z.len z.row e2
  have q1 := q i j hi hj
  have q2 := q j i hj hi
  unfold updD at q1 q2
  rw [if_pos ⟨rfl, rfl⟩] at q1
  rw [if_neg (fun z => hij z.2)] at q2
  exact no_more h.g hi hj (D.int.inj q1).symm (D.int.inj q2).symm z
end
end Lk74
namespace Lk74
open PySem Mp
section
variable {n : Nat} {S : Store} {ms : List Int} {ws : List (List Int)}
def gS0 : Mp.S := (.asg (.t (.cons (.n 2) (.cons (.n 3) .nil))) (.v 1))
def gS1 : Mp.S := (.asg (.n 4) (.blt .len true (.cons (.v 2) .nil)))
def gS2 : Mp.S := (.asg (.t (.cons (.n 5) (.cons (.n 6) .nil))) (.tup (.cons (.call "_law_take" (.cons (.v 0) (.cons (.v 4) .nil)) [] .nil) (.cons (.call "_law_take" (.cons (.v 0) (.cons (.v 4) .nil)) [] .nil) .nil))))
def gS3 : Mp.S := (.asg (.n 7) (.call "_law_pick" (.cons (.v 0) (.cons (.lst true (.cons (.k .non) (.cons (.k (.bl true)) (.cons (.k (.str "1")) (.cons (.tup (.cons (.k (.int 1)) .nil)) (.cons (.lst true (.cons (.k (.int 1)) .nil)) .nil)))))) .nil)) [] .nil))
def gS4 : Mp.S := (.asg (.n 8) c5__law_bad_graph)
def gS5 : Mp.S := (.asg (.s (.ix (.v 8) (.v 5)) (.v 6)) (.v 7))
def gS6 : Mp.S := (.asg (.n 10) (.lst false (.cons (.k .non) (.cons (.k (.int 5)) (.cons (.k (.str "graph")) (.cons (.tup .nil) (.cons (.lst false (.cons (.v 2) (.cons (.v 3) .nil))) (.cons (.tup (.cons (.v 2) .nil)) (.cons (.tup (.cons (.v 2) (.cons (.v 3) (.cons (.k (.int 0)) .nil)))) (.cons (.tup (.cons (.blt .list true (.cons (.v 2) .nil)) (.cons (.v 3) .nil))) (.cons (.tup (.cons (.v 2) (.cons (.blt .list true (.cons (.v 3) .nil)) .nil))) (.cons (.tup (.cons (.tup .nil) (.cons (.tup .nil) .nil))) (.cons (.dic false [.inr "1"] (.cons (.k (.int 1)) .nil)) .nil)))))))))))))
def gS7 : Mp.S := (.asg (.n 10) (.bin .Add false (.v 10) (.lst false (.cons (.tup (.cons (.sl true (.v 2) .nil (.cons (.neg (.k (.int 1))) .nil)) (.cons (.v 3) .nil))) (.cons (.tup (.cons (.v 2) (.cons (.sl true (.v 3) .nil (.cons (.neg (.k (.int 1))) .nil)) .nil))) (.cons (.tup (.cons (.v 2) (.cons (.blt .tuple true (.cons c3__law_bad_graph .nil)) .nil))) (.cons (.tup (.cons (.v 2) (.cons (.blt .tuple true (.cons c4__law_bad_graph .nil)) .nil))) .nil)))))))
def gS8 : Mp.S := (.asg (.n 10) (.bin .Add false (.v 10) c2__law_bad_graph))
def gS9 : Mp.S := (.ex (.meth .append (.v 10) (.cons (.tup (.cons (.v 2) (.cons (.bin .Add true (.bin .Add true (.sl true (.v 3) .nil (.cons (.v 5) .nil)) (.tup (.cons (.bin .Add true (.ix (.v 3) (.v 5)) (.tup (.cons (.k (.int 0)) .nil))) .nil))) (.sl true (.v 3) (.cons (.bin .Add true (.v 5) (.k (.int 1))) .nil) .nil)) .nil))) .nil)))
def gS10 : Mp.S := (.ex (.meth .append (.v 10) (.cons (.tup (.cons (.bin .Mult true (.tup (.cons (.k (.int 1)) .nil)) (.k (.int 9))) (.cons (.bin .Mult true (.tup (.cons (.bin .Mult true (.tup (.cons (.k (.int 0)) .nil)) (.k (.int 9))) .nil)) (.k (.int 9))) .nil))) .nil)))
def gSc : Mp.E := (.band (.cons (.cmp .Gt (.v 4) (.k (.int 1))) (.cons (.cmp .NotEq (.v 5) (.v 6)) .nil)))
def gS11_0 : Mp.S := (.asg (.s (.ix (.v 8) (.v 5)) (.v 6)) (.bin .Add true (.ix (.ix (.v 3) (.v 5)) (.v 6)) (.k (.int 1))))
def gS11_1 : Mp.S := (.asg (.n 10) (.bin .Add false (.v 10) (.bin .Mult false (.lst false (.cons (.tup (.cons (.v 2) (.cons (.blt .tuple true (.cons c1__law_bad_graph .nil)) .nil))) .nil)) (.k (.int 4)))))
def gS11 : Mp.S := .ife gSc (.cons gS11_0 (.cons gS11_1 .nil)) .nil
def gS12 : Mp.S := (.ret (.call "_law_pick" (.cons (.v 0) (.cons (.v 10) .nil)) [] .nil))
theorem gSB : bf_law_bad_graph = .cons gS0 (.cons gS1 (.cons gS2 (.cons gS3 (.cons gS4 (.cons gS5 (.cons gS6 (.cons gS7 (.cons gS8 (.cons gS9 (.cons gS10 (.cons gS11 (.cons gS12 (.nil))))))))))))) := rfl
def genv (ms : List Int) (ws : List (List Int)) (i j : Nat) (w : D) (e8 e10 : Option D) : Mp.Env := [some (.ref 0), some (gD ms ws), some (iD ms), some (mD ws), some (.int (ms.length : Int)), some (.int (i : Int)), some (.int (j : Int)), some w, e8, none, e10, none]
theorem gc5 (h : GB ms ws) (i j : Nat) (w : D) (o : O) : evE (phi tab n) c5__law_bad_graph (genv ms ws i j w none none) [o] = .ok (.ref (1 + ms.length)) (SG ms.length o (entD ws)) := by
  have h8 := h.g.most
  have hl := h.g.len
  have := comp_rows (Φ := phi tab n) (S := [o]) (t := .n 9) (it := .e (.v 3)) (rest := .elt (.blt .list false (.cons (.v 9) .nil))) (vs := [9]) (ρ := genv ms ws i j w none none) (F := iD) (g := fun r => r.map D.int) (l := ws) (by simp [genv, srcOf]) (by omega) (fun r hr S' => by simp [genv])
  refine this.trans ?_
  rw [rows_mat hl h.g.row, hl]
  rfl
theorem gc4 (h : GB ms ws) (i j : Nat) (w : D) (e8 e10 : Option D) (S : Store) : evE (phi tab n) c4__law_bad_graph (genv ms ws i j w e8 e10) S = .ok (.lst (ws.map fun r => .lst (r.map .int))) S := by
  have h8 := h.g.most
  have hl := h.g.len
  refine comp_list (F := iD) (l := ws) (src := .items (ws.map iD)) (by simp [genv, srcOf]) rfl (by omega) fun r hr => ?_
  simp [genv]
theorem gc2 (h : GB ms ws) (i j : Nat) (w : D) (e8 e10 : Option D) (S : Store) : evE (phi tab n) c2__law_bad_graph (genv ms ws i j w e8 e10) S = .ok (.ref S.length) (S ++ [.lst (gw3 ms ws i)]) := by
  have h8 := h.g.most
  have hlen : ((ms.map D.int).take i).length ≤ 8 := by simp; omega
  have hlen2 : ((ms.map D.int).drop (i + 1)).length ≤ 8 := by simp; omega
  refine comp_list (F := id) (l := bads) (src := .items bads) (g := fun b => .tup [.tup ((ms.map .int).take i ++ [b] ++ (ms.map .int).drop (i + 1)), mD ws]) ?_ (by simp [itemsOf]) (by decide) fun x hx => ?_
  · simp [genv, srcOf, bads]
  · have hs := slotR_some (bads_ok x hx).2.1 S
    have c1 := cut_to (ms.map D.int) i
    have c2 := cutS (ms.map D.int) i
    generalize (ms.map D.int).take i = X at *
    generalize (ms.map D.int).drop (i + 1) = Y at *
    have q1 : X.length + 1 ≤ 16777216 := by omega
    have q2 : X.length + 1 + Y.length ≤ 16777216 := by omega
    simp [genv, hs, part, slop, c1, c2, binI, q1, q2]
theorem gc3 {i j : Nat} {w : D} {e10 : Option D} {o : O} {f : Nat → Nat → D} {S : Store} {a : Nat} {M : List D} (h8 : ms.length ≤ 8) (gi : GI isGraphD o ms.length f 6 S a M) : evE (phi tab n) c3__law_bad_graph (genv ms ws i j w (some (.ref (1 + ms.length))) e10) S = .ok (.lst ((List.range ms.length).map fun a => .tup ((List.range ms.length).map fun b => f a b))) S :=
  mat_comp (v := 8) (w := 9) (p := 1) (by omega) rfl (by show 9 < 12; omega) gi.en gi.row
theorem v10 {Φ : Phi} {i j : Nat} {w : D} {e8 : Option D} {k : Nat} {S : Store} : evE Φ (.v 10) (genv ms ws i j w e8 (some (.ref k))) S = .ok (.ref k) S := by simp [genv]
theorem s10 {Φ : Phi} {e : E} {i j : Nat} {w : D} {e8 e10 : Option D} {k : Nat} {S S' : Store} (h : evE Φ e (genv ms ws i j w e8 e10) S = .ok (.ref k) S') : evS Φ (.asg (.n 10) e) (genv ms ws i j w e8 e10) S = .nx (genv ms ws i j w e8 (some (.ref k))) S' := by
  rw [s_asg, h, stm_ok, t_n]
  rfl
theorem sapp {Φ : Phi} {e : E} {i j : Nat} {w d : D} {e8 : Option D} {a : Nat} {M : List D} {S : Store} (hS : S[a]? = some (.lst M)) (hl : M.length < 16777216) (h : evE Φ e (genv ms ws i j w e8 (some (.ref a))) S = .ok d S) : evS Φ (.ex (.meth .append (.v 10) (.cons e .nil))) (genv ms ws i j w e8 (some (.ref a))) S = .nx (genv ms ws i j w e8 (some (.ref a))) (S.set a (.lst (M ++ [d]))) := by
  have e1 : lstOf S (.ref a) = some M := by simp only [lstOf, hS]
  rw [s_ex, e_meth, v10, R.bind_ok, e1, if_pos (by rfl), es_cons_, h, R.bind_ok, es_nil_, R.bind_ok, R.bind_ok, meth_append hS hl, stm_ok]
theorem bad_graph_ok (hn : 3 ≤ n) {r : Nat} {o : O} {c : Int} (hS : S[r]? = some o) (hb : BoxOk c o) (hc : c ≤ 1000000) (h : GB ms ws) :
    ∃ d S', phi tab n "_law_bad_graph" [.ref r, gD ms ws] [] [] S = .ok d S' ∧ Bo isGraphD S r (c + 4) 6 d S' := by
  obtain ⟨n, rfl⟩ : ∃ m, n = m + 1 := ⟨n - 1, by omega⟩
  have h8 := h.g.most
  have h1 := h.g.pos
  have hl := h.g.len
  rw [phi_own1 tf_law_bad_graph rfl (r := r) (by
    simp only [List.all_cons, List.all_nil, Bool.and_true, Bool.and_eq_true]
    exact ⟨rfl, gD_pure ms ws⟩) rfl hS hb.pure]
  obtain ⟨i, o1, et1, i0, i1, hb1⟩ := take_ok tTake (n := n) (by omega) (S := [o]) (r := 0) rfl hb (by omega) (many := (ms.length : Int)) (by omega) (by omega)
  obtain ⟨j, o2, et2, j0, j1, hb2⟩ := take_ok tTake (n := n) (by omega) (S := [o1]) (r := 0) rfl hb1 (by omega) (many := (ms.length : Int)) (by omega) (by omega)
  obtain ⟨i, rfl⟩ := Int.eq_ofNat_of_zero_le i0
  obtain ⟨j, rfl⟩ := Int.eq_ofNat_of_zero_le j0
  have et1 : phi tab n "_law_take" [.ref 0, .int (ms.length : Int)] [] [] [o] = .ok (.int (i : Int)) [o1] := et1
  have et2 : phi tab n "_law_take" [.ref 0, .int (ms.length : Int)] [] [] [o1] = .ok (.int (j : Int)) [o2] := et2
  have hi : i < ms.length := by omega
  have hj : j < ms.length := by omega
  obtain ⟨q, hq, o3, ep, hb3⟩ := pick_ok tTake tf_law_pick (n := n) (by omega) (S := [o2]) (r := 0) rfl hb2 (by omega) (items := .lst wrongs) (xs := wrongs) rfl (by intro e; cases e) (by simp [wrongs]) (by simp [wrongs])
  obtain ⟨w1, w2, w3⟩ := wrongs_ok _ (List.getElem_mem hq)
  have ep : phi tab n "_law_pick" [.ref 0, .lst wrongs] [] [] [o2] = .ok wrongs[q] [o3] := ep
  generalize wrongs[q] = w at *
  have bl := blt_len (S := [o]) (d := iD ms) (k := ms.length) (by show some _ = _; rw [List.length_map])
  have sw := slotR_some w3
  have c5 := gc5 (n := n) h i j w o3
  have st0 : evS (phi tab n) gS0 (startE 12 (List.map sub0 [D.ref r, gD ms ws])) [o] = .nx [some (.ref 0), some (gD ms ws), some (iD ms), some (mD ws), none, none, none, none, none, none, none, none] [o] := by simp [gS0, startE, sub0]
  have st1 : evS (phi tab n) gS1 [some (.ref 0), some (gD ms ws), some (iD ms), some (mD ws), none, none, none, none, none, none, none, none] [o] = .nx [some (.ref 0), some (gD ms ws), some (iD ms), some (mD ws), some (.int (ms.length : Int)), none, none, none, none, none, none, none] [o] := by simp [gS1, bl]
  have st2 : evS (phi tab n) gS2 [some (.ref 0), some (gD ms ws), some (iD ms), some (mD ws), some (.int (ms.length : Int)), none, none, none, none, none, none, none] [o] = .nx [some (.ref 0), some (gD ms ws), some (iD ms), some (mD ws), some (.int (ms.length : Int)), some (.int (i : Int)), some (.int (j : Int)), none, none, none, none, none] [o2] := by simp [gS2, et1, et2]
  have st3 : evS (phi tab n) gS3 [some (.ref 0), some (gD ms ws), some (iD ms), some (mD ws), some (.int (ms.length : Int)), some (.int (i : Int)), some (.int (j : Int)), none, none, none, none, none] [o2] = .nx (genv ms ws i j w none none) [o3] := by
    unfold wrongs at ep
    simp [gS3, ep, genv]
  have st4 : evS (phi tab n) gS4 (genv ms ws i j w none none) [o3] = .nx (genv ms ws i j w (some (.ref (1 + ms.length))) none) (SG ms.length o3 (entD ws)) := by
    unfold gS4
    rw [s_asg, c5, stm_ok, t_n]; rfl
  have st5 : evS (phi tab n) gS5 (genv ms ws i j w (some (.ref (1 + ms.length))) none) (SG ms.length o3 (entD ws)) = .nx (genv ms ws i j w (some (.ref (1 + ms.length))) none) (SG ms.length o3 (updD (entD ws) i j w)) := by
    have s1 := seq_ix (seq_ref (SG_end ms.length o3 (entD ws))) (i : Int)
    rw [at_refs hi] at s1
    have s2 := set_row (SG_row o3 (entD ws) hi) (j := j) (by simpa using hj) w
    rw [SG_set o3 (entD ws) hi hj] at s2
    simp [gS5, genv, sw, s1, s2]
  have q := SG_len ms.length o3 (updD (entD ws) i j w)
  obtain ⟨S3, a3, st6, g3⟩ : ∃ S3 a3, evS (phi tab n) gS6 (genv ms ws i j w (some (.ref (1 + ms.length))) none) (SG ms.length o3 (updD (entD ws) i j w)) = .nx (genv ms ws i j w (some (.ref (1 + ms.length))) (some (.ref a3))) S3 ∧ GI isGraphD o3 ms.length (updD (entD ws) i j w) 6 S3 a3 (gw1 ms ws) := by
    refine ⟨SG ms.length o3 (updD (entD ws) i j w) ++ [.lst [iD ms, mD ws]] ++ [.dic [.inr "1"] [.int 1]] ++ [.lst (gw1 ms ws)], 4 + ms.length, ?_, ?_⟩
    · generalize SG ms.length o3 (updD (entD ws) i j w) = S2 at *
      have a1 : S2.length + 1 = 3 + ms.length := by omega
      have a2 : S2.length + 1 + 1 = 4 + ms.length := by omega
      simp [gS6, genv, gw1, a1, q]
      omega
    · have gl1 : (SG ms.length o3 (updD (entD ws) i j w) ++ [O.lst [iD ms, mD ws]] ++ [O.dic [.inr "1"] [.int 1]] ++ [O.lst (gw1 ms ws)])[2 + ms.length]? = some (.lst [iD ms, mD ws]) := by
        rw [← q]
        exact app_get (app_get (end_get _ _))
      have gl2 : (SG ms.length o3 (updD (entD ws) i j w) ++ [O.lst [iD ms, mD ws]] ++ [O.dic [.inr "1"] [.int 1]] ++ [O.lst (gw1 ms ws)])[3 + ms.length]? = some (.dic [.inr "1"] [.int 1]) := by
        have : 3 + ms.length = (SG ms.length o3 (updD (entD ws) i j w) ++ [O.lst [iD ms, mD ws]]).length := by rw [List.length_append, q, List.length_singleton]; omega
        rw [this]
        exact app_get (end_get _ _)
      have gl3 : (SG ms.length o3 (updD (entD ws) i j w) ++ [O.lst [iD ms, mD ws]] ++ [O.dic [.inr "1"] [.int 1]] ++ [O.lst (gw1 ms ws)])[4 + ms.length]? = some (.lst (gw1 ms ws)) := by
        have : 4 + ms.length = (SG ms.length o3 (updD (entD ws) i j w) ++ [O.lst [iD ms, mD ws]] ++ [O.dic [.inr "1"] [.int 1]]).length := by rw [List.length_append, List.length_append, q, List.length_singleton, List.length_singleton]; omega
        rw [this]
        exact end_get _ _
      exact ⟨app_get (app_get (app_get rfl)), fun i hi => app_get (app_get (app_get (SG_row _ _ hi))), app_get (app_get (app_get (SG_end _ _ _))), gl3, by omega, gw1_ok h gl1 gl2⟩
  -- four more
  obtain ⟨S4, a4, e4, g4⟩ : ∃ S4 a4, evS (phi tab n) gS7 (genv ms ws i j w (some (.ref (1 + ms.length))) (some (.ref a3))) S3 = .nx (genv ms ws i j w (some (.ref (1 + ms.length))) (some (.ref a4))) S4 ∧ GI isGraphD o3 ms.length (updD (entD ws) i j w) 6 S4 a4 (gw1 ms ws ++ gw2 ms ws i j w) := by
    refine ⟨_, _, s10 (menu_add v10 g3.mn.at_ (Y := gw2 ms ws i j w) (E := []) ?_ (by show 11 + 4 ≤ 16777216; omega)), g3.add [] (gw2_ok h hi hj w1 w2)⟩
    have c3 := gc3 (n := n) (ws := ws) (i := i) (j := j) (w := w) (e10 := some (.ref a3)) h8 g3
    have c4 := gc4 (n := n) h i j w (some (.ref (1 + ms.length))) (some (.ref a3)) S3
    have ce := fun xs => cut_ends xs
    simp only [genv] at c3 c4 ⊢
    simp [c3, c4, part, slop, ce, gw2, matD]
  -- masses otherwise
  obtain ⟨S5, a5, e5, g5⟩ : ∃ S5 a5, evS (phi tab n) gS8 (genv ms ws i j w (some (.ref (1 + ms.length))) (some (.ref a4))) S4 = .nx (genv ms ws i j w (some (.ref (1 + ms.length))) (some (.ref a5))) S5 ∧ GI isGraphD o3 ms.length (updD (entD ws) i j w) 6 S5 a5 (gw1 ms ws ++ gw2 ms ws i j w ++ gw3 ms ws i) := by
    refine ⟨_, _, s10 (menu_add v10 g4.mn.at_ (Y := gw3 ms ws i) (E := []) ?_ (by show 15 + 5 ≤ 16777216; omega)), g4.add [] (gw3_ok h i)⟩
    rw [gc2 h, List.append_nil]
    rfl
  have e6 : evS (phi tab n) gS9 (genv ms ws i j w (some (.ref (1 + ms.length))) (some (.ref a5))) S5 = .nx _ _ := sapp (d := gw4 ms ws i) g5.mn.at_ (by show 20 < 16777216; omega) (by
    have hlen : ((ws.map iD).take i).length ≤ 8 := by simp; omega
    have hlen2 : ((ws.map iD).drop (i + 1)).length ≤ 8 := by simp; omega
    have c1 := cut_to (ws.map iD) i
    have c2 := cutS (ws.map iD) i
    have g := atI_map iD ws [] (i := i) (by omega)
    have hr : (ws.getD i []).length ≤ 8 := by
      have hr : ws.getD i [] ∈ ws := by
        rw [List.getD_eq_getElem?_getD, List.getElem?_eq_getElem (by omega)]
        exact List.getElem_mem _
      rw [h.g.row _ hr]; exact h8
    unfold gw4
    generalize ws.getD i [] = r at *
    generalize (ws.map iD).take i = X at *
    generalize (ws.map iD).drop (i + 1) = Y at *
    have q1 : X.length + 1 ≤ 16777216 := by omega
    have q2 : X.length + 1 + Y.length ≤ 16777216 := by omega
    have q3 : r.length + 1 ≤ 16777216 := by omega
    simp [genv, part, slop, c1, c2, binI, q1, q2, q3, g])
  have g6 := g5.push (gw4_ok h hi)
  generalize hS6 : S5.set a5 _ = S6 at e6 g6
  have e7 : evS (phi tab n) gS10 (genv ms ws i j w (some (.ref (1 + ms.length))) (some (.ref a5))) S6 = .nx _ _ := sapp (d := gw5) g6.mn.at_ (by show 21 < 16777216; omega) (by
    have m9 := fun d S => mul_one (k := 9) true d (by omega) S
    simp [genv, m9, repL_one, gw5])
  have g7 := g6.push gw5_ok
  generalize hS7 : S6.set a5 _ = S7 at e7 g7
  -- one weight more
  obtain ⟨S8, a8, f8, M8, e8, g8, l8⟩ : ∃ S8 a8 f8 M8, evS (phi tab n) gS11 (genv ms ws i j w (some (.ref (1 + ms.length))) (some (.ref a5))) S7 = .nx (genv ms ws i j w (some (.ref (1 + ms.length))) (some (.ref a8))) S8 ∧ GI isGraphD o3 ms.length f8 6 S8 a8 M8 ∧ 4 < M8.length ∧ M8.length ≤ 1000 := by
    by_cases hij : i = j
    · refine ⟨S7, a5, _, _, ?_, g7, by show 4 < 22; omega, by show 22 ≤ 1000; omega⟩
      by_cases z : (1 : Int) < (ms.length : Int)
      · simp [gS11, gSc, genv, cmpI, hij, z]
      · simp [gS11, gSc, genv, cmpI, hij, z]
    · have hij' : ¬ (i : Int) = j := by omega
      have z : (1 : Int) < (ms.length : Int) := by omega
      have cond : testR (evE (phi tab n) gSc (genv ms ws i j w (some (.ref (1 + ms.length))) (some (.ref a5))) S7) = .ok true S7 := by simp [gSc, genv, cmpI, hij', z]
      have x1 := atI_map iD ws [] (i := i) (by omega)
      have hr : ws.getD i [] ∈ ws := by
        rw [List.getD_eq_getElem?_getD, List.getElem?_eq_getElem (by omega)]
        exact List.getElem_mem _
      have x2 := atI_map D.int (ws.getD i []) 0 (i := j) (by rw [h.g.row _ hr]; exact hj)
      have x3 : (ws.getD i []).getD j 0 = ent ws i j := rfl
      rw [x3] at x2
      have y1 := seq_ix (seq_ref g7.en) (i : Int)
      rw [at_refs hi] at y1
      have y2 := set_row (g7.row i hi) (j := j) (by simpa using hj) (.int (ent ws i j + 1))
      have sA : evS (phi tab n) gS11_0 (genv ms ws i j w (some (.ref (1 + ms.length))) (some (.ref a5))) S7 = .nx (genv ms ws i j w (some (.ref (1 + ms.length))) (some (.ref a5))) (S7.set (1 + i) (.lst (((List.range ms.length).map fun b => updD (entD ws) i j w i b).set j (.int (ent ws i j + 1))))) := by
        generalize ws.getD i [] = r at *
        generalize ent ws i j = v at *
        simp [gS11_0, genv, x1, x2, binI, y1, y2]
      have g8 := g7.upd hi hj (.int (ent ws i j + 1))
      rw [updD_upd] at g8
      generalize S7.set (1 + i) _ = S7' at sA g8
      have c1 := gc3 (n := n) (ws := ws) (i := i) (j := j) (w := w) (e10 := some (.ref a5)) h8 g8
      have rep : ∀ x : D, repL [x] 4 = List.replicate 4 x := fun x => repL_one x 4
      have sB : evS (phi tab n) gS11_1 (genv ms ws i j w (some (.ref (1 + ms.length))) (some (.ref a5))) S7' = .nx (genv ms ws i j w (some (.ref (1 + ms.length))) (some (.ref _))) _ := s10 (menu_add v10 g8.mn.at_ (Y := List.replicate 4 (gw6 ms ws i j)) (E := [.lst [gw6 ms ws i j]]) (by
        have c1 : evE (phi tab n) c1__law_bad_graph (genv ms ws i j w (some (.ref (1 + ms.length))) (some (.ref a5))) S7' = _ := c1
        have m4 := mul_ref (S := S7' ++ [.lst [gw6 ms ws i j]]) (a := S7'.length) (k := 4) (x := gw6 ms ws i j) (end_get _ _) (by omega)
        simp only [genv] at c1 ⊢
        simp [c1]
        refine (show _ = _ from m4).trans ?_
        simp) (by show 22 + 4 ≤ 16777216; omega))
      have g9 := g8.add [.lst [gw6 ms ws i j]] (Y := List.replicate 4 (gw6 ms ws i j)) (fun y hy => by rw [(List.mem_replicate.mp hy).2]; exact gw6_ok h hi hj hij)
      refine ⟨_, _, _, _, ?_, g9, by show 4 < 26; omega, by show 26 ≤ 1000; omega⟩
      unfold gS11
      rw [s_ife, cond, stm_ok, if_pos rfl]
      exact (ss_step sA).trans ((ss_step sB).trans (ss_nil _ _ _))
  obtain ⟨q, hq, o9, ep, hb9⟩ := pick_ok tTake tf_law_pick (n := n) (by omega) g8.box hb3 (by omega) (items := .ref a8) (xs := M8) (seq_ref g8.mn.at_) (by
    intro e
    have e := D.ref.inj e
    have := g8.mn.lo_
    omega) (by omega) (by omega)
  have okx := ((g8.mn.ok _ (List.getElem_mem hq)).1).set (q := 0) (by omega) o9
  generalize M8[q] = x at *
  obtain ⟨d, S', e, hbo⟩ := bad_end (S := S) (r := r) (S8 := S8.set 0 o9) (o9 := o9) (by simp [(List.getElem?_eq_some_iff.mp g8.box).1]) (hb9.mono (c' := c + 4) (by omega)) (okx.low (lo' := 1) (by omega))
  refine ⟨d, S', ?_, hbo⟩
  refine Eq.trans ?_ e
  congr 1
  have st12 : evS (phi tab n) gS12 (genv ms ws i j w (some (.ref (1 + ms.length))) (some (.ref a8))) S8 = .rt x (S8.set 0 o9) := by simp [gS12, genv, ep]
  have run : evSs (phi tab n) bf_law_bad_graph (startE 12 (List.map sub0 [D.ref r, gD ms ws])) [o] = .rt x (S8.set 0 o9) := by
    rw [gSB]
    refine (ss_step st0).trans ((ss_step st1).trans ((ss_step st2).trans ((ss_step st3).trans ((ss_step st4).trans ((ss_step st5).trans ((ss_step st6).trans ((ss_step e4).trans ((ss_step e5).trans ((ss_step e6).trans ((ss_step e7).trans ((ss_step e8).trans ?_)))))))))))
    rw [ss_cons, st12]
    rfl
  rw [run]
  rfl
end
end Lk74
namespace Lk74
open PySem Mp
def rS0 : Mp.S := (.asg (.n 5) (.call "_law_copy" (.cons (.call "_law_bad_graph" (.cons (.v 0) (.cons (.v 1) .nil)) [] .nil) .nil) [] .nil))
def rS1 : Mp.S := (.asg (.n 6) (.call "_law_met" (.cons (.lst true (.cons (.v 5) (.cons (.call "_law_pick" (.cons (.v 0) (.cons (.lst true (.cons (.v 2) (.cons (.k .non) (.cons (.tup .nil) .nil)))) .nil)) [] .nil) (.cons (.call "_law_pick" (.cons (.v 0) (.cons (.lst true (.cons (.k (.int 1)) (.cons (.k (.int 0)) (.cons (.k .non) .nil)))) .nil)) [] .nil) .nil)))) (.cons (.v 3) .nil)) [] .nil))
def rS2 : Mp.S := (.ife (.bor (.cons (.cmp .NotEq (.ix (.v 6) (.k (.int 0))) (.k (.str "graph"))) (.cons (.bnot (.call "_law_very" (.cons (.ix (.v 6) (.k (.int 1))) (.cons (.v 5) .nil)) [] .nil)) .nil))) (.cons (.ret (.k (.bl false))) .nil) .nil)
def rS3 : Mp.S := (.asg (.n 5) (.call "_law_copy" (.cons (.call "_law_bad_ray" (.cons (.v 0) (.cons (.v 2) .nil)) [] .nil) .nil) [] .nil))
def rS4 : Mp.S := (.asg (.n 6) (.call "_law_met" (.cons (.lst true (.cons (.v 1) (.cons (.v 5) (.cons (.call "_law_pick" (.cons (.v 0) (.cons (.lst true (.cons (.k (.int 1)) (.cons (.k (.int 0)) (.cons (.k .non) .nil)))) .nil)) [] .nil) .nil)))) (.cons (.bnot (.v 3)) .nil)) [] .nil))
def rS5 : Mp.S := (.ife (.bor (.cons (.cmp .NotEq (.ix (.v 6) (.k (.int 0))) (.k (.str "ray"))) (.cons (.bnot (.call "_law_very" (.cons (.ix (.v 6) (.k (.int 1))) (.cons (.v 5) .nil)) [] .nil)) .nil))) (.cons (.ret (.k (.bl false))) .nil) .nil)
def rS6 : Mp.S := (.asg (.n 5) (.call "_law_copy" (.cons (.call "_law_pick" (.cons (.v 0) (.cons (.lst true (.cons (.k (.int 0)) (.cons (.k (.int 17)) (.cons (.neg (.k (.int 1))) (.cons (.k (.bl true)) (.cons (.k (.bl false)) (.cons (.k .non) (.cons (.k (.str "1")) (.cons (.tup (.cons (.k (.int 1)) .nil)) (.cons (.lst true (.cons (.k (.int 1)) .nil)) (.cons (.bin .Pow true (.k (.int 10)) (.k (.int 39))) (.cons (.dic true [.inr "1"] (.cons (.k (.int 1)) .nil)) .nil)))))))))))) .nil)) [] .nil) .nil) [] .nil))
def rS7 : Mp.S := (.asg (.n 6) (.call "_law_met" (.cons (.lst true (.cons (.v 1) (.cons (.v 2) (.cons (.v 5) .nil)))) (.cons (.v 3) .nil)) [] .nil))
def rS8 : Mp.S := (.ife (.bor (.cons (.cmp .NotEq (.ix (.v 6) (.k (.int 0))) (.k (.str "number"))) (.cons (.bnot (.call "_law_very" (.cons (.ix (.v 6) (.k (.int 1))) (.cons (.v 5) .nil)) [] .nil)) .nil))) (.cons (.ret (.k (.bl false))) .nil) .nil)
def rS9 : Mp.S := (.asg (.n 3) (.bnot (.v 3)))
theorem rSB : l1__law_refused_right = .cons rS0 (.cons rS1 (.cons rS2 (.cons rS3 (.cons rS4 (.cons rS5 (.cons rS6 (.cons rS7 (.cons rS8 (.cons rS9 (.nil)))))))))) := rfl
section
variable {n : Nat} {S : Store} {ms r : List Int} {ws : List (List Int)}
theorem hPG : ∀ d, isGraphD d = true → d.pure = true := fun d h => by
  obtain ⟨ms, ws, rfl, _⟩ := graph_iff.mp h
  exact gD_pure ms ws
theorem hPR (m : Nat) : ∀ d, fitsD m d = true → d.pure = true := fun d h => by
  obtain ⟨l, rfl, _⟩ := fits_iff.mp h
  exact iD_pure l
theorem hPN : ∀ d, inD 1 16 d = true → d.pure = true := fun d h => by cases d <;> first | rfl | cases h
def nums : List D := [.int 0, .int 17, .int (-1), .bl true, .bl false, .non, .str "1", .tup [.int 1], .lst [.int 1], .int (10 ^ 39), .dic [.inr "1"] [.int 1]]
theorem nums_ok : ∀ b ∈ nums, gv 6 b = true ∧ inD 1 16 b = false := by
  have s1 : shp (.str "1") = true := by decide +kernel
  have g1 : gF (.int 1) = true := gv_small (k := 0) (by decide)
  have q1 : gv 5 (.int 1) = true := gv_small (by decide)
  intro b hb
  simp only [nums, List.mem_cons, List.not_mem_nil, or_false] at hb
  rcases hb with rfl | rfl | rfl | rfl | rfl | rfl | rfl | rfl | rfl | rfl | rfl
  · exact ⟨gv_small (by decide), by decide⟩
  · exact ⟨gv_small (by decide), by decide⟩
  · exact ⟨gv_small (by decide), by decide⟩
  · exact ⟨rfl, rfl⟩
  · exact ⟨rfl, rfl⟩
  · exact ⟨rfl, rfl⟩
  · exact ⟨s1, rfl⟩
  · exact ⟨gv_tup (by simp) (fun x hx => by rw [List.mem_singleton.mp hx]; exact q1), rfl⟩
  · exact ⟨gv_lst (by simp) (fun x hx => by rw [List.mem_singleton.mp hx]; exact q1), rfl⟩
  · exact ⟨gv_i (bd_mono (a := 200) (by decide) (by omega)), by decide⟩
  · refine ⟨?_, rfl⟩
    show (decide (0 < 5) && ((decide (1 ≤ 1000) && decide (1 = 1)) && (decide ([Sum.inr (Str.ofString "1")] : List Key).Nodup && (gF (.int 1) && true)))) = true
    rw [g1]
    simp
def renv2 (ms : List Int) (ws : List (List Int)) (r : List Int) (y : Bool) (e4 e5 e6 : Option D) : Mp.Env := [some (.ref 0), some (gD ms ws), some (iD r), some (.bl y), e4, e5, e6]
theorem shG : shp (.str "graph") = true := by decide +kernel
theorem shR : shp (.str "ray") = true := by decide +kernel
theorem shN : shp (.str "number") = true := by decide +kernel
/-- a graph that is none is told -/
theorem ref_graph (hn : 11 ≤ n) (h : GR ms ws r) {o : O} {c : Int} (hS : S[0]? = some o) (hb : BoxOk c o) (hc : c ≤ 100000) (y : Bool) (e4 e5 e6 : Option D) :
    ∃ b t S' o', evSs (phi tab n) (.cons rS0 (.cons rS1 (.cons rS2 .nil))) (renv2 ms ws r y e4 e5 e6) S = .nx (renv2 ms ws r y e4 b t) S' ∧ S'[0]? = some o' ∧ BoxOk (c + 6) o' := by
  have hlt := (List.getElem?_eq_some_iff.mp hS).1
  obtain ⟨d, S1, e1, hbo⟩ := bad_graph_ok (n := n) (by omega) hS hb (by omega) ⟨h.g, h.bm, h.bw⟩
  obtain ⟨nd, cc, E, o1, e2, g0, hb1, hl, cp⟩ := bad_copied tf_law_copy hPG (n := n) (by omega) (by omega) hlt hbo
  have lo0 : 0 < S1.length := by omega
  generalize S1 ++ E = S2 at *
  obtain ⟨q1, hq1, o2, ep1, hb2⟩ := pick_ok tTake tf_law_pick (n := n) (by omega) g0 hb1 (by omega) (items := .lst [iD r, .non, .tup []]) (xs := [iD r, .non, .tup []]) rfl (by intro e; cases e) (by simp) (by simp)
  have l2 := (List.getElem?_eq_some_iff.mp g0).1
  obtain ⟨q2, hq2, o3, ep2, hb3⟩ := pick_ok tTake tf_law_pick (n := n) (by omega) (set_back (o := o2) (o' := o1) l2) hb2 (by omega) (items := .lst [.int 1, .int 0, .non]) (xs := [.int 1, .int 0, .non]) rfl (by intro e; cases e) (by simp) (by simp)
  rw [List.set_set] at ep2
  have x1 : noexc [iD r, D.non, .tup []][q1] = true := by
    have : q1 = 0 ∨ q1 = 1 ∨ q1 = 2 := by simp at hq1; omega
    rcases this with rfl | rfl | rfl <;> rfl
  have x2 : noexc [D.int 1, .int 0, .non][q2] = true := by
    have : q2 = 0 ∨ q2 = 1 ∨ q2 = 2 := by simp at hq2; omega
    rcases this with rfl | rfl | rfl <;> rfl
  generalize [iD r, D.non, .tup []][q1] = X1 at *
  generalize [D.int 1, .int 0, .non][q2] = X2 at *
  have cp := cp.set (q := 0) (by omega) o3
  have g3 := set_back (o := o3) (o' := o1) l2
  obtain ⟨n, rfl⟩ : ∃ m, n = m + 1 := ⟨n - 1, by omega⟩
  have em := met_graph (moments_noG (n := n) (S := S2.set 0 o3) (by omega) cp.v cp.no x1 x2) y
  obtain ⟨S4, e4', _, k4⟩ := chk_ok tf_law_same tf_law_very (n := n + 1) (a := 6) (b := 5) (by omega) (by omega) cp (by omega) shG (ρ := renv2 ms ws r y e4 (some cc) (some (.lst [.str "graph", cc]))) rfl rfl
  refine ⟨some cc, some (.lst [.str "graph", cc]), S4, o3, ?_, by rw [k4 0 (by omega), g3], hb3.mono (by omega)⟩
  have sc := slotR_some cp.ne
  have sd := slotR_some nd
  refine (ss_step (ρ' := renv2 ms ws r y e4 (some cc) e6) (S' := S2) (by simp [rS0, renv2, e1, e2])).trans ?_
  refine (ss_step (ρ' := renv2 ms ws r y e4 (some cc) (some (.lst [.str "graph", cc]))) (S' := S2.set 0 o3) (by simp [rS1, renv2, sc, ep1, ep2, em])).trans ?_
  exact (ss_step e4').trans (ss_nil _ _ _)
/-- a ray that is none is told -/
theorem ref_ray (hn : 11 ≤ n) (h : GR ms ws r) {o : O} {c : Int} (hS : S[0]? = some o) (hb : BoxOk c o) (hc : c ≤ 100000) (y : Bool) (e4 e5 e6 : Option D) :
    ∃ b t S' o', evSs (phi tab n) (.cons rS3 (.cons rS4 (.cons rS5 .nil))) (renv2 ms ws r y e4 e5 e6) S = .nx (renv2 ms ws r y e4 b t) S' ∧ S'[0]? = some o' ∧ BoxOk (c + 4) o' := by
  have hlt := (List.getElem?_eq_some_iff.mp hS).1
  obtain ⟨d, S1, e1, hbo⟩ := bad_ray_ok (n := n) (by omega) hS hb (by omega) h.ray h.br
  obtain ⟨nd, cc, E, o1, e2, g0, hb1, hl, cp⟩ := bad_copied tf_law_copy (hPR _) (n := n) (by omega) (by omega) hlt hbo
  have lo0 : 0 < S1.length := by omega
  generalize S1 ++ E = S2 at *
  have l2 := (List.getElem?_eq_some_iff.mp g0).1
  obtain ⟨q2, hq2, o3, ep2, hb3⟩ := pick_ok tTake tf_law_pick (n := n) (by omega) g0 hb1 (by omega) (items := .lst [.int 1, .int 0, .non]) (xs := [.int 1, .int 0, .non]) rfl (by intro e; cases e) (by simp) (by simp)
  have x2 : noexc [D.int 1, .int 0, .non][q2] = true := by
    have : q2 = 0 ∨ q2 = 1 ∨ q2 = 2 := by simp at hq2; omega
    rcases this with rfl | rfl | rfl <;> rfl
  generalize [D.int 1, .int 0, .non][q2] = X2 at *
  have cp := cp.set (q := 0) (by omega) o3
  have g3 := set_back (o := o3) (o' := o1) l2
  obtain ⟨n, rfl⟩ : ∃ m, n = m + 1 := ⟨n - 1, by omega⟩
  have hno := cp.no
  rw [h.len] at hno
  have em := met_ray (moments_noR (n := n) (S := S2.set 0 o3) (by omega) h.g h.bm h.bw cp.v hno x2) (!y)
  obtain ⟨S4, e4', _, k4⟩ := chk_ok tf_law_same tf_law_very (n := n + 1) (a := 6) (b := 5) (by omega) (by omega) cp (by omega) shR (ρ := renv2 ms ws r y e4 (some cc) (some (.lst [.str "ray", cc]))) rfl rfl
  refine ⟨some cc, some (.lst [.str "ray", cc]), S4, o3, ?_, by rw [k4 0 (by omega), g3], hb3.mono (by omega)⟩
  have sc := slotR_some cp.ne
  have sd := slotR_some nd
  refine (ss_step (ρ' := renv2 ms ws r y e4 (some cc) e6) (S' := S2) (by simp [rS3, renv2, e1, e2])).trans ?_
  refine (ss_step (ρ' := renv2 ms ws r y e4 (some cc) (some (.lst [.str "ray", cc]))) (S' := S2.set 0 o3) (by simp [rS4, renv2, sc, ep2, em])).trans ?_
  exact (ss_step e4').trans (ss_nil _ _ _)
/-- a number that is none is told -/
theorem ref_number (hn : 11 ≤ n) (h : GR ms ws r) {o : O} {c : Int} (hS : S[0]? = some o) (hb : BoxOk c o) (hc : c ≤ 100000) (y : Bool) (e4 e5 e6 : Option D) :
    ∃ b t S' o', evSs (phi tab n) (.cons rS6 (.cons rS7 (.cons rS8 .nil))) (renv2 ms ws r y e4 e5 e6) S = .nx (renv2 ms ws r y e4 b t) S' ∧ S'[0]? = some o' ∧ BoxOk (c + 4) o' := by
  have hlt := (List.getElem?_eq_some_iff.mp hS).1
  obtain ⟨q1, hq1, o1, ep1, hb1⟩ := pick_ok tTake tf_law_pick (n := n) (by omega) hS hb (by omega) (items := .lst nums) (xs := nums) rfl (by intro e; cases e) (by simp [nums]) (by simp [nums])
  obtain ⟨a1, a2⟩ := nums_ok _ (List.getElem_mem hq1)
  generalize nums[q1] = d at *
  have nd := gv_noexc a1
  obtain ⟨cc, E, e2, cp⟩ := gv_copied tf_law_copy hPN (n := n) (by omega) (by omega) (S.set 0 o1) a1 a2
  have g3 : (S.set 0 o1 ++ E)[0]? = some o1 := app_get (set_back (o' := o1) hlt)
  have lo0 : 0 < (S.set 0 o1).length := by rw [List.length_set]; exact hlt
  generalize (S.set 0 o1).length = lo at *
  generalize hS2 : S.set 0 o1 ++ E = S2 at *
  obtain ⟨n, rfl⟩ : ∃ m, n = m + 1 := ⟨n - 1, by omega⟩
  have em := met_number (moments_noN (n := n) (S := S2) (by omega) h cp.v cp.no) y
  obtain ⟨S4, e4', _, k4⟩ := chk_ok tf_law_same tf_law_very (n := n + 1) (a := 6) (b := 5) (by omega) (by omega) cp (by omega) shN (ρ := renv2 ms ws r y e4 (some cc) (some (.lst [.str "number", cc]))) rfl rfl
  refine ⟨some cc, some (.lst [.str "number", cc]), S4, o1, ?_, by rw [k4 0 (by omega), g3], hb1.mono (by omega)⟩
  have sc := slotR_some cp.ne
  have sd := slotR_some nd
  have pw : powOk 10 39 = true := by decide
  unfold nums at ep1
  refine (ss_step (ρ' := renv2 ms ws r y e4 (some cc) e6) (S' := S2) (by simp [rS6, renv2, binI, pw, ep1, e2, -Int.reducePow])).trans ?_
  refine (ss_step (ρ' := renv2 ms ws r y e4 (some cc) (some (.lst [.str "number", cc]))) (S' := S2) (by simp [rS7, renv2, sc, em])).trans ?_
  exact (ss_step e4').trans (ss_nil _ _ _)
end
end Lk74
namespace Lk74
open PySem Mp
def wS0 : Mp.S := (.asg (.n 2) (.call "_law_box" (.cons (.call "_law_cell" (.cons (.v 0) (.cons (.v 1) .nil)) [] .nil) .nil) [] .nil))
def wS1 : Mp.S := (.asg (.t (.cons (.n 3) (.cons (.n 4) .nil))) (.tup (.cons (.cmp .Eq (.call "_law_take" (.cons (.v 2) (.cons (.k (.int 2)) .nil)) [] .nil) (.k (.int 0))) (.cons (.call "_law_some_graph" (.cons (.v 2) .nil) [] .nil) .nil))))
def wS2 : Mp.S := (.asg (.n 5) (.blt .len true (.cons (.ix (.v 4) (.k (.int 0))) .nil)))
def wS3 : Mp.S := (.asg (.n 6) (.call "_law_take" (.cons (.v 2) (.cons (.v 5) .nil)) [] .nil))
def wS4 : Mp.S := (.each (.n 7) (.e (.lst true (.cons (.call "_law_drawn_ray" (.cons (.v 2) (.cons (.v 5) (.cons (.k (.int 9)) .nil))) [] .nil) (.cons (.blt .tuple true (.cons c1_law .nil)) (.cons (.call "_law_drawn_ray" (.cons (.v 2) (.cons (.v 5) (.cons (.bin .Pow true (.k (.int 10)) (.k (.int 12))) .nil))) [] .nil) .nil))))) l1_law)
def wS5 : Mp.S := (.ife (.bnot (.call "_law_refused_right" (.cons (.v 2) (.cons (.v 4) (.cons (.call "_law_drawn_ray" (.cons (.v 2) (.cons (.v 5) (.cons (.k (.int 5)) .nil))) [] .nil) (.cons (.v 3) .nil)))) [] .nil)) (.cons (.ret (.k (.bl false))) .nil) .nil)
theorem wSB : l2_law = .cons wS0 (.cons wS1 (.cons wS2 (.cons wS3 (.cons wS4 (.cons wS5 (.nil)))))) := rfl
theorem nx_of {r : F} {f : Mp.Env → Store → F} {ρ' : Mp.Env} {S' : Store} (h : r.next f = .nx ρ' S') : ∃ ρ S, r = .nx ρ S ∧ f ρ S = .nx ρ' S' := by
  cases r with
  | nx ρ S => exact ⟨ρ, S, rfl, h⟩
  | _ => cases h
theorem ss_app {Φ : Phi} {a b c : Mp.S} {ss : Mp.Ss} {ρ ρ' : Mp.Env} {S S' : Store} (h : evSs Φ (.cons a (.cons b (.cons c .nil))) ρ S = .nx ρ' S') : evSs Φ (.cons a (.cons b (.cons c ss))) ρ S = evSs Φ ss ρ' S' := by
  rw [ss_cons] at h
  obtain ⟨ρ1, S1, h1, h⟩ := nx_of h
  rw [ss_cons] at h
  obtain ⟨ρ2, S2, h2, h⟩ := nx_of h
  rw [ss_cons] at h
  obtain ⟨ρ3, S3, h3, h⟩ := nx_of h
  rw [ss_nil] at h
  cases h
  exact (ss_step h1).trans ((ss_step h2).trans (ss_step h3))
section
variable {n : Nat} {S : Store} {ms r : List Int} {ws : List (List Int)}
theorem refused_turn (hn : 11 ≤ n) (h : GR ms ws r) {o : O} {c : Int} (hS : S[0]? = some o) (hb : BoxOk c o) (hc : c ≤ 90000) (y : Bool) (e4 e5 e6 : Option D) :
    ∃ b t S' o', evSs (phi tab n) l1__law_refused_right (renv2 ms ws r y e4 e5 e6) S = .nx (renv2 ms ws r (!y) e4 b t) S' ∧ S'[0]? = some o' ∧ BoxOk (c + 14) o' := by
  obtain ⟨b1, t1, S1, o1, e1, g1, hb1⟩ := ref_graph hn h hS hb (by omega) y e4 e5 e6
  obtain ⟨b2, t2, S2, o2, e2, g2, hb2⟩ := ref_ray hn h g1 hb1 (by omega) y e4 b1 t1
  obtain ⟨b3, t3, S3, o3, e3, g3, hb3⟩ := ref_number hn h g2 hb2 (by omega) y e4 b2 t2
  refine ⟨b3, t3, S3, o3, ?_, g3, hb3.mono (by omega)⟩
  rw [rSB, ss_app e1, ss_app e2, ss_app e3]
  simp [rS9, renv2]
theorem refused_ok (hn : 12 ≤ n) {q : Nat} {o : O} {c : Int} (hS : S[q]? = some o) (hb : BoxOk c o) (hc : c ≤ 80000) (h : GR ms ws r) (y : Bool) :
    ∃ o', phi tab n "_law_refused_right" [.ref q, gD ms ws, iD r, .bl y] [] [] S = .ok (.bl true) (S.set q o') ∧ BoxOk (c + 28) o' := by
  obtain ⟨n, rfl⟩ : ∃ m, n = m + 1 := ⟨n - 1, by omega⟩
  rw [phi_own1 tf_law_refused_right rfl (r := q) (by
    simp only [List.all_cons, List.all_nil, Bool.and_true, Bool.and_eq_true]
    exact ⟨rfl, gD_pure ms ws, iD_pure r, rfl⟩) rfl hS hb.pure]
  obtain ⟨ρ1, S1, e1, y1, e4, e5, e6, o1, rfl, h1, hb1⟩ := eachF_inv (f := fun x ρ S => evSs (phi tab n) l1__law_refused_right (ρ.set 4 (some x)) S)
    (fun i ρ S => ∃ y e4 e5 e6 o', ρ = renv2 ms ws r y e4 e5 e6 ∧ S[0]? = some o' ∧ BoxOk (c + 14 * i) o') (xs := rngL 0 2)
    (fun i hi ρ S hI => by
      obtain ⟨y, e4, e5, e6, o', rfl, h0, hb'⟩ := hI
      rw [rngL_sz] at hi
      obtain ⟨b, t, S', o2, e, h2, hb2⟩ := refused_turn (n := n) (by omega) h h0 hb' (by omega) y (some (rngL 0 2)[i]) e5 e6
      exact ⟨_, S', .inl e, !y, _, b, t, o2, rfl, h2, hb2.mono (by omega)⟩) (ρ := renv2 ms ws r y none none none) (S := [o]) ⟨y, none, none, none, o, rfl, rfl, by simpa using hb⟩
  rw [rngL_sz] at hb1
  refine ⟨o1, ?_, hb1.mono (by omega)⟩
  have hp1 : put1 S q S1 = some (S.set q o1) := own_end h1 hb1
  have r2 : rngOf [.int 2] = some (rngL 0 2) := rng_of (n := 2) (by decide)
  have run : evSs (phi tab n) bf_law_refused_right (startE 7 (List.map sub0 [D.ref q, gD ms ws, iD r, .bl y])) [o] = .rt (.bl true) S1 := by
    refine (ss_step (each_rng (ρ := renv2 ms ws r y none none none) (x := 2) (by simp) r2 e1)).trans (by simp)
  rw [run]
  unfold backR
  rw [fret_rt]
  dsimp only
  rw [hp1]
  exact back_pure _ _ _ rfl _
def lenv (ns : List Int) (k : Nat) (q : Nat) (y : Bool) (ms : List Int) (ws : List (List Int)) (a : Nat) (e7 : Option D) : Mp.Env := [some (.lst (ns.map .int)), some (.int (k : Int)), some (.ref q), some (.bl y), some (gD ms ws), some (.int (ms.length : Int)), some (.int (a : Int)), e7]
theorem right_turn2 (hn : 10 ≤ n) {q : Nat} {o : O} {c : Int} (hS : S[q]? = some o) (hb : BoxOk c o) (hc : c ≤ 10000) (h : GR ms ws r) {ns : List Int} {k a : Nat} (y : Bool) :
    ∃ S' o', evSs (phi tab n) l1_law (lenv ns k q y ms ws a (some (iD r))) S = .nx (lenv ns k q (!y) ms ws a (some (iD r))) S' ∧ S'[q]? = some o' ∧ BoxOk (c + 2) o' := by
  have hlt := (List.getElem?_eq_some_iff.mp hS).1
  obtain ⟨o', T, e, hb'⟩ := right_ok hn h hS hb (by omega) y
  refine ⟨S.set q o' ++ T, o', ?_, app_get (set_back (o' := o) hlt), hb'⟩
  simp [l1_law, lenv, e]
/-- one turn of the law -/
theorem law_turn (hn : 13 ≤ n) {ns : List Int} {k : Nat} (hk : k < 3) (e2 e3 e4 e5 e6 e7 : Option D) : ∃ f2 f3 f4 f5 f6 f7 S', evSs (phi tab n) l2_law [some (.lst (ns.map .int)), some (.int (k : Int)), e2, e3, e4, e5, e6, e7] S = .nx [some (.lst (ns.map .int)), some (.int (k : Int)), f2, f3, f4, f5, f6, f7] S' := by
  obtain ⟨v, ec⟩ := cell_ok (c := 7451) (m := 1000033) (by decide) (by decide) tf_law_cell (n := n) (by omega) ns (k := k) (by omega) S
  obtain ⟨o, eb, hb⟩ := box_ok tf_law_box (n := n) (by omega) v S
  obtain ⟨d, o1, et, d0, d1, hb1⟩ := take_ok tTake (n := n) (by omega) (end_get S o) hb (by omega) (many := 2) (by omega) (by omega)
  rw [set_last] at et
  obtain ⟨ms, ws, o2, eg, hg, hb2⟩ := some_graph_ok (n := n) (by omega) (end_get S o1) hb1 (by omega)
  rw [set_last] at eg
  have g8 := hg.g.most
  have g1 := hg.g.pos
  obtain ⟨a, o3, ea, a0, a1, hb3⟩ := take_ok tTake (n := n) (by omega) (end_get S o2) hb2 (by omega) (many := (ms.length : Int)) (by omega) (by omega)
  rw [set_last] at ea
  obtain ⟨a, rfl⟩ := Int.eq_ofNat_of_zero_le a0
  obtain ⟨r1, o4, er1, hr1, l1, b1, hb4⟩ := drawn_ray_ok (n := n) (by omega) (end_get S o3) hb3 (by omega) (m := ms.length) (w := 9) (by omega) (by omega) (by omega) (by omega)
  rw [set_last] at er1
  rw [show ((9 : Nat) : Int) = 9 from rfl] at er1
  obtain ⟨r3, o5, er3, hr3, l3, b3, hb5⟩ := drawn_ray_ok (n := n) (by omega) (end_get S o4) hb4 (by omega) (m := ms.length) (w := 1000000000000) (by omega) (by omega) (by omega) (by omega)
  rw [set_last] at er3
  rw [show ((1000000000000 : Nat) : Int) = 1000000000000 from rfl] at er3
  obtain ⟨hu, lu, bu⟩ := unit_ok g8 (show a < ms.length by omega)
  have up : ∀ {r : List Int}, (∀ x ∈ r, x.natAbs < 2 ^ 60) → ∀ x ∈ r, x.natAbs < 2 ^ 200 := fun h x hx => bd_mono (h x hx) (by omega)
  have G1 : GR ms ws r1 := ⟨hg.g, hr1, l1, hg.bm, hg.bw, up b1⟩
  have G2 : GR ms ws (unitL ms.length a) := ⟨hg.g, hu, lu, hg.bm, hg.bw, bu⟩
  have G3 : GR ms ws r3 := ⟨hg.g, hr3, l3, hg.bm, hg.bw, up b3⟩
  have all : ∀ r ∈ [r1, unitL ms.length a, r3], GR ms ws r := by
    intro r hr
    simp only [List.mem_cons, List.not_mem_nil, or_false] at hr
    rcases hr with rfl | rfl | rfl
    · exact G1
    · exact G2
    · exact G3
  have uc := fun x0 x2 x3 x4 x7 S => unit_comp (n := n) (S := S) (m := ms.length) (a := a) (x1 := .int (k : Int)) g8 x0 x2 x3 x4 x7
  obtain ⟨ρ', S', e, y, e7', o6, rfl, h6, hb6⟩ := eachF_inv (f := fun x ρ S => evSs (phi tab n) l1_law (ρ.set 7 (some x)) S)
    (fun i ρ S' => ∃ y e7 o', ρ = lenv ns k S.length y ms ws a e7 ∧ S'[S.length]? = some o' ∧ BoxOk (2000 + 2 * i) o') (xs := [r1, unitL ms.length a, r3].map iD)
    (fun i hi ρ S' hI => by
      obtain ⟨y, e7, o', rfl, h0, hb'⟩ := hI
      rw [List.length_map] at hi
      rw [List.getElem_map]
      have hr := all _ (List.getElem_mem hi)
      have hi3 : i < 3 := hi
      obtain ⟨S2, o2, e, h2, hb2⟩ := right_turn2 (n := n) (by omega) h0 hb' (by omega) hr (ns := ns) (k := k) (a := a) y
      exact ⟨_, _, .inl e, !y, _, o2, rfl, h2, hb2.mono (by omega)⟩)
    (ρ := lenv ns k S.length (decide (d = 0)) ms ws a e7) (S := S ++ [o5]) ⟨_, _, o5, rfl, end_get _ _, hb5.mono (by omega)⟩
  have hlt := (List.getElem?_eq_some_iff.mp h6).1
  obtain ⟨r4, o7, er4, hr4, l4, b4, hb7⟩ := drawn_ray_ok (n := n) (by omega) h6 (hb6.mono (c' := 3000) (by simp)) (by omega) (m := ms.length) (w := 5) (by omega) (by omega) (by omega) (by omega)
  rw [show ((5 : Nat) : Int) = 5 from rfl] at er4
  obtain ⟨o8, ef, hb8⟩ := refused_ok (n := n) (by omega) (set_back (o := o7) (o' := o6) hlt) hb7 (by omega) ⟨hg.g, hr4, l4, hg.bm, hg.bw, up b4⟩ y
  refine ⟨some (.ref S.length), some (.bl y), some (gD ms ws), some (.int (ms.length : Int)), some (.int (a : Int)), e7', (S'.set S.length o7).set S.length o8, ?_⟩
  have bm := fun S => blt_len (S := S) (d := iD ms) (k := ms.length) (by show some _ = _; rw [List.length_map])
  rw [wSB]
  refine (ss_step (ρ' := [some (.lst (ns.map .int)), some (.int (k : Int)), some (.ref S.length), e3, e4, e5, e6, e7]) (S' := S ++ [o]) (by simp [wS0, ec, eb])).trans ?_
  refine (ss_step (ρ' := [some (.lst (ns.map .int)), some (.int (k : Int)), some (.ref S.length), some (.bl (decide (d = 0))), some (gD ms ws), e5, e6, e7]) (S' := S ++ [o2]) (by simp [wS1, et, cmpI, eg])).trans ?_
  refine (ss_step (ρ' := [some (.lst (ns.map .int)), some (.int (k : Int)), some (.ref S.length), some (.bl (decide (d = 0))), some (gD ms ws), some (.int (ms.length : Int)), e6, e7]) (S' := S ++ [o2]) (by simp [wS2, at0, bm])).trans ?_
  refine (ss_step (ρ' := lenv ns k S.length (decide (d = 0)) ms ws a e7) (S' := S ++ [o3]) (by simp [wS3, ea, lenv])).trans ?_
  refine (ss_step (ρ' := lenv ns k S.length y ms ws a e7') (S' := S') (each_items (d := .lst ([r1, unitL ms.length a, r3].map iD)) (S1 := S ++ [o5]) ?_ rfl e)).trans ?_
  · have pw : powOk 10 12 = true := by decide
    simp only [lenv]
    simp [er1, uc, binI, pw, er3]
  · refine (ss_step (ρ' := lenv ns k S.length y ms ws a e7') (S' := (S'.set S.length o7).set S.length o8) ?_).trans (ss_nil _ _ _)
    simp [wS5, lenv, er4, ef]
theorem law_ok (hn : 15 ≤ n) {ns : List Int} (hl : ns.length ≤ 63) : phi tab n "law" [.lst (ns.map .int)] [] [] S = .ok (.bl true) S := by
  obtain ⟨n, rfl⟩ : ∃ m, n = m + 1 := ⟨n - 1, by omega⟩
  rw [phi_own0 tlaw rfl (by
    simp only [List.all_cons, List.all_nil, Bool.and_true]
    exact pure_ints ns)]
  obtain ⟨q, hq, q3⟩ : ∃ q : Nat, (if (if (ns.length : Int) < 3 then (ns.length : Int) else 3) > 2 then (if (ns.length : Int) < 3 then (ns.length : Int) else 3) else 2) = (q : Int) ∧ q ≤ 3 := by
    by_cases z : (ns.length : Int) < 3
    · rw [if_pos z]
      by_cases z1 : (ns.length : Int) > 2
      · exact ⟨ns.length, by rw [if_pos z1], by omega⟩
      · exact ⟨2, by rw [if_neg z1]; rfl, by omega⟩
    · rw [if_neg z]
      exact ⟨3, by rw [if_pos (by omega)]; rfl, by omega⟩
  have rq := rng_of (show q ≤ line from Nat.le_trans q3 (by decide))
  obtain ⟨ρ1, S1, e1, e2, e3, e4, e5, e6, e7, e8, rfl⟩ := eachF_inv (f := fun x ρ S => evSs (phi tab n) l2_law (ρ.set 1 (some x)) S)
    (fun i ρ S => ∃ e1 e2 e3 e4 e5 e6 e7, ρ = [some (.lst (ns.map .int)), e1, e2, e3, e4, e5, e6, e7]) (xs := rngL 0 q)
    (fun i hi ρ S hI => by
      obtain ⟨e1, e2, e3, e4, e5, e6, e7, rfl⟩ := hI
      rw [rngL_sz] at hi
      rw [rngL_get (by rw [rngL_sz]; exact hi)]
      simp only [Int.zero_add]
      obtain ⟨f2, f3, f4, f5, f6, f7, S', e⟩ := law_turn (n := n) (S := S) (by omega) (ns := ns) (k := i) (by omega) e2 e3 e4 e5 e6 e7
      exact ⟨_, _, .inl e, _, _, _, _, _, _, _, rfl⟩) (ρ := [some (.lst (ns.map .int)), none, none, none, none, none, none, none]) (S := []) ⟨_, _, _, _, _, _, _, rfl⟩
  have run : evSs (phi tab n) blaw (startE 8 [.lst (ns.map .int)]) [] = .rt (.bl true) S1 := by
    refine (ss_step (each_rng (ρ := [some (.lst (ns.map .int)), none, none, none, none, none, none, none]) (x := (q : Int)) ?_ rq e1)).trans (by simp)
    rw [← hq]
    simp
  rw [run]
  show back true S1 0 (.bl true) S = _
  exact back_pure _ _ _ rfl _
theorem run_true (ns : List Int) (hl : ns.length ≤ 63) : ∃ S, callF (phi tab 60) dlaw [.lst (ns.map Mp.D.int)] [] = .ok (.bl true) S := by
  have e := law_ok (n := 61) (S := []) (by omega) hl
  rw [phi_pos tlaw rfl] at e
  exact ⟨_, e⟩
end
end Lk74
open PySem PySem.W PySem.Calls PyProof.Rows
theorem PySem.Challenge.cw_realagain_k74_moments_holds : PySem.Challenge.rw_realagain_k74_moments.Holds := by
  w_on; o_law
  refine HandSHeadRun.head_imp (r := OpenLaw.row PySem.Challenge.rw_realagain_k74_moments) (q := view (OpenLaw.row PySem.Challenge.rw_realagain_k74_moments).prog [0, 53]) (H := Lk74.hk) (ob := Lk74.ob) (M := 60000) (loose := Lk74.loo) (d := HandSHeadRun.topDef (OpenLaw.row PySem.Challenge.rw_realagain_k74_moments).prog 53) (kwd := []) Lk74.ob_eq
    Lk74.run (by kernel_rfl) (by kernel_rfl) (by kernel_rfl) (by rfl) (by first | assumption | decide +kernel) (by decide +kernel) ⟨rfl, rfl, rfl, rfl, rfl, by decide +kernel⟩ ?hw ?hc
  case hw => w_witness2
  case hc =>
    refine Mp.law_walkE (l := PySem.Challenge.rw_realagain_k74_moments) (n := 60) (tx := Lk74.tx) (T := Lk74.tab) rfl (by kernel_rfl) (by kernel_rfl) ⟨rfl, by decide, by decide⟩ (fun w mg h Y G => ?_) (by decide +kernel) Lk74.tlaw Lk74.run_true
    obtain ⟨K, KX, c⟩ := Y
    exact ⟨K, KX, fun base => Lk74.facts KX G c⟩
