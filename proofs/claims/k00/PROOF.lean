import PyProof.Rows.All
import Wide.All
import OpenK.AllK
import Wide.FinOn
import HandS.ForMost
import HandS.ForExc
import HandS.Flow
import HandS.IsInst
import HandS.TupAny
import HandS.TupMul
import HandS.Style
import HandS.Zip
import HandS.Wide
import HandS.ExcInit
import HandS.TryMany
import HandS.CallSlots
import HandS.ExcField
import HandS.SortInts
import HandS.Comp
import KE.KExcSuper
import HandS.ExcIs
import HandS.HotCalls
import KE.KExcIs
import HandS.Ends
import PySem.Challenge.RW_plaitwrit_k00_errors_and_limits
set_option Elab.async false
set_option linter.all false
set_option maxRecDepth 100000
section
/-! Mini: values, a symbolic heap, an IR and its evaluator (own work). -/
namespace Mini
open PySem

/-- pure values; ref n is the n-th object of the symbolic heap -/
inductive D where
  | non | bl (b : Bool) | int (i : Int) | str (s : Str) | tup (xs : List D) | ref (n : Nat)
  deriving Inhabited
/-- objects: a list, a read-only list (the script), a dict by insertion -/
inductive O where
  | lst (xs : List D) | ro (xs : List D) | dct (kvs : List (D × D))

mutual
def D.pure : D → Bool
  | .ref _ => false
  | .tup xs => D.pureL xs
  | .non => true | .bl _ => true | .int _ => true | .str _ => true
def D.pureL : List D → Bool
  | [] => true
  | x :: xs => x.pure && D.pureL xs
end
mutual
def D.shift (k : Nat) : D → D
  | .ref n => .ref (n + k)
  | .tup xs => .tup (D.shiftL k xs)
  | .non => .non | .bl b => .bl b | .int i => .int i | .str s => .str s
def D.shiftL (k : Nat) : List D → List D
  | [] => []
  | x :: xs => x.shift k :: D.shiftL k xs
end
mutual
def D.beq : D → D → Bool
  | .non, .non => true
  | .bl a, .bl b => a == b
  | .int a, .int b => a == b
  | .str a, .str b => a == b
  | .tup a, .tup b => D.beqL a b
  | .ref a, .ref b => a == b
  | _, _ => false
def D.beqL : List D → List D → Bool
  | [], [] => true
  | x :: xs, y :: ys => x.beq y && D.beqL xs ys
  | _, _ => false
end
def D.beqK : List (D × D) → List (D × D) → Bool
  | [], [] => true
  | x :: xs, y :: ys => x.1.beq y.1 && x.2.beq y.2 && D.beqK xs ys
  | _, _ => false
def O.beq : O → O → Bool
  | .lst a, .lst b => D.beqL a b
  | .ro a, .ro b => D.beqL a b
  | .dct a, .dct b => D.beqK a b
  | _, _ => false
def beqH : List O → List O → Bool
  | [], [] => true
  | x :: xs, y :: ys => x.beq y && beqH xs ys
  | _, _ => false
def D.shiftK (k : Nat) : List (D × D) → List (D × D)
  | [] => []
  | x :: xs => (x.1.shift k, x.2.shift k) :: D.shiftK k xs
def O.shift (k : Nat) : O → O
  | .lst a => .lst (D.shiftL k a)
  | .ro a => .ro (D.shiftL k a)
  | .dct a => .dct (D.shiftK k a)
def shiftH (k : Nat) : List O → List O
  | [] => []
  | x :: xs => x.shift k :: shiftH k xs
def O.pure : O → Bool
  | .lst a => D.pureL a
  | .ro a => false
  | .dct a => a.all fun p => p.1.pure && p.2.pure

/-- an end: a value, or an exception by its class and fields -/
inductive R (α : Type) where
  | ok (a : α) (h : List O) | exc (c : Nat) (fs : List D) (h : List O)
abbrev Env := List (Option D)
abbrev M (α : Type) := List O → Option (R α)
def bnd {α β : Type} (m : Option (R α)) (f : α → List O → Option (R β)) : Option (R β) :=
  match m with
  | none => none
  | some (.exc c fs h) => some (.exc c fs h)
  | some (.ok a h) => f a h
@[simp] theorem bnd_ok {α β : Type} (a : α) (h : List O) (f : α → List O → Option (R β)) : bnd (some (.ok a h)) f = f a h := rfl
@[simp] theorem bnd_exc {α β : Type} (c : Nat) (fs : List D) (h : List O) (f : α → List O → Option (R β)) : bnd (some (.exc c fs h)) f = some (.exc c fs h) := rfl
@[simp] theorem bnd_none {α β : Type} (f : α → List O → Option (R β)) : bnd none f = none := rfl

/-- lists -/
def lim : Nat := 16777216
def isLst (h : List O) (n : Nat) : Option (List D) :=
  match h[n]? with
  | some (.lst xs) => some xs
  | _ => none
/-- a list or a read-only list -/
def rdLst (h : List O) (n : Nat) : Option (List D) :=
  match h[n]? with
  | some (.lst xs) => some xs
  | some (.ro xs) => some xs
  | _ => none
/-- the items of a list or a tuple -/
def seqOf (h : List O) : D → Option (List D)
  | .tup xs => some xs
  | .ref n => rdLst h n
  | _ => none
def alloc (o : O) (h : List O) : Option (R D) := some (.ok (.ref h.length) (h ++ [o]))
/-- temporary objects are forgotten behind a value that leans on none -/
def gc (h0 : List O) (d : D) (h1 : List O) : List O :=
  if h1.length = h0.length then h1 else if d.pure && beqH (h1.take h0.length) h0 then h0 else h1

/-! ### data for == and repr -/
mutual
def pyP : D → PyData
  | .non => .none | .bl b => .bool b | .int i => .int i | .str s => .str s
  | .tup xs => .tuple (pyPL xs)
  | .ref _ => .none
def pyPL : List D → List PyData
  | [] => []
  | x :: xs => pyP x :: pyPL xs
end
def mapO {α β : Type} (f : α → Option β) : List α → Option (List β)
  | [] => some []
  | x :: xs => match f x with
    | none => none
    | some y => match mapO f xs with
      | none => none
      | some ys => some (y :: ys)
def pyF : Nat → List O → D → Option PyData
  | 0, _, d => if d.pure then some (pyP d) else none
  | n + 1, h, d => if d.pure then some (pyP d) else match d with
    | .tup xs => (mapO (pyF n h) xs).map .tuple
    | .ref m => match rdLst h m with
      | some xs => (mapO (pyF n h) xs).map .list
      | none => none
    | _ => none
def pyD (h : List O) (d : D) : Option PyData := pyF 4 h d

/-! ### operators -/
def mulOk (i j : Int) : Bool := decide (i.natAbs < 2 ^ 64) || decide (j.natAbs < 2 ^ 64) || decide (i.natAbs.log2 + j.natAbs.log2 < 1000000)
def powOk (i j : Int) : Bool := decide (0 ≤ j) && decide (j ≤ 1000000) && decide (i.natAbs < 2 ^ 64)
def okI (i : Int) (h : List O) : Option (R D) := some (.ok (.int i) h)
def okB (b : Bool) (h : List O) : Option (R D) := some (.ok (.bl b) h)
def addD (a b : D) (h : List O) : Option (R D) :=
  match a, b with
  | .int i, .int j => okI (i + j) h
  | .tup xs, .tup ys => if xs.length + ys.length ≤ lim then some (.ok (.tup (xs ++ ys)) h) else none
  | .ref m, .ref n => match isLst h m, isLst h n with
    | some xs, some ys => if xs.length + ys.length ≤ lim then alloc (.lst (xs ++ ys)) h else none
    | _, _ => none
  | _, _ => none
def mulD (a b : D) (h : List O) : Option (R D) :=
  match a, b with
  | .int i, .int j => if mulOk i j then okI (i * j) h else none
  | .tup xs, .int k => if xs.length * k.toNat ≤ 1000 && decide (2 ≤ k) && decide (0 < xs.length) then some (.ok (.tup (List.replicate k.toNat xs).flatten) h) else none
  | .ref m, .int k => match isLst h m with
    | some xs => if xs.length * k.toNat ≤ lim && decide (-(2 ^ 63) ≤ k) && decide (k < 2 ^ 63) then alloc (.lst (List.replicate k.toNat xs).flatten) h else none
    | none => none
  | _, _ => none
def binD (op : Operator) (a b : D) (h : List O) : Option (R D) :=
  match op with
  | .Add => addD a b h
  | .Mult => mulD a b h
  | .Sub => match a, b with
    | .int i, .int j => okI (i - j) h
    | _, _ => none
  | .FloorDiv => match a, b with
    | .int i, .int j => if decide (0 < j) && decide (j.natAbs.log2 < 9000) then okI (i / j) h else if decide (j ≠ 0) && decide (j.natAbs < 1073741824) then okI (i.fdiv j) h else none
    | _, _ => none
  | .Mod => match a, b with
    | .int i, .int j => if 0 < j then okI (i % j) h else if j ≠ 0 then okI (i.fmod j) h else none
    | _, _ => none
  | .Pow => match a, b with
    | .int i, .int j => if powOk i j then okI (i ^ j.toNat) h else none
    | _, _ => none
  | _ => none

/-- a op= b: a list is lengthened where it stands -/
def augD (op : Operator) (a b : D) (h : List O) : Option (R D) :=
  match a, b with
  | .int i, .int j => match op with
    | .Add => okI (i + j) h
    | .Sub => okI (i - j) h
    | .Mult => if decide (i.natAbs < 2 ^ 64) || decide (j.natAbs < 2 ^ 64) then okI (i * j) h else none
    | .Mod => if 0 < j then okI (i % j) h else none
    | _ => none
  | .ref m, .ref n => match op, isLst h m, isLst h n with
    | .Add, some xs, some ys => if xs.length + ys.length ≤ lim then some (.ok (.ref m) (h.set m (.lst (xs ++ ys)))) else none
    | _, _, _ => none
  | _, _ => none
/-- truth -/
def truth (h : List O) : D → Option Bool
  | .non => some false
  | .bl b => some b
  | .int i => some (i != 0)
  | .str s => if s.length ≤ lim then some ((s.length : Int) != 0) else none
  | .tup xs => some (!xs.isEmpty)
  | .ref n => (rdLst h n).map fun xs => !xs.isEmpty

def intsOf : List D → Option (List Int)
  | [] => some []
  | .int i :: xs => (intsOf xs).map (i :: ·)
  | _ => none
/-! ### comparisons -/
def flatD : D → Bool
  | .non => true | .bl _ => true | .int _ => true | .str s => true | _ => false
/-- the order of tuples of ints -/
def lexI : List Int → List Int → Bool
  | [], ys => !ys.isEmpty
  | _ :: _, [] => false
  | x :: xs, y :: ys => bif x == y then lexI xs ys else decide (x < y)
def eqD (h : List O) (a b : D) : Option Bool :=
  match pyD h a, pyD h b with
  | some p, some q => if SeqAt.shaped p && SeqAt.shaped q then some (PyData.eqv p q) else none
  | _, _ => none
def inD (h : List O) (a b : D) : Option Bool :=
  match seqOf h b with
  | some ys => if flatD a && ys.all flatD then some (ys.any fun y => PyData.eqv (pyP y) (pyP a)) else none
  | none => none
def cmpD (op : CmpOp) (a b : D) (h : List O) : Option Bool :=
  match op with
  | .Eq => eqD h a b
  | .NotEq => (eqD h a b).map (!·)
  | .Lt => match a, b with
    | .int i, .int j => some (decide (i < j))
    | .tup xs, .tup ys => match intsOf xs, intsOf ys with
      | some ns, some ms => some (lexI ns ms)
      | _, _ => none
    | _, _ => none
  | .LtE => match a, b with
    | .int i, .int j => some (decide (i ≤ j))
    | _, _ => none
  | .Gt => match a, b with
    | .int i, .int j => some (decide (j < i))
    | _, _ => none
  | .GtE => match a, b with
    | .int i, .int j => some (decide (j ≤ i))
    | _, _ => none
  | .Is => match b with
    | .non => some (match a with | .non => true | _ => false)
    | _ => none
  | .IsNot => match b with
    | .non => some (match a with | .non => false | _ => true)
    | _ => none
  | .In => inD h a b
  | .NotIn => (inD h a b).map (!·)

/-! ### places -/
def ixD (n : Nat) (i : Int) : Option Nat := if 0 ≤ i then (if i < n then some i.toNat else none) else if -(n : Int) ≤ i then some (i + n).toNat else none
def atD (xs : List D) (i : Int) : Option D := match ixD xs.length i with
  | some j => xs[j]?
  | none => none
def sIxD (n d : Nat) : Option Int → Nat
  | none => d
  | some k => if k < 0 then (k + (n : Int)).toNat else min k.toNat n
def cutD (xs : List D) (lo hi : Option Int) : List D := (xs.drop (sIxD xs.length 0 lo)).take (sIxD xs.length xs.length hi - sIxD xs.length 0 lo)

/-- a subscript by values -/
def ixG (x y : D) (h : List O) : Option (R D) := match seqOf h x, y with
  | some xs, .int i => match atD xs i with
    | some d => some (.ok d h)
    | none => none
  | _, _ => none
/-- a slice by values -/
def slG (x : D) (l u : Option Int) (h : List O) : Option (R D) := match x with
  | .tup xs => some (.ok (.tup (cutD xs l u)) h)
  | .ref n => match rdLst h n with
    | some xs => alloc (.lst (cutD xs l u)) h
    | none => none
  | _ => none
/-! ### types for isinstance -/
inductive Ty where
  | int | bool | str | tuple | list | dict
  deriving DecidableEq
def isiD (h : List O) (t : Ty) : D → Option Bool
  | .non => some false
  | .bl _ => some (t == .bool || t == .int)
  | .int _ => some (t == .int)
  | .str _ => some (t == .str)
  | .tup _ => some (t == .tuple)
  | .ref n => match h[n]? with
    | some (.lst _) => some (t == .list)
    | some (.ro _) => none
    | some (.dct _) => some (t == .dict)
    | none => none

/-- built-in functions by values -/
inductive Bi where
  | abs | all | any | int | len | list | tuple | repr | max2 | min2 | maxL | minL | sum | sorted | bad
  deriving DecidableEq
/-- methods by values -/
inductive Mt where
  | append | pop | count | index | bad
  deriving DecidableEq
def boolsOf : List D → Option (List Bool)
  | [] => some []
  | .bl b :: xs => (boolsOf xs).map (b :: ·)
  | _ => none
def maxI : List Int → Int
  | [] => 0
  | [x] => x
  | x :: y :: r => let m := maxI (y :: r); if m ≤ x then x else m
def minI : List Int → Int
  | [] => 0
  | [x] => x
  | x :: y :: r => let m := minI (y :: r); if x ≤ m then x else m
def insI (x : Int) : List Int → List Int
  | [] => [x]
  | y :: r => if x ≤ y then x :: y :: r else y :: insI x r
def sortI : List Int → List Int
  | [] => []
  | x :: r => insI x (sortI r)
def abs1 (vs : List D) (h : List O) : Option (R D) := match vs with
  | [.int i] => okI (if i < 0 then -i else i) h
  | _ => none
def int1 (vs : List D) (h : List O) : Option (R D) := match vs with
  | [.int i] => okI i h
  | [.bl b] => okI (if b then 1 else 0) h
  | _ => none
def len1 (vs : List D) (h : List O) : Option (R D) := match vs with
  | [.str s] => if s.length ≤ lim then okI s.length h else none
  | [.tup xs] => okI xs.length h
  | [.ref n] => match rdLst h n with
    | some xs => okI xs.length h
    | none => none
  | _ => none
/-- the truth values of a list -/
def bools1 (vs : List D) (h : List O) : Option (List Bool) := match vs with
  | [.ref n] => match rdLst h n with
    | some xs => boolsOf xs
    | none => none
  | _ => none
/-- the ints of a list -/
def ints1 (vs : List D) (h : List O) : Option (List Int) := match vs with
  | [.ref n] => match rdLst h n with
    | some xs => intsOf xs
    | none => none
  | _ => none
def all1 (vs : List D) (h : List O) : Option (R D) := match bools1 vs h with
  | some bs => okB (bs.all id) h
  | none => none
def any1 (vs : List D) (h : List O) : Option (R D) := match bools1 vs h with
  | some bs => okB (bs.any id) h
  | none => none
def list1 (vs : List D) (h : List O) : Option (R D) := match vs with
  | [d] => match seqOf h d with
    | some xs => alloc (.lst xs) h
    | none => none
  | _ => none
def tuple1 (vs : List D) (h : List O) : Option (R D) := match vs with
  | [.tup xs] => some (.ok (.tup xs) h)
  | [.ref n] => match rdLst h n with
    | some xs => some (.ok (.tup xs) h)
    | none => none
  | _ => none
def maxF (vs : List D) (h : List O) : Option (R D) := match vs with
  | [.int i, .int j] => okI (if j > i then j else i) h
  | _ => none
def minF (vs : List D) (h : List O) : Option (R D) := match vs with
  | [.int i, .int j] => okI (if j < i then j else i) h
  | _ => none
def maxL1 (vs : List D) (h : List O) : Option (R D) := match ints1 vs h with
  | some ns => if 0 < ns.length then okI (maxI ns) h else none
  | none => none
def minL1 (vs : List D) (h : List O) : Option (R D) := match ints1 vs h with
  | some ns => if 0 < ns.length then okI (minI ns) h else none
  | none => none
def sum1 (vs : List D) (h : List O) : Option (R D) := match ints1 vs h with
  | some ns => okI ns.sum h
  | none => none
def sorted1 (vs : List D) (h : List O) : Option (R D) := match ints1 vs h with
  | some ns => alloc (.lst ((sortI ns).map .int)) h
  | none => none
def repr1 (vs : List D) (h : List O) : Option (R D) := match vs with
  | [d] => match pyD h d with
    | some p => if p.showable && decide (p.shown.length ≤ lim) && decide (p.depth ≤ 16) && !p.hasDict then some (.ok (.str p.shown) h) else none
    | none => none
  | _ => none
def biD (b : Bi) (vs : List D) (h : List O) : Option (R D) :=
  match b with
  | .abs => abs1 vs h
  | .int => int1 vs h
  | .len => len1 vs h
  | .all => all1 vs h
  | .any => any1 vs h
  | .list => list1 vs h
  | .tuple => tuple1 vs h
  | .max2 => maxF vs h
  | .min2 => minF vs h
  | .maxL => maxL1 vs h
  | .minL => minL1 vs h
  | .sum => sum1 vs h
  | .sorted => sorted1 vs h
  | .repr => repr1 vs h
  | .bad => none
def setH (h : List O) (n : Nat) (o : O) : List O := h.set n o
/-- the object is of the method's kind -/
def mtPre (m : Mt) (o : D) (h : List O) : Bool :=
  match m, o with
  | .append, .ref n => (isLst h n).isSome
  | .pop, .ref n => (isLst h n).isSome
  | _, _ => false
def append1 (o : D) (vs : List D) (h : List O) : Option (R D) := match o, vs with
  | .ref n, [d] => match isLst h n with
    | some xs => if xs.length < lim then some (.ok .non (setH h n (.lst (xs ++ [d])))) else none
    | none => none
  | _, _ => none
def pop0 (o : D) (vs : List D) (h : List O) : Option (R D) := match o, vs with
  | .ref n, [] => match isLst h n with
    | some xs => match xs[xs.length - 1]? with
      | some d => some (.ok d (setH h n (.lst xs.dropLast)))
      | none => none
    | none => none
  | _, _ => none
def mtD (m : Mt) (o : D) (vs : List D) (h : List O) : Option (R D) :=
  match m with
  | .append => append1 o vs h
  | .pop => pop0 o vs h
  | _ => none

/-! ### the IR: one type for expressions, lists of them, options, targets, iterables -/
inductive E where
  | nil | cons (a b : E)
  | omit
  | non | bl (b : Bool) | int (i : Int) | str (s : Str)
  | slot (i : Nat)
  | con (d : D) (x : Str)
  | bin (op : Operator) (a b : E)
  | neg (a : E)
  | cmp (op : CmpOp) (a b : E)
  | chn (op op' : CmpOp) (a b c : E)
  | and (a b : E) | or (a b : E)
  | nt (a : E) | ntv (a : E)
  | ifx (c a b : E)
  | tup (es : E) | lst (es : E)
  | ix (a b : E) | sl (a lo hi : E) | rev (a : E)
  | call (f : Nat) (es : E) (ds : List D)
  | bi (b : Bi) (es : E)
  | isi (a : E) (t : Ty)
  | mt (m : Mt) (o : E) (es : E)
  | lc (own : List Nat) (tg it c elt : E)
  | rng (es : E) | enu (a : E) | zip (a b : E)
  | tsub (a b : E)
  | tru (a : E) | itr (a : E)
  | fld (x : Str) | isx (c : Nat) | kin (x : Str) (cs : List Nat)
  | bad
inductive S where
  | nil | seq (a b : S)
  | asg (tg : E) (e : E)
  | par (i j : Nat) (es : E)
  | aug (i : Nat) (op : Operator) (e : E)
  | augS (a i : E) (op : Operator) (e : E)
  | ex (e : E)
  | ite (c : E) (a b : S)
  | for (tg it : E) (b : S)
  | while (c : E) (b : S)
  | brk | cnt
  | ret (e : E) | retN
  | raise (c : Nat) (es : E)
  | try (b : S) (hs : S)
  | hnil | hcons (c : Nat) (slot : Nat) (e : E) (hs : S)
  | bad


/-- targets of names and tuples of them -/
def asgT : E → D → Env → Option Env
  | .slot i, d, env => if i < env.length then some (env.set i (some d)) else none
  | .tup es, .tup xs, env => asgTs es xs env
  | _, _, _ => none
where asgTs : E → List D → Env → Option Env
  | .nil, [], env => some env
  | .cons a b, x :: xs, env => match asgT a x env with
    | some env' => asgTs b xs env'
    | none => none
  | _, _, _ => none
def wipeD (env : Env) : List Nat → Env
  | [] => env
  | v :: vs => (wipeD env vs).set v none
/-- what a loop walks: the items, and the lists that must stay as they are -/
abbrev Src := List (Nat × List D)
def chk (src : Src) (h : List O) : Bool := src.all fun p => match rdLst h p.1 with
  | some xs => D.beqL xs p.2
  | none => false
def lcGo (src : Src) (f : D → List O → Option (R (Option D))) : List D → List D → List O → Option (R (List D))
  | [], acc, h => if chk src h then some (.ok acc h) else none
  | x :: xs, acc, h => if chk src h then match f x h with
      | some (.ok (some y) h') => if acc.length < lim then lcGo src f xs (acc ++ [y]) h' else none
      | some (.ok none h') => lcGo src f xs acc h'
      | _ => none
    else none
def rangeD (vs : List D) : Option (List D) :=
  match vs with
  | [.int j] => if -(2 ^ 62) ≤ j ∧ j < 2 ^ 62 then some ((List.range j.toNat).map fun k : Nat => .int (0 + (k : Int))) else none
  | [.int i, .int j] => if -(2 ^ 62) ≤ i ∧ i < 2 ^ 62 ∧ -(2 ^ 62) ≤ j ∧ j < 2 ^ 62 then some ((List.range (j - i).toNat).map fun k : Nat => .int (i + (k : Int))) else none
  | _ => none
def enumD : Nat → List D → List D
  | _, [] => []
  | k, x :: xs => .tup [.int k, x] :: enumD (k + 1) xs
def zipD : List D → List D → List D
  | x :: xs, y :: ys => .tup [x, y] :: zipD xs ys
  | _, _ => []
/-- the items of a list or tuple, and whether it must stay -/
def itemsOf (d : D) (h : List O) : Option (List D × Src) :=
  match d with
  | .tup xs => some (xs, [])
  | .ref n => match rdLst h n with
    | some xs => some (xs, [(n, xs)])
    | none => none
  | _ => none
def enumP (x : D) (h : List O) : Option (List D × Src) := match x with
  | .ref n => match rdLst h n with
    | some xs => some (enumD 0 xs, [(n, xs)])
    | none => none
  | _ => none
def zipP (x y : D) (h : List O) : Option (List D × Src) := match x, y with
  | .tup xs, .tup ys => some (zipD xs ys, [])
  | .ref m, .ref n => match rdLst h m, rdLst h n with
    | some xs, some ys => some (zipD xs ys, [(m, xs), (n, ys)])
    | _, _ => none
  | _, _ => none
section
variable (call : Nat → List D → List O → Option (R D))
mutual
def ev : E → Env → List O → Option (R D)
  | .non, _, h => some (.ok .non h)
  | .bl b, _, h => some (.ok (.bl b) h)
  | .int i, _, h => some (.ok (.int i) h)
  | .str s, _, h => some (.ok (.str s) h)
  | .slot i, env, h => match env[i]? with
    | some (some d) => some (.ok d h)
    | _ => none
  | .con d _, _, h => some (.ok d h)
  | .bin op a b, env, h => bnd (ev a env h) fun x h1 => bnd (ev b env h1) fun y h2 => binD op x y h2
  | .neg a, env, h => bnd (ev a env h) fun x h1 => match x with
    | .int i => okI (-i) h1
    | _ => none
  | .cmp op a b, env, h => bnd (ev a env h) fun x h1 => bnd (ev b env h1) fun y h2 => match cmpD op x y h2 with
    | some c => okB c (gc h (.bl c) h2)
    | none => none
  | .chn op op' a b c, env, h => bnd (ev a env h) fun x h1 => bnd (ev b env h1) fun y h2 => match cmpD op x y h2 with
    | some true => bnd (ev c env h2) fun z h3 => match cmpD op' y z h3 with
      | some r => okB r h3
      | none => none
    | some false => okB false h2
    | none => none
  | .and a b, env, h => bnd (ev a env h) fun x h1 => match truth h1 x with
    | some true => ev b env h1
    | some false => some (.ok x h1)
    | none => none
  | .or a b, env, h => bnd (ev a env h) fun x h1 => match truth h1 x with
    | some true => some (.ok x h1)
    | some false => ev b env h1
    | none => none
  | .ntv a, env, h => bnd (ev a env h) fun x h1 => match truth h1 x with
    | some b => okB (!b) h1
    | none => none
  | .ifx c a b, env, h => bnd (evt c env h) fun x h1 => if x then ev a env h1 else ev b env h1
  | .tup es, env, h => bnd (evs es env h) fun xs h1 => if xs.length ≤ lim then some (.ok (.tup xs) h1) else none
  | .lst es, env, h => bnd (evs es env h) fun xs h1 => if xs.length ≤ lim then alloc (.lst xs) h1 else none
  | .ix a b, env, h => bnd (ev a env h) fun x h1 => bnd (ev b env h1) fun y h2 => ixG x y h2
  | .sl a lo hi, env, h => bnd (ev a env h) fun x h1 => bnd (evo lo env h1) fun l h2 => bnd (evo hi env h2) fun u h3 => slG x l u h3
  | .rev a, env, h => bnd (ev a env h) fun x h1 => match x with
    | .tup xs => some (.ok (.tup xs.reverse) h1)
    | .ref n => match rdLst h1 n with
      | some xs => alloc (.lst xs.reverse) h1
      | none => none
    | _ => none
  | .call f es ds, env, h => bnd (evs es env h) fun vs h1 => call f (vs ++ ds) h1
  | .bi b es, env, h => bnd (evs es env h) fun vs h1 => bnd (biD b vs h1) fun d h2 => some (.ok d (gc h d h2))
  | .isi a t, env, h => bnd (ev a env h) fun x h1 => match isiD h1 t x with
    | some r => okB r h1
    | none => none
  | .mt m o es, env, h => bnd (ev o env h) fun x h1 => if mtPre m x h1 then bnd (evs es env h1) fun vs h2 => mtD m x vs h2 else none
  | .lc own tg it c elt, env, h => bnd (evi it env h) fun p h1 =>
      bnd (lcGo p.2 (fun x h => match asgT tg x (wipeD env own) with
        | some env2 => bnd (evt c env2 h) fun b h2 => if b then bnd (ev elt env2 h2) fun y h3 => some (.ok (some y) h3) else some (.ok none h2)
        | none => none) p.1 [] h1) fun ys h4 => alloc (.lst ys) h4
  | _, _, _ => none
def evs : E → Env → List O → Option (R (List D))
  | .nil, _, h => some (.ok [] h)
  | .cons a b, env, h => bnd (ev a env h) fun x h1 => bnd (evs b env h1) fun xs h2 => some (.ok (x :: xs) h2)
  | _, _, _ => none
def evo : E → Env → List O → Option (R (Option Int))
  | .omit, _, h => some (.ok none h)
  | .cons a _, env, h => bnd (ev a env h) fun x h1 => match x with
    | .int i => some (.ok (some i) h1)
    | _ => none
  | _, _, _ => none
def evt : E → Env → List O → Option (R Bool)
  | .and a b, env, h => bnd (evt a env h) fun x h1 => if x then evt b env h1 else some (.ok false h1)
  | .or a b, env, h => bnd (evt a env h) fun x h1 => if x then some (.ok true h1) else evt b env h1
  | .nt a, env, h => bnd (evt a env h) fun x h1 => some (.ok (!x) h1)
  | .tru a, env, h => bnd (ev a env h) fun x h1 => match truth h1 x with
    | some b => some (.ok b h1)
    | none => none
  | .omit, _, h => some (.ok true h)
  | _, _, _ => none
def evi : E → Env → List O → Option (R (List D × Src))
  | .rng es, env, h => bnd (evs es env h) fun vs h1 => match rangeD vs with
    | some xs => some (.ok (xs, []) h1)
    | none => none
  | .enu a, env, h => bnd (ev a env h) fun x h1 => match enumP x h1 with
    | some p => some (.ok p h1)
    | none => none
  | .zip a b, env, h => bnd (ev a env h) fun x h1 => bnd (ev b env h1) fun y h2 => match zipP x y h2 with
    | some p => some (.ok p h2)
    | none => none
  | .itr a, env, h => bnd (ev a env h) fun x h1 => match itemsOf x h1 with
    | some p => some (.ok p h1)
    | none => none
  | _, _, _ => none
end

/-! ### statements -/
inductive Fl where
  | nx (env : Env) | rt (d : D) | bk (env : Env) | ct (env : Env)
inductive RS where
  | fl (f : Fl) (h : List O) | exc (c : Nat) (fs : List D) (env : Env) (h : List O)
/-- an expression's end within a statement -/
def bns {α : Type} (m : Option (R α)) (env : Env) (f : α → List O → Option RS) : Option RS :=
  match m with
  | none => none
  | some (.exc c fs h) => some (.exc c fs env h)
  | some (.ok a h) => f a h
@[simp] theorem bns_ok {α : Type} (a : α) (h : List O) (env : Env) (f : α → List O → Option RS) : bns (some (.ok a h)) env f = f a h := rfl
@[simp] theorem bns_exc {α : Type} (c : Nat) (fs : List D) (h : List O) (env : Env) (f : α → List O → Option RS) : bns (some (.exc c fs h)) env f = some (.exc c fs env h) := rfl
@[simp] theorem bns_none {α : Type} (env : Env) (f : α → List O → Option RS) : bns none env f = none := rfl
/-- a list of ours -/
def lstB (h : List O) (o : D) : Bool := match o with
  | .ref n => (isLst h n).isSome
  | _ => false
/-- o[i] = d -/
def setI (o i d : D) (h : List O) : Option (List O) :=
  match o, i with
  | .ref n, .int k => match isLst h n with
    | some xs => match ixD xs.length k with
      | some j => some (setH h n (.lst (xs.set j d)))
      | none => none
    | none => none
  | _, _ => none
/-- an end that raises nothing -/
def onlyOk {α : Type} : Option (R α) → Option (α × List O)
  | some (.ok a h) => some (a, h)
  | _ => none
/-- targets of a statement -/
def asgS : E → D → Env → List O → Option (Env × List O)
  | .slot i, d, env, h => if i < env.length then some (env.set i (some d), h) else none
  | .tup es, .tup xs, env, h => asgSs es xs env h
  | .tsub a b, d, env, h => match onlyOk (ev call a env h) with
    | some (x, h1) => match onlyOk (ev call b env h1) with
      | some (y, h2) => match setI x y d h2 with
        | some h3 => some (env, h3)
        | none => none
      | none => none
    | none => none
  | _, _, _, _ => none
where asgSs : E → List D → Env → List O → Option (Env × List O)
  | .nil, [], env, h => some (env, h)
  | .cons a b, x :: xs, env, h => match asgS a x env h with
    | some (env', h1) => asgSs b xs env' h1
    | none => none
  | _, _, _, _ => none
def forGo (src : Src) (f : D → Env → List O → Option RS) : List D → Env → List O → Option RS
  | [], env, h => if chk src h then some (.fl (.nx env) h) else none
  | x :: xs, env, h => if chk src h then match f x env h with
      | some (.fl (.nx e) h') => forGo src f xs e h'
      | some (.fl (.ct e) h') => forGo src f xs e h'
      | some (.fl (.bk e) h') => some (.fl (.nx e) h')
      | r => r
    else none
def whileGo (c : Env → List O → Option (R Bool)) (b : Env → List O → Option RS) : Nat → Env → List O → Option RS
  | 0, _, _ => none
  | n + 1, env, h => bns (c env h) env fun x h1 => if x then match b env h1 with
      | some (.fl (.nx e) h') => whileGo c b n e h'
      | some (.fl (.ct e) h') => whileGo c b n e h'
      | some (.fl (.bk e) h') => some (.fl (.nx e) h')
      | r => r
    else some (.fl (.nx env) h1)
def wFuel : Nat := 1000000
/-- classes of exceptions: the ancestors (itself among them), the names of the fields -/
structure Cl where
  anc : List Nat
  flds : List Str
variable (C : List Cl)
def isAnc (c a : Nat) : Bool := match C[c]? with
  | some k => k.anc.contains a
  | none => false
def fldOf (c : Nat) (fs : List D) (x : Str) : Option D := match C[c]? with
  | some k => (k.flds.zip fs).lookup x
  | none => none
def canR (c : Nat) : Bool := match C[c]? with
  | some k => !k.flds.isEmpty
  | none => false
/-- as many arguments as the class has fields -/
def okFl (c : Nat) (vs : List D) : Bool := match C[c]? with
  | some k => decide (vs.length = k.flds.length) && !k.flds.isEmpty && decide (vs.length ≤ 1000)
  | none => false
/-- the value of a handler's suite -/
def evX (c : Nat) (fs : List D) : E → List O → Option (D × List O)
  | .non, h => some (.non, h)
  | .bl b, h => some (.bl b, h)
  | .int i, h => some (.int i, h)
  | .str s, h => some (.str s, h)
  | .fld x, h => match fldOf C c fs x with
    | some d => some (d, h)
    | none => none
  | .isx a, h => some (.bl (isAnc C c a), h)
  | .tup es, h => match evXs es h with
    | some (xs, h1) => if xs.length ≤ lim then some (.tup xs, h1) else none
    | none => none
  | .lst .nil, h => some (.ref h.length, h ++ [.lst []])
  | .kin _ cs, h => some (.ref h.length, h ++ [.lst (cs.map fun a => .bl (isAnc C c a))])
  | .and a b, h => match evX c fs a h with
    | some (.bl true, h1) => evX c fs b h1
    | some (.bl false, h1) => some (.bl false, h1)
    | _ => none
  | .ifx k a b, h => match evX c fs k h with
    | some (.bl true, h1) => evX c fs a h1
    | some (.bl false, h1) => evX c fs b h1
    | _ => none
  | _, _ => none
where evXs : E → List O → Option (List D × List O)
  | .nil, h => some ([], h)
  | .cons a b, h => match evX c fs a h with
    | some (x, h1) => match evXs b h1 with
      | some (xs, h2) => some (x :: xs, h2)
      | none => none
    | none => none
  | _, _ => none
def handle (c : Nat) (fs : List D) (env : Env) (h : List O) : S → Option RS
  | .hnil => some (.exc c fs env h)
  | .hcons a i e hs => if isAnc C c a then match evX C c fs e h with
      | some (d, h1) => if i < env.length then some (.fl (.rt d) h1) else none
      | none => none
    else handle c fs env h hs
  | _ => none
def exec : S → Env → List O → Option RS
  | .nil, env, h => some (.fl (.nx env) h)
  | .seq a b, env, h => match exec a env h with
    | some (.fl (.nx e) h') => exec b e h'
    | r => r
  | .asg tg e, env, h => bns (ev call e env h) env fun d h1 => match asgS call tg d env h1 with
    | some (env', h2) => some (.fl (.nx env') h2)
    | none => none
  | .par i j es, env, h => bns (evs call es env h) env fun vs h1 => match vs with
    | [x, y] => if i < env.length ∧ j < env.length then some (.fl (.nx ((env.set i (some x)).set j (some y))) h1) else none
    | _ => none
  | .aug i op e, env, h => match env[i]? with
    | some (some x) => bns (ev call e env h) env fun y h1 => bns (augD op x y h1) env fun z h2 => some (.fl (.nx (env.set i (some z))) h2)
    | _ => none
  | .augS a i op e, env, h => bns (ev call a env h) env fun o h1 => bns (ev call i env h1) env fun k h2 => if lstB h2 o then bns (ixG o k h2) env fun x h3 => bns (ev call e env h3) env fun y h4 => bns (augD op x y h4) env fun z h5 => match setI o k z h5 with
    | some h6 => some (.fl (.nx env) h6)
    | none => none
    else none
  | .ex e, env, h => bns (ev call e env h) env fun _ h1 => some (.fl (.nx env) h1)
  | .ite c a b, env, h => bns (evt call c env h) env fun x h1 => if x then exec a env h1 else exec b env h1
  | .for tg it b, env, h => bns (evi call it env h) env fun p h1 => forGo p.2 (fun x env h => match asgT tg x env with
      | some env2 => exec b env2 h
      | none => none) p.1 env h1
  | .while c b, env, h => whileGo (fun env h => evt call c env h) (fun env h => exec b env h) wFuel env h
  | .brk, env, h => some (.fl (.bk env) h)
  | .cnt, env, h => some (.fl (.ct env) h)
  | .ret e, env, h => bns (ev call e env h) env fun d h1 => some (.fl (.rt d) h1)
  | .retN, _, h => some (.fl (.rt .non) h)
  | .raise c es, env, h => if canR C c then bns (evs call es env h) env fun vs h1 => if okFl C c vs then some (.exc c vs env h1) else none else none
  | .try b hs, env, h => match exec b env h with
    | some (.exc c fs env' h') => handle C c fs env' h' hs
    | r => r
  | _, _, _ => none
end
/-- a def: its parameters, its names, its body -/
structure Fn where
  np : Nat
  nl : Nat
  body : S
def startD (nl : Nat) (vs : List D) : Env := vs.map some ++ List.replicate (nl - vs.length) none
def runB (call : Nat → List D → List O → Option (R D)) (C : List Cl) (f : Fn) (vs : List D) (h : List O) : Option (R D) :=
  match exec call C f.body (startD f.nl vs) h with
  | some (.fl (.rt d) h') => some (.ok d h')
  | some (.fl (.nx _) h') => some (.ok .non h')
  | some (.exc c fs _ h') => some (.exc c fs h')
  | _ => none
/-- what a call of pure arguments leaves: the value and the objects it leans on -/
def tidy (d : D) (g : List O) : D × List O :=
  if d.pure then (d, []) else match d with
    | .ref m => match g[m]? with
      | some o => if o.pure then (.ref 0, [o]) else (d, g)
      | none => (d, g)
    | _ => (d, g)
def callF (P : List Fn) (C : List Cl) : Nat → Nat → List D → List O → Option (R D)
  | 0, _, _, _ => none
  | n + 1, f, vs, h => match P[f]? with
    | none => none
    | some fn => if vs.length = fn.np then
        if D.pureL vs then match runB (callF P C n) C fn vs [] with
          | some (.ok d g) => some (.ok ((tidy d g).1.shift h.length) (h ++ shiftH h.length (tidy d g).2))
          | some (.exc c fs g) => if D.pureL fs then some (.exc c fs h) else none
          | none => none
        else match runB (callF P C n) C fn vs h with
          | some (.ok d h') => some (.ok d (gc h d h'))
          | r => r
      else none
end Mini
end

section
/-! Mini: how values and objects of the evaluator stand in the model's heap (own work). -/
namespace Mini
open PySem PySem.Spec PyProof.Rows L2

mutual
/-- the value v is d -/
def RV (K : PySem.W.Frag) (ρ : List Addr) (H : Hp) : V → D → Prop
  | v, .non => v = .non
  | v, .bl b => v = .bl b
  | v, .int i => v = .int i
  | v, .str s => v = .str s
  | v, .tup xs => ∃ a vs, v = .ref a ∧ SqT K H a vs ∧ RVs K ρ H vs xs
  | v, .ref n => ∃ a, v = .ref a ∧ ρ[n]? = some a
def RVs (K : PySem.W.Frag) (ρ : List Addr) (H : Hp) : List V → List D → Prop
  | vs, [] => vs = []
  | vs, x :: xs => ∃ v r, vs = v :: r ∧ RV K ρ H v x ∧ RVs K ρ H r xs
end
/-- the object at a is o -/
def OR (K : PySem.W.Frag) (ρ : List Addr) (H : Hp) (a : Addr) : O → Prop
  | .lst xs => ∃ vs, H a = some (.lst vs) ∧ RVs K ρ H vs xs
  | .ro xs => ∃ o vs, H a = some (.frz o (.lst vs)) ∧ RVs K ρ H vs xs
  | .dct _ => False
structure Wd (K : PySem.W.Frag) (ρ : List Addr) (h : List O) (H : Hp) : Prop where
  len : ρ.length = h.length
  nd : ρ.Nodup
  obj : ∀ (i : Nat) (o : O) (a : Addr), h[i]? = some o → ρ[i]? = some a → OR K ρ H a o
structure Xt (ρ : List Addr) (H : Hp) (ρ' : List Addr) (H' : Hp) : Prop where
  pre : ∃ τ, ρ' = ρ ++ τ ∧ ∀ a ∈ τ, H a = none
  frame : ∀ a o, H a = some o → a ∉ ρ → H' a = some o
  keep : ∀ a, H a ≠ none → H' a ≠ none

variable {K : PySem.W.Frag} {ρ ρ' ρ1 ρ2 : List Addr} {h h' : List O} {H H' H1 H2 : Hp}
theorem Xt.refl : Xt ρ H ρ H := ⟨⟨[], by simp, by simp⟩, fun _ _ e _ => e, fun _ e => e⟩
theorem Xt.trans (x : Xt ρ H ρ1 H1) (y : Xt ρ1 H1 ρ2 H2) : Xt ρ H ρ2 H2 := by
  obtain ⟨⟨τ, e1, n1⟩, f1, k1⟩ := x
  obtain ⟨⟨τ2, e2, n2⟩, f2, k2⟩ := y
  have key : ∀ a o, H a = some o → a ∉ ρ → H1 a = some o ∧ a ∉ ρ1 := fun a o e n => ⟨f1 a o e n, fun m => by
    rw [e1] at m
    rcases List.mem_append.mp m with m | m
    · exact n m
    · rw [n1 a m] at e; cases e⟩
  refine ⟨⟨τ ++ τ2, by rw [e2, e1, List.append_assoc], fun a m => ?_⟩, fun a o e n => ?_, fun a e => k2 a (k1 a e)⟩
  · rcases List.mem_append.mp m with m | m
    · exact n1 a m
    · cases q : H a with
      | none => rfl
      | some o => exact absurd (n2 a m) (k1 a (by rw [q]; simp))
  · obtain ⟨a1, a2⟩ := key a o e n
    exact f2 a o a1 a2
theorem mem_of_get {α : Type} {l : List α} {i : Nat} {a : α} (e : l[i]? = some a) : a ∈ l := List.mem_of_getElem? e
theorem Wd.get (w : Wd K ρ h H) {n : Nat} {a : Addr} (e : ρ[n]? = some a) : ∃ o, h[n]? = some o ∧ OR K ρ H a o := by
  have hl : n < h.length := by
    rw [← w.len]
    exact (List.getElem?_eq_some_iff.mp e).1
  exact ⟨h[n], List.getElem?_eq_getElem hl, w.obj n _ a (List.getElem?_eq_getElem hl) e⟩
theorem Wd.addr (w : Wd K ρ h H) {n : Nat} {o : O} (e : h[n]? = some o) : ∃ a, ρ[n]? = some a ∧ OR K ρ H a o := by
  have hl : n < ρ.length := by
    rw [w.len]
    exact (List.getElem?_eq_some_iff.mp e).1
  exact ⟨ρ[n], List.getElem?_eq_getElem hl, w.obj n o _ e (List.getElem?_eq_getElem hl)⟩
/-- what stands at an address of ours is no tuple -/
theorem Wd.notup (w : Wd K ρ h H) {a : Addr} (m : a ∈ ρ) {vs : List V} : ¬ Rd H a (.tup vs) := by
  obtain ⟨n, hn, e⟩ := List.getElem_of_mem m
  obtain ⟨o, _, r⟩ := w.get (n := n) (a := a) (by rw [List.getElem?_eq_getElem hn, e])
  intro q
  cases o with
  | lst xs =>
    obtain ⟨ws, e1, _⟩ := r
    rcases q with q | ⟨o, q⟩ <;> (rw [e1] at q; cases q)
  | ro xs =>
    obtain ⟨o', ws, e1, _⟩ := r
    rcases q with q | ⟨o, q⟩ <;> (rw [e1] at q; cases q)
  | dct kvs => exact r
theorem Wd.there (w : Wd K ρ h H) {a : Addr} (m : a ∈ ρ) : H a ≠ none := by
  obtain ⟨n, hn, e⟩ := List.getElem_of_mem m
  obtain ⟨o, _, r⟩ := w.get (n := n) (a := a) (by rw [List.getElem?_eq_getElem hn, e])
  cases o with
  | lst xs => obtain ⟨ws, e1, _⟩ := r; rw [e1]; simp
  | ro xs => obtain ⟨o', ws, e1, _⟩ := r; rw [e1]; simp
  | dct kvs => exact r.elim
/-- tuples stay -/
def TS' (K : PySem.W.Frag) (H H' : Hp) : Prop := ∀ a vs, SqT K H a vs → SqT K H' a vs
theorem TS'.refl : TS' K H H := fun _ _ e => e
theorem Wd.tups (w : Wd K ρ h H) (x : Xt ρ H ρ' H') : TS' K H H' := by
  intro a vs q
  rcases q with q | q
  · have hn : a ∉ ρ := fun m => w.notup m q
    rcases q with q | ⟨o, q⟩
    · exact .inl (.inl (x.frame a _ q hn))
    · exact .inl (.inr ⟨o, x.frame a _ q hn⟩)
  · exact .inr q
mutual
theorem RV.mono (t : TS' K H H') (p : ∀ (n : Nat) a, ρ[n]? = some a → ρ'[n]? = some a) : ∀ (d : D) (v : V), RV K ρ H v d → RV K ρ' H' v d
  | .non, v, e => e
  | .bl b, v, e => e
  | .int i, v, e => e
  | .str s, v, e => e
  | .tup xs, v, ⟨a, vs, e, q, r⟩ => ⟨a, vs, e, t a vs q, RVs.mono t p xs vs r⟩
  | .ref n, v, ⟨a, e, q⟩ => ⟨a, e, p n a q⟩
theorem RVs.mono (t : TS' K H H') (p : ∀ (n : Nat) a, ρ[n]? = some a → ρ'[n]? = some a) : ∀ (xs : List D) (vs : List V), RVs K ρ H vs xs → RVs K ρ' H' vs xs
  | [], vs, e => e
  | x :: xs, vs, ⟨v, r, e, q, s⟩ => ⟨v, r, e, RV.mono t p x v q, RVs.mono t p xs r s⟩
end
mutual
theorem RV.any (t : TS' K H H') : ∀ (d : D) (v : V), d.pure = true → RV K ρ H v d → RV K ρ' H' v d
  | .non, v, _, e => e
  | .bl b, v, _, e => e
  | .int i, v, _, e => e
  | .str s, v, _, e => e
  | .tup xs, v, hp, ⟨a, vs, e, q, r⟩ => ⟨a, vs, e, t a vs q, RVs.any t xs vs (by simpa [D.pure] using hp) r⟩
  | .ref n, v, hp, _ => by simp [D.pure] at hp
theorem RVs.any (t : TS' K H H') : ∀ (xs : List D) (vs : List V), D.pureL xs = true → RVs K ρ H vs xs → RVs K ρ' H' vs xs
  | [], vs, _, e => e
  | x :: xs, vs, hp, ⟨v, r, e, q, s⟩ => by
    have hp' : x.pure = true ∧ D.pureL xs = true := by simpa [D.pureL] using hp
    exact ⟨v, r, e, RV.any t x v hp'.1 q, RVs.any t xs r hp'.2 s⟩
end
mutual
theorem RV.shifted {α : List Addr} (t : TS' K H H') : ∀ (d : D) (v : V), RV K ρ H v d → RV K (α ++ ρ) H' v (d.shift α.length)
  | .non, v, e => e
  | .bl b, v, e => e
  | .int i, v, e => e
  | .str s, v, e => e
  | .tup xs, v, ⟨a, vs, e, q, r⟩ => ⟨a, vs, e, t a vs q, RVs.shifted t xs vs r⟩
  | .ref n, v, ⟨a, e, q⟩ => ⟨a, e, by
      show (α ++ ρ)[n + α.length]? = some a
      rw [List.getElem?_append_right (Nat.le_add_left _ _), Nat.add_sub_cancel]; exact q⟩
theorem RVs.shifted {α : List Addr} (t : TS' K H H') : ∀ (xs : List D) (vs : List V), RVs K ρ H vs xs → RVs K (α ++ ρ) H' vs (D.shiftL α.length xs)
  | [], vs, e => e
  | x :: xs, vs, ⟨v, r, e, q, s⟩ => ⟨v, r, e, RV.shifted t x v q, RVs.shifted t xs r s⟩
end
theorem Xt.get (x : Xt ρ H ρ' H') (n : Nat) (a : Addr) (e : ρ[n]? = some a) : ρ'[n]? = some a := by
  obtain ⟨⟨τ, e1, _⟩, _⟩ := x
  rw [e1, List.getElem?_append_left (List.getElem?_eq_some_iff.mp e).1]
  exact e
theorem Wd.rv (w : Wd K ρ h H) (x : Xt ρ H ρ' H') {v : V} {d : D} (r : RV K ρ H v d) : RV K ρ' H' v d := RV.mono (w.tups x) x.get d v r
theorem Wd.rvs (w : Wd K ρ h H) (x : Xt ρ H ρ' H') {v : List V} {d : List D} (r : RVs K ρ H v d) : RVs K ρ' H' v d := RVs.mono (w.tups x) x.get d v r
theorem RVs.len : ∀ {xs : List D} {vs : List V}, RVs K ρ H vs xs → vs.length = xs.length
  | [], vs, e => by cases e; rfl
  | x :: xs, vs, ⟨v, r, e, _, s⟩ => by rw [e]; simp [RVs.len s]
theorem RVs.get : ∀ {xs : List D} {vs : List V} {i : Nat} {d : D}, RVs K ρ H vs xs → xs[i]? = some d → ∃ v, vs[i]? = some v ∧ RV K ρ H v d
  | [], vs, i, d, _, e => by simp at e
  | x :: xs, vs, 0, d, ⟨v, r, e1, q, s⟩, e => by
    have e' : x = d := by simpa using e
    exact ⟨v, by rw [e1]; rfl, e' ▸ q⟩
  | x :: xs, vs, i + 1, d, ⟨v, r, e1, q, s⟩, e => by
    obtain ⟨u, a, b⟩ := RVs.get (i := i) s (by simpa using e)
    exact ⟨u, by rw [e1]; simpa using a, b⟩
theorem RVs.getD' : ∀ {xs : List D} {vs : List V} {i : Nat} {v : V}, RVs K ρ H vs xs → vs[i]? = some v → ∃ d, xs[i]? = some d ∧ RV K ρ H v d := fun {xs vs i v} r e => by
  have hl : i < xs.length := by rw [← r.len]; exact (List.getElem?_eq_some_iff.mp e).1
  obtain ⟨u, a, b⟩ := r.get (List.getElem?_eq_getElem hl)
  rw [e] at a; cases a
  exact ⟨_, List.getElem?_eq_getElem hl, b⟩
theorem RVs.append : ∀ {xs ys : List D} {vs ws : List V}, RVs K ρ H vs xs → RVs K ρ H ws ys → RVs K ρ H (vs ++ ws) (xs ++ ys)
  | [], ys, vs, ws, e, q => by cases e; exact q
  | x :: xs, ys, vs, ws, ⟨v, r, e, p, s⟩, q => ⟨v, r ++ ws, by rw [e]; rfl, p, RVs.append s q⟩
theorem RVs.one {d : D} {v : V} (r : RV K ρ H v d) : RVs K ρ H [v] [d] := ⟨v, [], rfl, r, rfl⟩
theorem RVs.set : ∀ {xs : List D} {vs : List V} {v : V} {d : D} (i : Nat), RVs K ρ H vs xs → RV K ρ H v d → RVs K ρ H (vs.set i v) (xs.set i d)
  | [], vs, v, d, i, e, _ => by cases e; exact rfl
  | x :: xs, vs, v, d, 0, ⟨u, r, e, p, s⟩, q => ⟨v, r, by rw [e]; rfl, q, s⟩
  | x :: xs, vs, v, d, i + 1, ⟨u, r, e, p, s⟩, q => ⟨u, r.set i v, by rw [e]; rfl, p, RVs.set i s q⟩
theorem RVs.take : ∀ {xs : List D} {vs : List V} (n : Nat), RVs K ρ H vs xs → RVs K ρ H (vs.take n) (xs.take n)
  | xs, vs, 0, _ => by simp; exact rfl
  | [], vs, n + 1, e => by cases e; exact rfl
  | x :: xs, vs, n + 1, ⟨v, r, e, p, s⟩ => ⟨v, r.take n, by rw [e]; rfl, p, RVs.take n s⟩
theorem RVs.drop : ∀ {xs : List D} {vs : List V} (n : Nat), RVs K ρ H vs xs → RVs K ρ H (vs.drop n) (xs.drop n)
  | xs, vs, 0, e => e
  | [], vs, n + 1, e => by cases e; exact rfl
  | x :: xs, vs, n + 1, ⟨v, r, e, p, s⟩ => by rw [e]; exact RVs.drop n s
theorem RVs.reverse : ∀ {xs : List D} {vs : List V}, RVs K ρ H vs xs → RVs K ρ H vs.reverse xs.reverse
  | [], vs, e => by cases e; exact rfl
  | x :: xs, vs, ⟨v, r, e, p, s⟩ => by
    rw [e, List.reverse_cons, List.reverse_cons]
    exact (RVs.reverse s).append (RVs.one p)
theorem RVs.dropLast {xs : List D} {vs : List V} (r : RVs K ρ H vs xs) : RVs K ρ H vs.dropLast xs.dropLast := by
  rw [List.dropLast_eq_take, List.dropLast_eq_take, r.len]
  exact r.take _
theorem RVs.rep {xs : List D} {vs : List V} (r : RVs K ρ H vs xs) : ∀ k : Nat, RVs K ρ H (List.replicate k vs).flatten (List.replicate k xs).flatten
  | 0 => rfl
  | k + 1 => by
    rw [List.replicate_succ, List.replicate_succ, List.flatten_cons, List.flatten_cons]
    exact r.append (RVs.rep r k)
theorem RVs.nil_iff {xs : List D} {vs : List V} (r : RVs K ρ H vs xs) : vs = [] ↔ xs = [] := by
  rw [← List.length_eq_zero_iff, ← List.length_eq_zero_iff, r.len]
theorem RVs.map_int {ns : List Int} : ∀ {xs : List D} {vs : List V}, RVs K ρ H vs xs → intsOf xs = some ns → vs = ns.map V.int := by
  intro xs
  induction xs generalizing ns with
  | nil => intro vs e q; cases e; simp [intsOf] at q; subst q; rfl
  | cons x xs ih =>
    rintro vs ⟨v, r, e, p, s⟩ q
    cases x with
    | int i =>
      simp only [intsOf, Option.map_eq_some_iff] at q
      obtain ⟨ms, q1, q2⟩ := q
      have p' : v = .int i := p
      rw [e, ih s q1, p', ← q2]; rfl
    | _ => simp [intsOf] at q
theorem RVs.map_bl {bs : List Bool} : ∀ {xs : List D} {vs : List V}, RVs K ρ H vs xs → boolsOf xs = some bs → vs = bs.map V.bl := by
  intro xs
  induction xs generalizing bs with
  | nil => intro vs e q; cases e; simp [boolsOf] at q; subst q; rfl
  | cons x xs ih =>
    rintro vs ⟨v, r, e, p, s⟩ q
    cases x with
    | bl i =>
      simp only [boolsOf, Option.map_eq_some_iff] at q
      obtain ⟨ms, q1, q2⟩ := q
      have p' : v = .bl i := p
      rw [e, ih s q1, p', ← q2]; rfl
    | _ => simp [boolsOf] at q
theorem RVs.of_ints : ∀ (ns : List Int), RVs K ρ H (ns.map V.int) (ns.map D.int)
  | [] => rfl
  | n :: r => ⟨_, _, rfl, rfl, RVs.of_ints r⟩

/-! ### lists of the heap -/
theorem rd_lst (w : Wd K ρ h H) {n : Nat} {xs : List D} {v : V} (r : RV K ρ H v (.ref n)) (e : rdLst h n = some xs) : ∃ a vs, v = .ref a ∧ ρ[n]? = some a ∧ SqL K H a vs ∧ RVs K ρ H vs xs := by
  obtain ⟨a, ev, ea⟩ := r
  unfold rdLst at e
  split at e
  · rename_i ys q; cases e
    obtain ⟨vs, e1, e2⟩ := w.obj n _ a q ea
    exact ⟨a, vs, ev, ea, .inl (.inl e1), e2⟩
  · rename_i ys q; cases e
    obtain ⟨o, vs, e1, e2⟩ := w.obj n _ a q ea
    exact ⟨a, vs, ev, ea, .inl (.inr ⟨o, e1⟩), e2⟩
  · cases e
theorem is_lst (w : Wd K ρ h H) {n : Nat} {xs : List D} {v : V} (r : RV K ρ H v (.ref n)) (e : isLst h n = some xs) : ∃ a vs, v = .ref a ∧ ρ[n]? = some a ∧ h[n]? = some (.lst xs) ∧ H a = some (.lst vs) ∧ RVs K ρ H vs xs := by
  obtain ⟨a, ev, ea⟩ := r
  unfold isLst at e
  split at e
  · rename_i ys q; cases e
    obtain ⟨vs, e1, e2⟩ := w.obj n _ a q ea
    exact ⟨a, vs, ev, ea, q, e1, e2⟩
  · cases e
/-- a list or a tuple -/
theorem seq_of (w : Wd K ρ h H) {d : D} {xs : List D} {v : V} (r : RV K ρ H v d) (e : seqOf h d = some xs) : ∃ a vs, v = .ref a ∧ (SqL K H a vs ∨ SqT K H a vs) ∧ RVs K ρ H vs xs := by
  cases d with
  | tup ys =>
    simp only [seqOf, Option.some.injEq] at e; subst e
    obtain ⟨a, vs, e1, e2, e3⟩ := r
    exact ⟨a, vs, e1, .inr e2, e3⟩
  | ref n =>
    obtain ⟨a, vs, e1, _, e2, e3⟩ := rd_lst w r e
    exact ⟨a, vs, e1, .inl e2, e3⟩
  | _ => simp [seqOf] at e
theorem TS'.upd {p : Addr} {o : HO} (n : H p = none) : TS' K H (upd H p o) := by
  intro a vs q
  rcases q with (q | ⟨u, q⟩) | q
  · exact .inl (.inl (by rw [upd_ne (ne_of_none q n)]; exact q))
  · exact .inl (.inr ⟨u, by rw [upd_ne (ne_of_none q n)]; exact q⟩)
  · exact .inr q
theorem OR.mono (t : TS' K H H') (p : ∀ (n : Nat) a, ρ[n]? = some a → ρ'[n]? = some a) {a : Addr} {o : O} (e : H' a = H a) (r : OR K ρ H a o) : OR K ρ' H' a o := by
  cases o with
  | lst xs => obtain ⟨vs, e1, r⟩ := r; exact ⟨vs, by rw [e]; exact e1, RVs.mono t p _ _ r⟩
  | ro xs => obtain ⟨u, vs, e1, r⟩ := r; exact ⟨u, vs, by rw [e]; exact e1, RVs.mono t p _ _ r⟩
  | dct _ => exact r
/-- a new object that we do not name -/
theorem xt_new {p : Addr} {o : HO} (n : H p = none) : Xt ρ H ρ (upd H p o) :=
  ⟨⟨[], by simp, by simp⟩, fun a u e _ => by rw [upd_ne (ne_of_none e n)]; exact e, fun a e => by
    by_cases q : a = p
    · rw [q, upd_same]; simp
    · rw [upd_ne q]; exact e⟩
theorem Wd.new (w : Wd K ρ h H) {p : Addr} {o : HO} (n : H p = none) : Wd K ρ h (upd H p o) := by
  refine ⟨w.len, w.nd, fun i u a e1 e2 => ?_⟩
  have hne : a ≠ p := fun q => w.there (mem_of_get e2) (by rw [q]; exact n)
  exact OR.mono (TS'.upd n) (fun _ _ e => e) (upd_ne hne) (w.obj i u a e1 e2)
/-- a new list -/
theorem Wd.alloc (w : Wd K ρ h H) {p : Addr} {vs : List V} {xs : List D} (n : H p = none) (r : RVs K ρ H vs xs) :
    Xt ρ H (ρ ++ [p]) (upd H p (.lst vs)) ∧ Wd K (ρ ++ [p]) (h ++ [.lst xs]) (upd H p (.lst vs)) ∧ RV K (ρ ++ [p]) (upd H p (.lst vs)) (.ref p) (.ref h.length) := by
  have pn : p ∉ ρ := fun m => w.there m n
  have pre : ∀ (i : Nat) a, ρ[i]? = some a → (ρ ++ [p])[i]? = some a := fun i a e => by
    rw [List.getElem?_append_left (List.getElem?_eq_some_iff.mp e).1]; exact e
  refine ⟨⟨⟨[p], rfl, fun a m => by simp at m; rw [m]; exact n⟩, (xt_new (ρ := ρ) n).frame, (xt_new (ρ := ρ) n).keep⟩, ⟨by simp [w.len], ?_, fun i o a e1 e2 => ?_⟩, ⟨p, rfl, ?_⟩⟩
  · exact List.nodup_append.mpr ⟨w.nd, by simp, fun a m b mb e => by simp at mb; exact pn (by rw [← mb, ← e]; exact m)⟩
  · by_cases hi : i < h.length
    · rw [List.getElem?_append_left hi] at e1
      rw [List.getElem?_append_left (by rw [w.len]; exact hi)] at e2
      have hne : a ≠ p := fun q => pn (q ▸ mem_of_get e2)
      exact OR.mono (TS'.upd n) pre (upd_ne hne) (w.obj i o a e1 e2)
    · have hi2 : i = h.length := by
        have := (List.getElem?_eq_some_iff.mp e1).1
        simp at this; omega
      subst hi2
      rw [List.getElem?_append_right (Nat.le_refl _)] at e1
      rw [← w.len, List.getElem?_append_right (Nat.le_refl _)] at e2
      simp at e1 e2
      subst e1; subst e2
      exact ⟨vs, upd_same, RVs.mono (TS'.upd n) pre xs vs r⟩
  · rw [← w.len, List.getElem?_append_right (Nat.le_refl _)]; simp
/-- a list is changed -/
theorem Wd.write (w : Wd K ρ h H) {n : Nat} {a : Addr} {vs vs' : List V} {xs' : List D} (ea : ρ[n]? = some a) (e : H a = some (.lst vs)) (r : RVs K ρ H vs' xs') :
    Xt ρ H ρ (upd H a (.lst vs')) ∧ Wd K ρ (setH h n (.lst xs')) (upd H a (.lst vs')) := by
  have t : TS' K H (upd H a (.lst vs')) := by
    intro b ws q
    rcases q with (q | ⟨u, q⟩) | q
    · have : b ≠ a := fun z => by rw [z, e] at q; cases q
      exact .inl (.inl (by rw [upd_ne this]; exact q))
    · have : b ≠ a := fun z => by rw [z, e] at q; cases q
      exact .inl (.inr ⟨u, by rw [upd_ne this]; exact q⟩)
    · exact .inr q
  refine ⟨⟨⟨[], by simp, by simp⟩, fun b u q m => ?_, fun b q => ?_⟩, ⟨by simp [setH, w.len], w.nd, fun i o b e1 e2 => ?_⟩⟩
  · have : b ≠ a := fun z => m (z ▸ mem_of_get ea)
    rw [upd_ne this]; exact q
  · by_cases z : b = a
    · rw [z, upd_same]; simp
    · rw [upd_ne z]; exact q
  · by_cases hi : i = n
    · subst hi
      rw [ea] at e2; cases e2
      have hl : i < h.length := by
        rw [← w.len]; exact (List.getElem?_eq_some_iff.mp ea).1
      rw [setH, List.getElem?_set_self hl] at e1; cases e1
      exact ⟨vs', upd_same, RVs.mono t (fun _ _ q => q) xs' vs' r⟩
    · rw [setH, List.getElem?_set_ne (Ne.symm hi)] at e1
      have hne : b ≠ a := fun z => hi (nd_ix w.nd e2 (z ▸ ea))
      exact OR.mono t (fun _ _ q => q) (upd_ne hne) (w.obj i o b e1 e2)

/-! ### equality of heaps, forgetting -/
mutual
theorem D.beq_eq : ∀ (x y : D), x.beq y = true → x = y
  | .non, y, e => by cases y <;> first | rfl | simp [D.beq] at e
  | .bl a, y, e => by cases y <;> first | (simp [D.beq] at e; rw [e]) | simp [D.beq] at e
  | .int a, y, e => by cases y <;> first | (simp [D.beq] at e; rw [e]) | simp [D.beq] at e
  | .str a, y, e => by cases y <;> first | (simp [D.beq] at e; rw [e]) | simp [D.beq] at e
  | .ref a, y, e => by cases y <;> first | (simp [D.beq] at e; rw [e]) | simp [D.beq] at e
  | .tup a, y, e => by
    cases y with
    | tup b => rw [D.beqL_eq a b (by simpa [D.beq] using e)]
    | _ => simp [D.beq] at e
theorem D.beqL_eq : ∀ (x y : List D), D.beqL x y = true → x = y
  | [], y, e => by cases y <;> first | rfl | simp [D.beqL] at e
  | a :: x, y, e => by
    cases y with
    | nil => simp [D.beqL] at e
    | cons b y =>
      have e' : a.beq b = true ∧ D.beqL x y = true := by simpa [D.beqL] using e
      rw [D.beq_eq a b e'.1, D.beqL_eq x y e'.2]
end
theorem D.beqK_eq : ∀ (x y : List (D × D)), D.beqK x y = true → x = y
  | [], y, e => by cases y <;> first | rfl | simp [D.beqK] at e
  | (a1, a2) :: x, y, e => by
    cases y with
    | nil => simp [D.beqK] at e
    | cons b y =>
      obtain ⟨b1, b2⟩ := b
      have e' : (a1.beq b1 = true ∧ a2.beq b2 = true) ∧ D.beqK x y = true := by simpa [D.beqK] using e
      rw [D.beq_eq a1 b1 e'.1.1, D.beq_eq a2 b2 e'.1.2, D.beqK_eq x y e'.2]
theorem O.beq_eq (x y : O) (e : x.beq y = true) : x = y := by
  cases x <;> cases y <;> simp only [O.beq] at e <;> first | (rw [D.beqL_eq _ _ e]) | (rw [D.beqK_eq _ _ e]) | cases e
theorem beqH_eq : ∀ (x y : List O), beqH x y = true → x = y
  | [], y, e => by cases y <;> first | rfl | simp [beqH] at e
  | a :: x, y, e => by
    cases y with
    | nil => simp [beqH] at e
    | cons b y =>
      have e' : a.beq b = true ∧ beqH x y = true := by simpa [beqH] using e
      rw [O.beq_eq a b e'.1, beqH_eq x y e'.2]
/-- what was ahead may be told again where it did not change -/
theorem Wd.back (w : Wd K ρ h H) (x : Xt ρ H ρ' H') (w' : Wd K ρ' h' H') (e : h'.take h.length = h) : Wd K ρ h H' := by
  obtain ⟨⟨τ, e1, _⟩, f, k⟩ := x
  refine ⟨w.len, w.nd, fun i o a e2 e3 => ?_⟩
  have hi : i < h.length := (List.getElem?_eq_some_iff.mp e2).1
  have e4 : h'[i]? = some o := by
    rw [← e2, ← e]
    simp [List.getElem?_take, hi]
  have e5 : ρ'[i]? = some a := by
    rw [e1, List.getElem?_append_left (by rw [w.len]; exact hi)]; exact e3
  have r := w'.obj i o a e4 e5
  -- the references within lie below
  have r0 := w.obj i o a e2 e3
  have t := w.tups ⟨⟨τ, e1, by assumption⟩, f, k⟩
  have low : ∀ (xs : List D) (vs us : List V), RVs K ρ H us xs → RVs K ρ' H' vs xs → RVs K ρ H' vs xs := by
    have both : (∀ (d : D) (v u : V), RV K ρ H u d → RV K ρ' H' v d → RV K ρ H' v d) := by
      intro d
      exact D.rec (motive_1 := fun d => ∀ (v u : V), RV K ρ H u d → RV K ρ' H' v d → RV K ρ H' v d)
        (motive_2 := fun xs => ∀ (vs us : List V), RVs K ρ H us xs → RVs K ρ' H' vs xs → RVs K ρ H' vs xs)
        (fun v u _ r => r) (fun b v u _ r => r) (fun i v u _ r => r) (fun s v u _ r => r)
        (fun xs ih v u ⟨a, us, _, _, r1⟩ ⟨b, vs, ev, q, r2⟩ => ⟨b, vs, ev, q, ih vs us r1 r2⟩)
        (fun n v u ⟨a, _, q1⟩ ⟨b, ev, q2⟩ => ⟨b, ev, by
          rw [e1, List.getElem?_append_left (List.getElem?_eq_some_iff.mp q1).1] at q2
          exact q2⟩)
        (fun vs us _ r => r)
        (fun x xs ih1 ih2 vs us ⟨u, ur, _, p1, s1⟩ ⟨v, vr, ev, p2, s2⟩ => ⟨v, vr, ev, ih1 v u p1 p2, ih2 vr ur s1 s2⟩) d
    intro xs
    induction xs with
    | nil => exact fun vs us _ r => r
    | cons x xs ih => exact fun vs us ⟨u, ur, _, p1, s1⟩ ⟨v, vr, ev, p2, s2⟩ => ⟨v, vr, ev, both x v u p1 p2, ih vr ur s1 s2⟩
  cases o with
  | lst xs =>
    obtain ⟨vs, q1, q2⟩ := r
    obtain ⟨us, _, p2⟩ := r0
    exact ⟨vs, q1, low xs vs us p2 q2⟩
  | ro xs =>
    obtain ⟨u, vs, q1, q2⟩ := r
    obtain ⟨_, us, _, p2⟩ := r0
    exact ⟨u, vs, q1, low xs vs us p2 q2⟩
  | dct _ => exact r
theorem Xt.cut (x : Xt ρ H ρ' H') : Xt ρ H ρ H' := ⟨⟨[], by simp, by simp⟩, x.frame, x.keep⟩
/-- behind gc: some naming of the objects -/
theorem gc_ok (w : Wd K ρ h H) (x : Xt ρ H ρ' H') (w' : Wd K ρ' h' H') {v : V} {d : D} (r : RV K ρ' H' v d) : ∃ ρ'', Xt ρ H ρ'' H' ∧ Wd K ρ'' (gc h d h') H' ∧ RV K ρ'' H' v d := by
  unfold gc
  split
  · exact ⟨ρ', x, w', r⟩
  · split
    · rename_i q
      simp only [Bool.and_eq_true] at q
      have e := beqH_eq _ _ q.2
      exact ⟨ρ, x.cut, w.back x w' e, RV.any TS'.refl d v q.1 r⟩
    · exact ⟨ρ', x, w', r⟩
end Mini
end

section
/-! Mini: the evaluator's expressions are the model's (own work). -/
namespace Mini
open PySem PySem.Spec PyProof.Rows L2

/-! ### what is wanted of an end -/
/-- the fields of an exception's own dict -/
def XF (K : PySem.W.Frag) (C : List Cl) (ρ : List Addr) (H : Hp) (c : Nat) (fs : List D) (fl : List (Str × V)) : Prop :=
  ∃ k : Cl, C[c]? = some k ∧ ∀ x d, (k.flds.zip fs).lookup x = some d → ∃ v, fl.lookup x = some v ∧ RV K ρ H v d
def ExP (K : PySem.W.Frag) (C : List Cl) (ca : Nat → Addr) (ρ : List Addr) (H : Hp) (Wc : Value → Option Addr → Hp → Prop) (c : Nat) (fs : List D) (h' : List O) : Prop :=
  ∀ ρ' H' dd fl, Xt ρ H ρ' H' → Wd K ρ' h' H' → H' dd = some (.xd fl) → XF K C ρ' H' c fs fl → Wc (.ref (ca c)) (some dd) H'
/-- the context that stands still -/
structure Ct where
  K : PySem.W.Frag
  C : List Cl
  ca : Nat → Addr
abbrev Rel (α β : Type) := List Addr → Hp → β → α → Prop
def Post (Z : Ct) {α β : Type} (ρ : List Addr) (H : Hp) (rel : Rel α β) (Wc : Value → Option Addr → Hp → Prop) (Q : β → Hp → Prop) : Option (R α) → Prop
  | none => False
  | some (.ok a h') => ∀ ρ' H' b, Xt ρ H ρ' H' → Wd Z.K ρ' h' H' → rel ρ' H' b a → Q b H'
  | some (.exc c fs h') => ExP Z.K Z.C Z.ca ρ H Wc c fs h'
section
variable {Z : Ct} {α β γ δ : Type} {ρ ρ1 : List Addr} {H H1 : Hp} {rel : Rel α β} {rel2 : Rel γ δ} {Wc : Value → Option Addr → Hp → Prop} {Q : β → Hp → Prop} {Q2 : δ → Hp → Prop}
theorem ExP.fwd {c : Nat} {fs : List D} {h' : List O} (x : Xt ρ H ρ1 H1) (p : ExP Z.K Z.C Z.ca ρ H Wc c fs h') : ExP Z.K Z.C Z.ca ρ1 H1 Wc c fs h' :=
  fun ρ' H' dd fl x' w e f => p ρ' H' dd fl (x.trans x') w e f
theorem Post.fwd {r : Option (R α)} (x : Xt ρ H ρ1 H1) (p : Post Z ρ H rel Wc Q r) : Post Z ρ1 H1 rel Wc Q r := by
  cases r with
  | none => exact p
  | some r =>
    cases r with
    | ok a h' => exact fun ρ' H' b x' w q => p ρ' H' b (x.trans x') w q
    | exc c fs h' => exact ExP.fwd x p
theorem Post.ok {a : α} {h' : List O} (p : Post Z ρ H rel Wc Q (some (.ok a h'))) {ρ' H' b} (x : Xt ρ H ρ' H') (w : Wd Z.K ρ' h' H') (q : rel ρ' H' b a) : Q b H' := p ρ' H' b x w q
/-- the first of two in a row -/
theorem Post.bnd {m : Option (R α)} {f : α → List O → Option (R γ)} {Q1 : β → Hp → Prop} (p : Post Z ρ H rel2 Wc Q2 (Mini.bnd m f))
    (k : ∀ a h1 ρ1 H1 b, Post Z ρ1 H1 rel2 Wc Q2 (f a h1) → Xt ρ H ρ1 H1 → Wd Z.K ρ1 h1 H1 → rel ρ1 H1 b a → Q1 b H1) : Post Z ρ H rel Wc Q1 m := by
  cases m with
  | none => exact p
  | some r =>
    cases r with
    | ok a h' => exact fun ρ' H' b x' w q => k a h' ρ' H' b (Post.fwd x' p) x' w q
    | exc c fs h' => exact p
theorem Post.imp {r : Option (R α)} {Q1 : β → Hp → Prop} (p : Post Z ρ H rel Wc Q r) (k : ∀ b H', Q b H' → Q1 b H') : Post Z ρ H rel Wc Q1 r := by
  cases r with
  | none => exact p
  | some r =>
    cases r with
    | ok a h' => exact fun ρ' H' b x' w q => k _ _ (p ρ' H' b x' w q)
    | exc c fs h' => exact p
end
/-- env is what the slots hold -/
structure EnvR (K : PySem.W.Frag) (ρ : List Addr) (H : Hp) (σ : L2.St) (env : Env) : Prop where
  len : σ.length = env.length
  at' : ∀ (i : Nat) d, env[i]? = some (some d) → ∃ v, σ[i]? = some (some v) ∧ RV K ρ H v d
section
variable {K : PySem.W.Frag} {ρ ρ' : List Addr} {H H' : Hp} {h : List O} {σ : L2.St} {env : Env}
theorem EnvR.fwd (w : Wd K ρ h H) (x : Xt ρ H ρ' H') (e : EnvR K ρ H σ env) : EnvR K ρ' H' σ env :=
  ⟨e.len, fun i d q => let ⟨v, a, b⟩ := e.at' i d q; ⟨v, a, w.rv x b⟩⟩
theorem EnvR.set (e : EnvR K ρ H σ env) {i : Nat} {v : V} {d : D} (r : RV K ρ H v d) : EnvR K ρ H (σ.set i (some v)) (env.set i (some d)) := by
  refine ⟨by simp [e.len], fun j d' q => ?_⟩
  by_cases hj : i = j
  · subst hj
    have hl : i < env.length := by
      have := (List.getElem?_eq_some_iff.mp q).1
      simpa using this
    rw [List.getElem?_set_self hl] at q; cases q
    exact ⟨v, by rw [List.getElem?_set_self (by rw [e.len]; exact hl)], r⟩
  · rw [List.getElem?_set_ne hj] at q
    obtain ⟨u, a, b⟩ := e.at' j d' q
    exact ⟨u, by rw [List.getElem?_set_ne hj]; exact a, b⟩
theorem EnvR.wipe (e : EnvR K ρ H σ env) : ∀ vs : List Nat, EnvR K ρ H (wipe σ vs) (wipeD env vs)
  | [] => e
  | v :: vs => by
    have ih := EnvR.wipe e vs
    refine ⟨by show ((L2.wipe σ vs).set v none).length = ((wipeD env vs).set v none).length; simp [ih.len], fun j d q => ?_⟩
    have q' : ((wipeD env vs).set v none)[j]? = some (some d) := q
    by_cases hj : v = j
    · subst hj
      by_cases hl : v < (wipeD env vs).length
      · rw [List.getElem?_set_self hl] at q'; cases q'
      · rw [List.getElem?_eq_none (by simpa using hl)] at q'; cases q'
    · rw [List.getElem?_set_ne hj] at q'
      obtain ⟨u, a, b⟩ := ih.at' j d q'
      exact ⟨u, by show ((L2.wipe σ vs).set v none)[j]? = _; rw [List.getElem?_set_ne hj]; exact a, b⟩
end

/-! ### a def's promise, wherever no repr runs -/
structure FnG (P : Program) (w : World) (K : PySem.W.Frag) (mg : Str → Option Value) (base : Heap) (k : Nat) (f : Addr) (fd : FuncData) (ps : List Str) (sp : Sp) : Prop where
  len : ∀ vs H Q E, sp vs H Q E → vs.length = ps.length
  run : ∀ (A : Around) (outer : List PySem.Env) (s : Shared) (H : Hp) (args : Args) (us : List Value) (vs : List V) (Q : VK) (E : XK), Room (k + 3) A → A.guards = some [] →
    Env0 P w K mg base A outer s H → BindsTo s fd args (ps.zip us) → Vals vs us → sp vs H Q E → codeAny (model P w) A (.call (.ref f) args) (CR (L2.CX P w) outer P w H s Q E) s
/-- a call of a def of the text -/
theorem pe_callG {X : Cx} {W : WX} {k : Nat} {f : Addr} {fd : FuncData} {ps : List Str} {sp : Sp} {dvs : List V} {ds : List Value} {x : Str} {p pos : Pos} {e : Expr} {es : List Expr} {t : TA}
    (F : FnG X.prog X.w X.K X.mg X.base k f fd ps sp) (hr : Room (k + 3) X.A) (hgd : X.A.guards = some []) (hg : Gl X x) (hm : X.mg x = some (.ref f)) (hk : PySem.W.keepIn X.K (.ref f) = true)
    (hb : Binds X.K fd ps ds) (hd : Vals dvs ds) (tk : Takes X W) (ha : PA X (e :: es) t) (hdb : (x == ("__debug__" : Str)) = false)
    (he : starEach (e :: es) X.env = (false, eval e X.env) :: starEach es X.env) (hpl : (backTo pos (starEach es X.env)).any (·.1) = false) :
    PE X (.Call (.Name x p) (e :: es) [] pos) (fun σ H Q => t σ H fun vs H1 => sp (vs ++ dvs) H1 Q fun c d H' => W c d σ H') := by
  constructor
  intro pins s σ H Q I hw
  apply wpAny_Call_Name_kw
  apply ld_glob I hg hm ?_ hdb
  apply PySem.W.callWith_K (h₀ := X.base) I.ok.mod.kin hk ?_ he hpl
  refine thn (ha.run pos pins s σ H _ I hw) fun us s1 hq => ?_
  obtain ⟨vs, H1, I1, r, q⟩ := hq
  refine ⟨I1.kIn, ?_⟩
  have r2 : Vals (vs ++ dvs) (us ++ ds) := r.append hd
  have hl : (us ++ ds).length = ps.length := by
    rw [← r2.length]
    exact F.len _ _ _ _ q
  have run := F.run X.A X.stack s1 H1 ⟨us, []⟩ (us ++ ds) (vs ++ dvs) Q _ hr hgd I1.env0 (hb s1 us I1.kIn hl) r2 q
  apply wpAny_call
  refine codeAny_mono run fun z s' hz => ?_
  cases z with
  | error er => exact tk er s' (XE.of_call I1 (fun _ _ _ h => h) hz)
  | ok fl =>
    cases fl with
    | ret u => exact I1.after hz
    | next => exact hz.elim
    | brk => exact hz.elim
    | cont => exact hz.elim

/-- .. without arguments -/
theorem pe_callG0 {X : Cx} {W : WX} {k : Nat} {f : Addr} {fd : FuncData} {ps : List Str} {sp : Sp} {dvs : List V} {ds : List Value} {x : Str} {p pos : Pos}
    (F : FnG X.prog X.w X.K X.mg X.base k f fd ps sp) (hr : Room (k + 3) X.A) (hgd : X.A.guards = some []) (hg : Gl X x) (hm : X.mg x = some (.ref f)) (hk : PySem.W.keepIn X.K (.ref f) = true)
    (hb : Binds X.K fd ps ds) (hd : Vals dvs ds) (tk : Takes X W) (hdb : (x == ("__debug__" : Str)) = false) :
    PE X (.Call (.Name x p) [] [] pos) (fun σ H Q => sp dvs H Q fun c d H' => W c d σ H') := by
  constructor
  intro pins s σ H Q I q
  apply wpAny_Call_Name_kw
  apply ld_glob I hg hm ?_ hdb
  apply PySem.W.callWith_K0 I.kIn hk
  have hl : ([] ++ ds).length = ps.length := by
    rw [List.nil_append, ← hd.length]
    exact F.len _ _ _ _ q
  have run := F.run X.A X.stack s H ⟨[], []⟩ ds dvs Q _ hr hgd I.env0 (hb s [] I.kIn hl) hd q
  apply wpAny_call
  refine codeAny_mono run fun z s' hz => ?_
  cases z with
  | error er => exact tk er s' (XE.of_call I (fun _ _ _ h => h) hz)
  | ok fl =>
    cases fl with
    | ret u => exact I.after hz
    | next => exact hz.elim
    | brk => exact hz.elim
    | cont => exact hz.elim

/-! ### shapes of the text -/
def plainX : PySem.Expr → Bool
  | .Starred .. => false
  | .Slice .. => false
  | .Set .. => false
  | .NamedExpr .. => false
  | _ => true
theorem plain_star {e : PySem.Expr} (h : plainX e = true) (es : List PySem.Expr) (env : PySem.Env) : starEach (e :: es) env = (false, eval e env) :: starEach es env := by
  cases e <;> first | rfl | cases h
theorem plain_ix {e : PySem.Expr} (h : plainX e = true) : PlainIx e := fun o i => by
  cases e <;> first | rfl | cases h
theorem plain_set {e : PySem.Expr} (h : plainX e = true) (env : PySem.Env) (x : Value) : foldedSetIterable e env x = pure x := by
  cases e <;> first | rfl | cases h
theorem plain_mark {e : PySem.Expr} (h : plainX e = true) (op : CmpOp) : behindInMarks op e = false := by
  cases e <;> first | rfl | cases h
theorem plain_any {pos : Pos} {env : PySem.Env} : ∀ {es : List PySem.Expr}, es.all plainX = true → (backTo pos (starEach es env)).any (·.1) = false
  | [], _ => rfl
  | e :: es, h => by
    have h' : plainX e = true ∧ es.all plainX = true := by simpa using h
    rw [plain_star h'.1]
    show (false || (backTo pos (starEach es env)).any (·.1)) = false
    rw [plain_any h'.2]; rfl
end Mini
end

section
/-! Mini: operators, comparisons, truth, built-ins by values (own work). -/
namespace Mini
open PySem PySem.Spec PyProof.Rows L2

theorem lim_eq : lim = sizeLine := by rw [sizeLine_eq]; rfl
abbrev relD (K : PySem.W.Frag) : Rel D V := fun ρ H v d => RV K ρ H v d
abbrev relL (K : PySem.W.Frag) : Rel (List D) (List V) := fun ρ H v d => RVs K ρ H v d
abbrev relB : Rel Bool Bool := fun _ _ b a => b = a
abbrev relO : Rel (Option Int) (Option Int) := fun _ _ b a => b = a
section
variable {Z : Ct} {ρ : List Addr} {H : Hp} {h : List O} {Wc : Value → Option Addr → Hp → Prop} {Q : VK}
theorem post_int {i : Int} (w : Wd Z.K ρ h H) (p : Post Z ρ H (relD Z.K) Wc Q (okI i h)) : Q (.int i) H := p.ok Xt.refl w rfl
theorem post_bl {b : Bool} (w : Wd Z.K ρ h H) (p : Post Z ρ H (relD Z.K) Wc Q (okB b h)) : Q (.bl b) H := p.ok Xt.refl w rfl
theorem post_alloc {vs : List V} {xs : List D} (w : Wd Z.K ρ h H) (r : RVs Z.K ρ H vs xs) (p : Post Z ρ H (relD Z.K) Wc Q (alloc (.lst xs) h)) : ∀ a, H a = none → Q (.ref a) (upd H a (.lst vs)) := fun a n => by
  obtain ⟨x, w', r'⟩ := w.alloc n r
  exact p.ok x w' r'
theorem post_tup {vs : List V} {xs : List D} (w : Wd Z.K ρ h H) (r : RVs Z.K ρ H vs xs) (p : Post Z ρ H (relD Z.K) Wc Q (some (.ok (.tup xs) h))) : ∀ a, H a = none → Q (.ref a) (upd H a (.tup vs)) := fun a n =>
  p.ok (xt_new n) (w.new n) ⟨a, vs, rfl, .inl (.inl upd_same), RVs.mono (TS'.upd n) (fun _ _ e => e) _ _ r⟩
end
/-- an operator by values: what the evaluator makes is what the rule wants -/
def OpS (X : Cx) (C : List Cl) (ca : Nat → Addr) (f : Value → Value → Sem Value) (g : D → D → List O → Option (R D)) : Prop :=
  ∃ r : R2, OpR X f r ∧ ∀ {ρ : List Addr} {H : Hp} {h : List O} {Wc : Value → Option Addr → Hp → Prop} {Q : VK} {u v : V} {x y : D}, Wd X.K ρ h H → RV X.K ρ H u x → RV X.K ρ H v y →
    Post ⟨X.K, C, ca⟩ ρ H (relD X.K) Wc Q (g x y h) → r u v H Q
section
variable {X : Cx} {C : List Cl} {ca : Nat → Addr}
theorem opS_none {f : Value → Value → Sem Value} {g : D → D → List O → Option (R D)} (hg : ∀ x y h, g x y h = none) : OpS X C ca f g :=
  ⟨fun _ _ _ _ => False, fun _ _ _ _ _ _ _ _ _ _ _ _ q => q.elim, fun w r1 r2 p => by rw [hg] at p; exact p⟩
theorem add_ok : OpS X C ca (binaryOp .Add) (binD .Add) := by
  refine ⟨_, op_add.or (op_catA.or op_cat), ?_⟩
  intro ρ H h Wc Q u v x y w r1 r2 p
  have p' : Post ⟨X.K, C, ca⟩ ρ H (relD X.K) Wc Q (addD x y h) := p
  unfold addD at p'
  split at p'
  · cases r1; cases r2
    exact .inl ⟨_, _, rfl, rfl, post_int w p'⟩
  · obtain ⟨a, us, rfl, q1, s1⟩ := r1
    obtain ⟨b, vs, rfl, q2, s2⟩ := r2
    split at p'
    · rename_i hl
      refine .inr (.inl ⟨a, b, us, vs, rfl, rfl, q1, q2, by rw [s1.len, s2.len, ← lim_eq]; exact hl, fun e => ?_, fun e1 e2 => ?_, fun e1 e2 => ?_⟩)
      · subst e
        have : _ = [] := s1.nil_iff.mp rfl
        subst this
        exact p'.ok Xt.refl w ⟨b, vs, rfl, q2, s2⟩
      · subst e2
        have : _ = [] := s2.nil_iff.mp rfl
        subst this
        rw [List.append_nil] at p'
        exact p'.ok Xt.refl w ⟨a, us, rfl, q1, s1⟩
      · exact post_tup w (s1.append s2) p'
    · exact p'.elim
  · split at p'
    · rename_i xs ys e1 e2
      obtain ⟨a, us, rfl, _, _, q1, s1⟩ := is_lst w r1 e1
      obtain ⟨b, vs, rfl, _, _, q2, s2⟩ := is_lst w r2 e2
      split at p'
      · rename_i hl
        exact .inr (.inr ⟨a, b, us, vs, rfl, rfl, q1, q2, by rw [s1.len, s2.len, ← lim_eq]; exact hl, post_alloc w (s1.append s2) p'⟩)
      · exact p'.elim
    · exact p'.elim
  · exact p'.elim
theorem sub_ok : OpS X C ca (binaryOp .Sub) (binD .Sub) := by
  refine ⟨_, op_sub, ?_⟩
  intro ρ H h Wc Q u v x y w r1 r2 p
  unfold binD at p
  dsimp only at p
  split at p
  · cases r1; cases r2
    exact ⟨_, _, rfl, rfl, post_int w p⟩
  · exact p.elim
theorem mulOk_of {i j : Int} (e : mulOk i j = true) : CMul i j ∨ CMulW i j := by
  simp only [mulOk, Bool.or_eq_true, decide_eq_true_eq] at e
  rcases e with (e | e) | e
  · exact .inl (.inl (by omega))
  · exact .inl (.inr (by omega))
  · exact .inr e
theorem mul_ok : OpS X C ca (binaryOp .Mult) (binD .Mult) := by
  refine ⟨_, (op_mul.or op_mulW).or (op_repT.or op_rep), ?_⟩
  intro ρ H h Wc Q u v x y w r1 r2 p
  have p' : Post ⟨X.K, C, ca⟩ ρ H (relD X.K) Wc Q (mulD x y h) := p
  unfold mulD at p'
  split at p'
  · cases r1; cases r2
    split at p'
    · rename_i e
      rcases mulOk_of e with e | e
      · exact .inl (.inl ⟨_, _, rfl, rfl, e, post_int w p'⟩)
      · exact .inl (.inr ⟨_, _, rfl, rfl, e, post_int w p'⟩)
    · exact p'.elim
  · obtain ⟨a, us, rfl, q1, s1⟩ := r1
    cases r2
    split at p'
    · rename_i xs k e
      simp only [Bool.and_eq_true, decide_eq_true_eq] at e
      obtain ⟨⟨e1, e2⟩, e3⟩ := e
      have hk : 1 ≤ k.toNat := by omega
      have e4 : k.toNat ≤ 1000 := Nat.le_trans (Nat.le_mul_of_pos_left _ e3) e1
      have e5 : xs.length ≤ 1000 := Nat.le_trans (Nat.le_mul_of_pos_right _ hk) e1
      refine .inr (.inl ⟨a, k, us, rfl, rfl, q1, fun z => ?_, e2, by omega, by rw [s1.len]; exact e5, post_tup w (s1.rep _) p'⟩)
      rw [s1.nil_iff.mp z] at e3
      exact absurd e3 (by simp)
    · exact p'.elim
  · cases r2
    split at p'
    · rename_i xs e1
      obtain ⟨a, us, rfl, _, _, q1, s1⟩ := is_lst w r1 e1
      split at p'
      · rename_i e
        simp only [Bool.and_eq_true, decide_eq_true_eq] at e
        exact .inr (.inr ⟨a, _, us, rfl, rfl, q1, e.1.2, e.2, by rw [s1.len, ← lim_eq]; exact e.1.1, post_alloc w (s1.rep _) p'⟩)
      · exact p'.elim
    · exact p'.elim
  · exact p'.elim
theorem div_ok : OpS X C ca (binaryOp .FloorDiv) (binD .FloorDiv) := by
  refine ⟨_, op_fdivW.or op_fdivN, ?_⟩
  intro ρ H h Wc Q u v x y w r1 r2 p
  unfold binD at p
  dsimp only at p
  split at p
  · cases r1; cases r2
    split at p
    · rename_i e
      simp only [Bool.and_eq_true, decide_eq_true_eq] at e
      exact .inl ⟨_, _, rfl, rfl, ⟨e.1, e.2⟩, post_int w p⟩
    · split at p
      · rename_i e
        simp only [Bool.and_eq_true, decide_eq_true_eq] at e
        exact .inr ⟨_, _, rfl, rfl, ⟨e.1, e.2⟩, post_int w p⟩
      · exact p.elim
  · exact p.elim
theorem mod_ok : OpS X C ca (binaryOp .Mod) (binD .Mod) := by
  refine ⟨_, op_mod.or op_modN, ?_⟩
  intro ρ H h Wc Q u v x y w r1 r2 p
  unfold binD at p
  dsimp only at p
  split at p
  · cases r1; cases r2
    split at p
    · rename_i e
      exact .inl ⟨_, _, rfl, rfl, e, post_int w p⟩
    · split at p
      · rename_i e
        exact .inr ⟨_, _, rfl, rfl, e, post_int w p⟩
      · exact p.elim
  · exact p.elim
theorem pow_ok : OpS X C ca (binaryOp .Pow) (binD .Pow) := by
  refine ⟨_, op_pow, ?_⟩
  intro ρ H h Wc Q u v x y w r1 r2 p
  unfold binD at p
  dsimp only at p
  split at p
  · cases r1; cases r2
    split at p
    · rename_i e
      simp only [powOk, Bool.and_eq_true, decide_eq_true_eq] at e
      exact ⟨_, _, rfl, rfl, ⟨e.1.1, e.1.2, e.2⟩, post_int w p⟩
    · exact p.elim
  · exact p.elim
theorem bin_ok (op : Operator) : OpS X C ca (binaryOp op) (binD op) := by
  cases op with
  | Add => exact add_ok
  | Sub => exact sub_ok
  | Mult => exact mul_ok
  | FloorDiv => exact div_ok
  | Mod => exact mod_ok
  | Pow => exact pow_ok
  | _ => exact opS_none fun _ _ _ => rfl

/-! ### comparisons -/
section
variable {K : PySem.W.Frag} {ρ : List Addr} {H : Hp} {h : List O}
mutual
theorem Dp.of_pure : ∀ (d : D) (v : V), d.pure = true → RV K ρ H v d → Dp K H v (pyP d)
  | .non, v, _, e => by cases e; exact .non
  | .bl b, v, _, e => by cases e; exact .bl b
  | .int i, v, _, e => by cases e; exact .int i
  | .str s, v, _, e => by cases e; exact .str s
  | .tup xs, v, hp, ⟨a, vs, e, q, r⟩ => by
    subst e
    exact .tup q (DpAll.of_pure xs vs (by simpa [D.pure] using hp) r)
  | .ref n, v, hp, _ => by simp [D.pure] at hp
theorem DpAll.of_pure : ∀ (xs : List D) (vs : List V), D.pureL xs = true → RVs K ρ H vs xs → DpAll K H vs (pyPL xs)
  | [], vs, _, e => by cases e; exact .nil
  | x :: xs, vs, hp, ⟨v, r, e, q, s⟩ => by
    subst e
    have hp' : x.pure = true ∧ D.pureL xs = true := by simpa [D.pureL] using hp
    exact .cons (Dp.of_pure x v hp'.1 q) (DpAll.of_pure xs r hp'.2 s)
end
theorem DpAll.of_mapO {f : D → Option PyData} (hf : ∀ d v p, RV K ρ H v d → f d = some p → Dp K H v p) : ∀ (xs : List D) (vs : List V) (ps : List PyData), RVs K ρ H vs xs → mapO f xs = some ps → DpAll K H vs ps
  | [], vs, ps, e, q => by
    cases e
    simp only [mapO, Option.some.injEq] at q
    subst q; exact .nil
  | x :: xs, vs, ps, ⟨v, r, e, q1, s⟩, q => by
    subst e
    unfold mapO at q
    split at q
    · cases q
    · rename_i y e1
      split at q
      · cases q
      · rename_i ys e2
        cases q
        exact .cons (hf _ _ _ q1 e1) (DpAll.of_mapO hf xs r ys s e2)
theorem Dp.of_pyF (w : Wd K ρ h H) : ∀ (n : Nat) (d : D) (v : V) (p : PyData), RV K ρ H v d → pyF n h d = some p → Dp K H v p
  | 0, d, v, p, r, e => by
    unfold pyF at e
    split at e
    · rename_i hp
      cases e
      exact Dp.of_pure d v hp r
    · cases e
  | n + 1, d, v, p, r, e => by
    unfold pyF at e
    split at e
    · rename_i hp
      cases e
      exact Dp.of_pure d v hp r
    · split at e
      · obtain ⟨a, vs, rfl, q, s⟩ := r
        simp only [Option.map_eq_some_iff] at e
        obtain ⟨ps, e1, rfl⟩ := e
        exact .tup q (DpAll.of_mapO (fun d v p => Dp.of_pyF w n d v p) _ _ _ s e1)
      · split at e
        · rename_i m xs e0
          obtain ⟨a, vs, rfl, _, q, s⟩ := rd_lst w r e0
          simp only [Option.map_eq_some_iff] at e
          obtain ⟨ps, e1, rfl⟩ := e
          exact .lst q (DpAll.of_mapO (fun d v p => Dp.of_pyF w n d v p) _ _ _ s e1)
        · cases e
      · cases e
theorem flat_rv {d : D} {v : V} (f : flatD d = true) (r : RV K ρ H v d) : flatV v = true := by
  cases d <;> first | (cases r; rfl) | (simp [flatD] at f)
theorem eqV_py {x y : D} {u v : V} (fx : flatD x = true) (fy : flatD y = true) (rx : RV K ρ H u x) (ry : RV K ρ H v y) : eqV u v = PyData.eqv (pyP x) (pyP y) := by
  cases x <;> first | (simp [flatD] at fx; done) | (cases y <;> first | (simp [flatD] at fy; done) | (cases rx; cases ry; simp [eqV, pyP, PyData.eqv]))
theorem flat_all : ∀ {xs : List D} {vs : List V}, xs.all flatD = true → RVs K ρ H vs xs → vs.all flatV = true
  | [], vs, _, e => by cases e; rfl
  | x :: xs, vs, f, ⟨v, r, e, q, s⟩ => by
    subst e
    have f' : flatD x = true ∧ xs.all flatD = true := by simpa using f
    simp only [List.all_cons, Bool.and_eq_true]
    exact ⟨flat_rv f'.1 q, flat_all f'.2 s⟩
theorem any_in {x : D} {u : V} (fx : flatD x = true) (rx : RV K ρ H u x) : ∀ {ys : List D} {vs : List V}, ys.all flatD = true → RVs K ρ H vs ys → inV u vs = ys.any fun y => PyData.eqv (pyP y) (pyP x)
  | [], vs, _, e => by cases e; rfl
  | y :: ys, vs, f, ⟨v, r, e, q, s⟩ => by
    subst e
    have f' : flatD y = true ∧ ys.all flatD = true := by simpa using f
    have ih := any_in fx rx f'.2 s
    unfold inV at ih ⊢
    rw [List.any_cons, List.any_cons, ih, eqV_py f'.1 fx q rx]
theorem lexI_eq : ∀ ns ms : List Int, HT.lexLt ns ms = lexI ns ms
  | [], [] => rfl
  | [], _ :: _ => rfl
  | _ :: _, [] => rfl
  | x :: xs, y :: ys => by
    rw [HT.lexLt_cons, lexI_eq xs ys]
    show _ = bif x == y then lexI xs ys else decide (x < y)
    by_cases e : x = y
    · rw [if_pos e, beq_iff_eq.mpr e]; rfl
    · rw [if_neg e, beq_eq_false_iff_ne.mpr e]; rfl
end
/-- a comparison by values -/
def cmpG (op : CmpOp) (x y : D) (h : List O) : Option (R D) := match cmpD op x y h with
  | some c => okB c h
  | none => none
theorem cmp_ok (hu : X.A.units + 64 < cLine) (op : CmpOp) : OpS X C ca (compareOp op) (cmpG op) := by
  have hu0 : X.A.units < cLine := by omega
  cases op with
  | Eq =>
    refine ⟨_, op_eqD hu, ?_⟩
    intro ρ H h Wc Q u v x y w r1 r2 p
    change Post _ _ _ _ _ _ (match eqD h x y with | some c => okB c h | none => none) at p
    split at p
    · rename_i c e
      unfold eqD at e
      split at e
      · rename_i pa pb e1 e2
        split at e
        · rename_i hs
          simp only [Bool.and_eq_true] at hs
          cases e
          exact ⟨pa, pb, Dp.of_pyF w _ _ _ _ r1 e1, Dp.of_pyF w _ _ _ _ r2 e2, hs.1, hs.2, post_bl w p⟩
        · cases e
      · cases e
    · exact p.elim
  | NotEq =>
    refine ⟨_, op_neD hu, ?_⟩
    intro ρ H h Wc Q u v x y w r1 r2 p
    change Post _ _ _ _ _ _ (match (eqD h x y).map (!·) with | some c => okB c h | none => none) at p
    split at p
    · rename_i c e
      simp only [Option.map_eq_some_iff] at e
      obtain ⟨c', e, rfl⟩ := e
      unfold eqD at e
      split at e
      · rename_i pa pb e1 e2
        split at e
        · rename_i hs
          simp only [Bool.and_eq_true] at hs
          cases e
          exact ⟨pa, pb, Dp.of_pyF w _ _ _ _ r1 e1, Dp.of_pyF w _ _ _ _ r2 e2, hs.1, hs.2, post_bl w p⟩
        · cases e
      · cases e
    · exact p.elim
  | Lt =>
    refine ⟨_, op_lt.or (op_ltT hu0), ?_⟩
    intro ρ H h Wc Q u v x y w r1 r2 p
    change Post _ _ _ _ _ _ (match cmpD .Lt x y h with | some c => okB c h | none => none) at p
    split at p
    · rename_i c e
      unfold cmpD at e
      dsimp only at e
      split at e
      · cases e; cases r1; cases r2
        exact .inl ⟨_, _, rfl, rfl, post_bl w p⟩
      · split at e
        · rename_i ns ms e1 e2
          cases e
          obtain ⟨a, us, rfl, q1, s1⟩ := r1
          obtain ⟨b, vs, rfl, q2, s2⟩ := r2
          have h1 := s1.map_int e1
          have h2 := s2.map_int e2
          subst h1; subst h2
          refine .inr ⟨a, b, ns, ms, rfl, rfl, q1, q2, ?_⟩
          rw [lexI_eq]
          exact post_bl w p
        · cases e
      · cases e
    · exact p.elim
  | LtE =>
    refine ⟨_, op_le, ?_⟩
    intro ρ H h Wc Q u v x y w r1 r2 p
    change Post _ _ _ _ _ _ (match cmpD .LtE x y h with | some c => okB c h | none => none) at p
    split at p
    · rename_i c e
      unfold cmpD at e
      dsimp only at e
      split at e
      · cases e; cases r1; cases r2
        exact ⟨_, _, rfl, rfl, post_bl w p⟩
      · cases e
    · exact p.elim
  | Gt =>
    refine ⟨_, op_gt, ?_⟩
    intro ρ H h Wc Q u v x y w r1 r2 p
    change Post _ _ _ _ _ _ (match cmpD .Gt x y h with | some c => okB c h | none => none) at p
    split at p
    · rename_i c e
      unfold cmpD at e
      dsimp only at e
      split at e
      · cases e; cases r1; cases r2
        exact ⟨_, _, rfl, rfl, post_bl w p⟩
      · cases e
    · exact p.elim
  | GtE =>
    refine ⟨_, op_ge, ?_⟩
    intro ρ H h Wc Q u v x y w r1 r2 p
    change Post _ _ _ _ _ _ (match cmpD .GtE x y h with | some c => okB c h | none => none) at p
    split at p
    · rename_i c e
      unfold cmpD at e
      dsimp only at e
      split at e
      · cases e; cases r1; cases r2
        exact ⟨_, _, rfl, rfl, post_bl w p⟩
      · cases e
    · exact p.elim
  | Is =>
    refine ⟨_, op_isN, ?_⟩
    intro ρ H h Wc Q u v x y w r1 r2 p
    change Post _ _ _ _ _ _ (match cmpD .Is x y h with | some c => okB c h | none => none) at p
    split at p
    · rename_i c e
      unfold cmpD at e
      dsimp only at e
      split at e
      · cases e; cases r2
        refine ⟨rfl, ?_⟩
        have q := post_bl w p
        cases x with
        | non => cases r1; exact q
        | bl b => cases r1; exact q
        | int i => cases r1; exact q
        | str s => cases r1; exact q
        | tup xs => obtain ⟨a, vs, rfl, _⟩ := r1; exact q
        | ref n => obtain ⟨a, rfl, _⟩ := r1; exact q
      · cases e
    · exact p.elim
  | IsNot =>
    refine ⟨_, op_notN, ?_⟩
    intro ρ H h Wc Q u v x y w r1 r2 p
    change Post _ _ _ _ _ _ (match cmpD .IsNot x y h with | some c => okB c h | none => none) at p
    split at p
    · rename_i c e
      unfold cmpD at e
      dsimp only at e
      split at e
      · cases e; cases r2
        refine ⟨rfl, ?_⟩
        have q := post_bl w p
        cases x with
        | non => cases r1; exact q
        | bl b => cases r1; exact q
        | int i => cases r1; exact q
        | str s => cases r1; exact q
        | tup xs => obtain ⟨a, vs, rfl, _⟩ := r1; exact q
        | ref n => obtain ⟨a, rfl, _⟩ := r1; exact q
      · cases e
    · exact p.elim
  | In =>
    refine ⟨_, op_in_seq, ?_⟩
    intro ρ H h Wc Q u v x y w r1 r2 p
    change Post _ _ _ _ _ _ (match inD h x y with | some c => okB c h | none => none) at p
    split at p
    · rename_i c e
      unfold inD at e
      split at e
      · rename_i ys e1
        split at e
        · rename_i hf
          simp only [Bool.and_eq_true] at hf
          cases e
          obtain ⟨a, vs, rfl, q, s⟩ := seq_of w r2 e1
          refine ⟨a, vs, rfl, q, flat_rv hf.1 r1, flat_all hf.2 s, ?_⟩
          rw [any_in hf.1 r1 hf.2 s]
          exact post_bl w p
        · cases e
      · cases e
    · exact p.elim
  | NotIn =>
    refine ⟨_, op_notIn_seq, ?_⟩
    intro ρ H h Wc Q u v x y w r1 r2 p
    change Post _ _ _ _ _ _ (match (inD h x y).map (!·) with | some c => okB c h | none => none) at p
    split at p
    · rename_i c e
      simp only [Option.map_eq_some_iff] at e
      obtain ⟨c', e, rfl⟩ := e
      unfold inD at e
      split at e
      · rename_i ys e1
        split at e
        · rename_i hf
          simp only [Bool.and_eq_true] at hf
          cases e
          obtain ⟨a, vs, rfl, q, s⟩ := seq_of w r2 e1
          refine ⟨a, vs, rfl, q, flat_rv hf.1 r1, flat_all hf.2 s, ?_⟩
          rw [any_in hf.1 r1 hf.2 s]
          exact post_bl w p
        · cases e
      · cases e
    · exact p.elim
/-- truth -/
theorem truth_ok {K : PySem.W.Frag} {ρ : List Addr} {H : Hp} {h : List O} {v : V} {d : D} {b : Bool} (w : Wd K ρ h H) (r : RV K ρ H v d) (e : truth h d = some b) : TruV K v H b := by
  unfold truth at e
  cases d with
  | non => cases r; cases e; rfl
  | bl c => cases r; cases e; rfl
  | int i => cases r; cases e; rfl
  | str s =>
    cases r
    dsimp only at e
    split at e
    · rename_i hl
      cases e
      exact ⟨by rw [← lim_eq]; exact hl, rfl⟩
    · cases e
  | tup xs =>
    obtain ⟨a, vs, rfl, q, s⟩ := r
    cases e
    refine .inr (.inl ⟨vs, q, ?_⟩)
    cases xs with
    | nil => cases s; rfl
    | cons x xs => obtain ⟨_, _, rfl, _⟩ := s; rfl
  | ref n =>
    simp only [Option.map_eq_some_iff] at e
    obtain ⟨xs, e, rfl⟩ := e
    obtain ⟨a, vs, rfl, _, q, s⟩ := rd_lst w r e
    refine .inl ⟨vs, q, ?_⟩
    cases xs with
    | nil => cases s; rfl
    | cons x xs => obtain ⟨_, _, rfl, _⟩ := s; rfl
end
end Mini
end

section
/-! Mini: built-in functions and methods (own work). -/
namespace Mini
open PySem PySem.Spec PyProof.Rows L2

def biName : Bi → Str
  | .abs => "abs" | .all => "all" | .any => "any" | .int => "int" | .len => "len" | .list => "list" | .tuple => "tuple" | .repr => "repr"
  | .max2 => "max" | .min2 => "min" | .maxL => "max" | .minL => "min" | .sum => "sum" | .sorted => "sorted" | .bad => ""
section
variable {X : Cx} {C : List Cl} {ca : Nat → Addr}
/-- what the evaluator makes of the arguments is what the rule wants -/
def BiR (X : Cx) (C : List Cl) (ca : Nat → Addr) (g : List D → List O → Option (R D)) (r : List V → Hp → VK → Prop) : Prop :=
  ∀ {ρ : List Addr} {H : Hp} {h : List O} {Wc : Value → Option Addr → Hp → Prop} {Q : VK} {vs : List V} {ds : List D}, Wd X.K ρ h H → RVs X.K ρ H vs ds → Post ⟨X.K, C, ca⟩ ρ H (relD X.K) Wc Q (g ds h) → r vs H Q
section
variable {K : PySem.W.Frag} {ρ : List Addr} {H : Hp} {h : List O}
theorem rvs1 {d : D} {vs : List V} (r : RVs K ρ H vs [d]) : ∃ v, vs = [v] ∧ RV K ρ H v d := by
  obtain ⟨v, r', rfl, q, s⟩ := r
  cases s
  exact ⟨v, rfl, q⟩
theorem rvs2 {d e : D} {vs : List V} (r : RVs K ρ H vs [d, e]) : ∃ v u, vs = [v, u] ∧ RV K ρ H v d ∧ RV K ρ H u e := by
  obtain ⟨v, r', rfl, q, s⟩ := r
  obtain ⟨u, r'', rfl, q', s'⟩ := s
  cases s'
  exact ⟨v, u, rfl, q, q'⟩
theorem len_seq (w : Wd K ρ h H) {d : D} {xs : List D} {v : V} (r : RV K ρ H v d) (e : seqOf h d = some xs) : ∃ p ys, v = .ref p ∧ (SqL K H p ys ∨ SqT K H p ys) ∧ ys.length = xs.length := by
  obtain ⟨a, vs, rfl, q, s⟩ := seq_of w r e
  exact ⟨a, vs, rfl, q, s.len⟩
end
theorem abs_ok : BiR X C ca abs1 (fun xs H Q => ∃ i, xs = [.int i] ∧ Q (.int (if i < 0 then -i else i)) H) := by
  intro ρ H h Wc Q vs ds w r p
  unfold abs1 at p
  split at p
  · obtain ⟨v, rfl, q⟩ := rvs1 r
    cases q
    exact ⟨_, rfl, post_int w p⟩
  · exact p.elim
theorem int_ok : BiR X C ca int1 (fun xs H Q => (∃ i, xs = [.int i] ∧ Q (.int i) H) ∨ ∃ k, xs = [.bl k] ∧ Q (.int (if k then 1 else 0)) H) := by
  intro ρ H h Wc Q vs ds w r p
  unfold int1 at p
  split at p
  · obtain ⟨v, rfl, q⟩ := rvs1 r
    cases q
    exact .inl ⟨_, rfl, post_int w p⟩
  · obtain ⟨v, rfl, q⟩ := rvs1 r
    cases q
    exact .inr ⟨_, rfl, post_int w p⟩
  · exact p.elim
theorem len_ok : BiR X C ca len1 (fun xs H Q => (∃ p ys, xs = [.ref p] ∧ (SqL X.K H p ys ∨ SqT X.K H p ys) ∧ Q (.int ys.length) H) ∨ ∃ z, xs = [.str z] ∧ z.length ≤ sizeLine ∧ Q (.int z.length) H) := by
  intro ρ H h Wc Q vs ds w r p
  unfold len1 at p
  split at p
  · obtain ⟨v, rfl, q⟩ := rvs1 r
    cases q
    split at p
    · rename_i e
      exact .inr ⟨_, rfl, by rw [← lim_eq]; exact e, post_int w p⟩
    · exact p.elim
  · obtain ⟨v, rfl, q⟩ := rvs1 r
    obtain ⟨a, us, rfl, q, s⟩ := q
    refine .inl ⟨a, us, rfl, .inr q, ?_⟩
    rw [s.len]
    exact post_int w p
  · obtain ⟨v, rfl, q⟩ := rvs1 r
    split at p
    · rename_i xs e
      obtain ⟨a, us, rfl, _, q, s⟩ := rd_lst w q e
      refine .inl ⟨a, us, rfl, .inl q, ?_⟩
      rw [s.len]
      exact post_int w p
    · exact p.elim
  · exact p.elim
section
variable {K : PySem.W.Frag} {ρ : List Addr} {H : Hp} {h : List O}
theorem ints_at (w : Wd K ρ h H) {vs : List V} {ds : List D} {ns : List Int} (r : RVs K ρ H vs ds) (e : ints1 ds h = some ns) : ∃ a, vs = [.ref a] ∧ SqL K H a (ns.map V.int) := by
  unfold ints1 at e
  split at e
  · split at e
    · rename_i xs e1
      obtain ⟨v, rfl, q⟩ := rvs1 r
      obtain ⟨a, us, rfl, _, q, s⟩ := rd_lst w q e1
      rw [s.map_int e] at q
      exact ⟨a, rfl, q⟩
    · cases e
  · cases e
theorem bools_at (w : Wd K ρ h H) {vs : List V} {ds : List D} {ns : List Bool} (r : RVs K ρ H vs ds) (e : bools1 ds h = some ns) : ∃ a, vs = [.ref a] ∧ SqL K H a (ns.map V.bl) := by
  unfold bools1 at e
  split at e
  · split at e
    · rename_i xs e1
      obtain ⟨v, rfl, q⟩ := rvs1 r
      obtain ⟨a, us, rfl, _, q, s⟩ := rd_lst w q e1
      rw [s.map_bl e] at q
      exact ⟨a, rfl, q⟩
    · cases e
  · cases e
end
theorem all_ok : BiR X C ca all1 (rAll X.K) := by
  intro ρ H h Wc Q vs ds w r p
  unfold all1 at p
  split at p
  · rename_i bs e
    obtain ⟨a, rfl, q⟩ := bools_at w r e
    exact ⟨a, bs, rfl, q, post_bl w p⟩
  · exact p.elim
theorem any_ok : BiR X C ca any1 (rAny X.K) := by
  intro ρ H h Wc Q vs ds w r p
  unfold any1 at p
  split at p
  · rename_i bs e
    obtain ⟨a, rfl, q⟩ := bools_at w r e
    exact ⟨a, bs, rfl, q, post_bl w p⟩
  · exact p.elim
theorem list_ok : BiR X C ca list1 (fun xs H Q => ∃ p ys, xs = [.ref p] ∧ (SqL X.K H p ys ∨ SqT X.K H p ys) ∧ ∀ l, H l = none → Q (.ref l) (upd H l (.lst ys))) := by
  intro ρ H h Wc Q vs ds w r p
  unfold list1 at p
  split at p
  · split at p
    · rename_i xs e
      obtain ⟨v, rfl, q⟩ := rvs1 r
      obtain ⟨a, us, rfl, q, s⟩ := seq_of w q e
      exact ⟨a, us, rfl, q, post_alloc w s p⟩
    · exact p.elim
  · exact p.elim
theorem tuple_ok : BiR X C ca tuple1 (fun xs H Q => ∃ p ys, xs = [.ref p] ∧ ((SqL X.K H p ys ∧ ∀ l, H l = none → Q (.ref l) (upd H l (.tup ys))) ∨ (SqT X.K H p ys ∧ Q (.ref p) H))) := by
  intro ρ H h Wc Q vs ds w r p
  unfold tuple1 at p
  split at p
  · obtain ⟨v, rfl, a, us, rfl, q, s⟩ := rvs1 r
    exact ⟨a, us, rfl, .inr ⟨q, p.ok Xt.refl w ⟨a, us, rfl, q, s⟩⟩⟩
  · split at p
    · rename_i xs e
      obtain ⟨v, rfl, q⟩ := rvs1 r
      obtain ⟨a, us, rfl, _, q, s⟩ := rd_lst w q e
      exact ⟨a, us, rfl, .inl ⟨q, post_tup w s p⟩⟩
    · exact p.elim
  · exact p.elim
theorem max2_ok : BiR X C ca maxF (fun xs H Q => ∃ i j, xs = [.int i, .int j] ∧ Q (.int (if j > i then j else i)) H) := by
  intro ρ H h Wc Q vs ds w r p
  unfold maxF at p
  split at p
  · obtain ⟨v, u, rfl, q, q'⟩ := rvs2 r
    cases q; cases q'
    exact ⟨_, _, rfl, post_int w p⟩
  · exact p.elim
theorem min2_ok : BiR X C ca minF (fun xs H Q => ∃ i j, xs = [.int i, .int j] ∧ Q (.int (if j < i then j else i)) H) := by
  intro ρ H h Wc Q vs ds w r p
  unfold minF at p
  split at p
  · obtain ⟨v, u, rfl, q, q'⟩ := rvs2 r
    cases q; cases q'
    exact ⟨_, _, rfl, post_int w p⟩
  · exact p.elim
theorem maxI_is : ∀ (ns : List Int) (m : Int), m ∈ ns → (∀ y, y ∈ ns → y ≤ m) → maxI ns = m
  | [], m, h, _ => nomatch h
  | [x], m, h, _ => by
    have e : m = x := by simpa using h
    rw [e]; rfl
  | x :: y :: r, m, h, g => by
    have ex : ∀ ns : List Int, ns ≠ [] → maxI ns ∈ ns ∧ ∀ z, z ∈ ns → z ≤ maxI ns := by
      intro ns
      induction ns with
      | nil => intro h; exact absurd rfl h
      | cons a l ih =>
        intro _
        cases l with
        | nil => exact ⟨List.mem_cons_self, fun z hz => by
            have e : z = a := by simpa using hz
            rw [e]; exact Int.le_refl _⟩
        | cons b l =>
          obtain ⟨h1, h2⟩ := ih (List.cons_ne_nil _ _)
          show (if maxI (b :: l) ≤ a then a else maxI (b :: l)) ∈ _ ∧ ∀ z, z ∈ _ → z ≤ (if maxI (b :: l) ≤ a then a else maxI (b :: l))
          split
          · rename_i hle
            exact ⟨List.mem_cons_self, fun z hz => by
              rcases List.mem_cons.mp hz with e | e
              · rw [e]; exact Int.le_refl _
              · exact Int.le_trans (h2 z e) hle⟩
          · rename_i hle
            exact ⟨List.mem_cons_of_mem _ h1, fun z hz => by
              rcases List.mem_cons.mp hz with e | e
              · rw [e]; omega
              · exact h2 z e⟩
    obtain ⟨h1, h2⟩ := ex (x :: y :: r) (List.cons_ne_nil _ _)
    exact Int.le_antisymm (g _ h1) (h2 _ h)
theorem minI_is : ∀ (ns : List Int) (m : Int), m ∈ ns → (∀ y, y ∈ ns → m ≤ y) → minI ns = m
  | [], m, h, _ => nomatch h
  | [x], m, h, _ => by
    have e : m = x := by simpa using h
    rw [e]; rfl
  | x :: y :: r, m, h, g => by
    have ex : ∀ ns : List Int, ns ≠ [] → minI ns ∈ ns ∧ ∀ z, z ∈ ns → minI ns ≤ z := by
      intro ns
      induction ns with
      | nil => intro h; exact absurd rfl h
      | cons a l ih =>
        intro _
        cases l with
        | nil => exact ⟨List.mem_cons_self, fun z hz => by
            have e : z = a := by simpa using hz
            rw [e]; exact Int.le_refl _⟩
        | cons b l =>
          obtain ⟨h1, h2⟩ := ih (List.cons_ne_nil _ _)
          show (if a ≤ minI (b :: l) then a else minI (b :: l)) ∈ _ ∧ ∀ z, z ∈ _ → (if a ≤ minI (b :: l) then a else minI (b :: l)) ≤ z
          split
          · rename_i hle
            exact ⟨List.mem_cons_self, fun z hz => by
              rcases List.mem_cons.mp hz with e | e
              · rw [e]; exact Int.le_refl _
              · exact Int.le_trans hle (h2 z e)⟩
          · rename_i hle
            exact ⟨List.mem_cons_of_mem _ h1, fun z hz => by
              rcases List.mem_cons.mp hz with e | e
              · rw [e]; omega
              · exact h2 z e⟩
    obtain ⟨h1, h2⟩ := ex (x :: y :: r) (List.cons_ne_nil _ _)
    exact Int.le_antisymm (h2 _ h) (g _ h1)
theorem maxL_ok : BiR X C ca maxL1 (rMax X.K) := by
  intro ρ H h Wc Q vs ds w r p
  unfold maxL1 at p
  split at p
  · rename_i ns e
    obtain ⟨a, rfl, q⟩ := ints_at w r e
    split at p
    · rename_i hl
      refine ⟨a, ns, rfl, q, hl, fun m m1 m2 => ?_⟩
      rw [← maxI_is ns m m1 m2]
      exact post_int w p
    · exact p.elim
  · exact p.elim
theorem minL_ok : BiR X C ca minL1 (rMin X.K) := by
  intro ρ H h Wc Q vs ds w r p
  unfold minL1 at p
  split at p
  · rename_i ns e
    obtain ⟨a, rfl, q⟩ := ints_at w r e
    split at p
    · rename_i hl
      refine ⟨a, ns, rfl, q, hl, fun m m1 m2 => ?_⟩
      rw [← minI_is ns m m1 m2]
      exact post_int w p
    · exact p.elim
  · exact p.elim
theorem sum_ok : BiR X C ca sum1 (rSum X.K) := by
  intro ρ H h Wc Q vs ds w r p
  unfold sum1 at p
  split at p
  · rename_i ns e
    obtain ⟨a, rfl, q⟩ := ints_at w r e
    exact ⟨a, ns, rfl, q, post_int w p⟩
  · exact p.elim
theorem insI_perm (x : Int) : ∀ l : List Int, (insI x l).Perm (x :: l)
  | [] => .refl _
  | y :: r => by
    unfold insI
    split
    · exact .refl _
    · exact ((insI_perm x r).cons y).trans (.swap x y r)
theorem sortI_perm : ∀ l : List Int, (sortI l).Perm l
  | [] => .refl _
  | x :: r => (insI_perm x (sortI r)).trans ((sortI_perm r).cons x)
theorem insI_sorted (x : Int) : ∀ l : List Int, l.Pairwise (· ≤ ·) → (insI x l).Pairwise (· ≤ ·)
  | [], _ => by simp [insI]
  | y :: r, h => by
    unfold insI
    have h' := List.pairwise_cons.mp h
    split
    · rename_i e
      refine List.pairwise_cons.mpr ⟨fun z hz => ?_, h⟩
      rcases List.mem_cons.mp hz with q | q
      · rw [q]; exact e
      · exact Int.le_trans e (h'.1 z q)
    · rename_i e
      refine List.pairwise_cons.mpr ⟨fun z hz => ?_, insI_sorted x r h'.2⟩
      rcases List.mem_cons.mp ((insI_perm x r).mem_iff.mp hz) with q | q
      · rw [q]; omega
      · exact h'.1 z q
theorem sortI_sorted : ∀ l : List Int, (sortI l).Pairwise (· ≤ ·)
  | [] => .nil
  | x :: r => insI_sorted x _ (sortI_sorted r)
theorem sorted_unique : ∀ {l m : List Int}, l.Perm m → l.Pairwise (· ≤ ·) → m.Pairwise (· ≤ ·) → l = m
  | [], m, p, _, _ => (List.Perm.nil_eq p)
  | x :: l, [], p, _, _ => nomatch p.length_eq
  | x :: l, y :: m, p, h1, h2 => by
    have a := List.pairwise_cons.mp h1
    have b := List.pairwise_cons.mp h2
    have e : x = y := by
      have m1 : x ∈ y :: m := p.mem_iff.mp List.mem_cons_self
      have m2 : y ∈ x :: l := p.mem_iff.mpr List.mem_cons_self
      rcases List.mem_cons.mp m1 with q | q
      · exact q
      · rcases List.mem_cons.mp m2 with q' | q'
        · exact q'.symm
        · exact Int.le_antisymm (a.1 y q') (b.1 x q)
    subst e
    rw [sorted_unique (List.Perm.cons_inv p) a.2 b.2]
theorem sorted_ok : BiR X C ca sorted1 (rSortedI X.K) := by
  intro ρ H h Wc Q vs ds w r p
  unfold sorted1 at p
  split at p
  · rename_i ns e
    obtain ⟨a, rfl, q⟩ := ints_at w r e
    refine ⟨a, ns, rfl, q, fun ns' b pm so n => ?_⟩
    have e' : ns' = sortI ns := sorted_unique (pm.trans (sortI_perm ns).symm) so (sortI_sorted ns)
    subst e'
    exact post_alloc w (RVs.of_ints _) p b n
  · exact p.elim
/-- repr of data, where no other repr runs -/
def rRepr (K : PySem.W.Frag) : List V → Hp → VK → Prop := fun xs H Q => ∃ v d, xs = [v] ∧ Dp K H v d ∧ d.showable = true ∧ d.hasDict = false ∧ d.shown.length ≤ sizeLine ∧ d.depth ≤ 16 ∧ Q (.str d.shown) H
theorem call_reprD (hg : X.A.guards = some []) (hu : X.A.units + 64 < cLine) : CallR X (.builtin "repr") (rRepr X.K) := by
  intro pins s σ H xs us Q I rv hq
  obtain ⟨v, d, rfl, dp, hs, hd, hl, hdp, q⟩ := hq
  obtain ⟨u, rfl, ru⟩ := Vals.one rv
  have fin : ∀ (h' : Heap) (u : Tok) (tk : Nat), (∀ b o, s.heap.get? b = some o → h'.get? b = some o) → EP X pins σ Q (.str d.shown u) { s with heap := h', toks := tk } := fun h' u tk k =>
    ⟨.str d.shown, H, I.kept (t' := tk) k, ⟨u, rfl⟩, q⟩
  cases v with
  | non =>
    cases dp; cases ru
    exact P.repr_of_none (fin s.heap _ _ fun _ _ e => e)
  | bl b =>
    cases dp; cases ru
    exact P.repr_of_bool (fin s.heap _ _ fun _ _ e => e)
  | int i =>
    cases dp; obtain ⟨t, rfl⟩ := ru
    exact P.repr_of_int (by simpa [PyData.showable] using hs) (fin s.heap _ _ fun _ _ e => e)
  | str x =>
    cases dp; obtain ⟨t, rfl⟩ := ru
    exact P.repr_of_str (fin s.heap _ _ fun _ _ e => e) hl
  | ref a =>
    have ru' : u = .ref a := ru
    subst ru'
    obtain ⟨as, rd⟩ := Dp.reads I d _ _ dp rfl
    exact repr_of_reads' rd hs (fun z => by rw [hd] at z; cases z) hg (by omega) (fun _ _ e => e) (fun h' u tk k => fin h' u tk k) hl
  | _ => cases dp
theorem repr_ok : BiR X C ca repr1 (rRepr X.K) := by
  intro ρ H h Wc Q vs ds w r p
  unfold repr1 at p
  split at p
  · rename_i d
    split at p
    · rename_i d' e
      split at p
      · rename_i hc
        simp only [Bool.and_eq_true, decide_eq_true_eq, Bool.not_eq_true'] at hc
        obtain ⟨v, rfl, q⟩ := rvs1 r
        exact ⟨v, d', rfl, Dp.of_pyF w _ _ _ _ q e, hc.1.1.1, hc.2, by rw [← lim_eq]; exact hc.1.1.2, hc.1.2, p.ok Xt.refl w rfl⟩
      · exact p.elim
    · exact p.elim
  · exact p.elim
end
end Mini
end

section
/-! Mini: calls of built-ins, subscripts, slices, methods, isinstance, as readings (own work). -/
namespace Mini
open PySem PySem.Spec PyProof.Rows L2
section
variable {X : Cx} {C : List Cl} {ca : Nat → Addr}
theorem bi_pe (b : Bi) (hb : b ≠ .bad) {p pos : Pos} {e : PySem.Expr} {es : List PySem.Expr} {t : TA} (hc : X.calm = true) (hu : X.A.units + 64 < cLine) (hgd : X.A.guards = some []) (hg : Gl X (biName b)) (hm : X.mg (biName b) = none) (ha : PA X (e :: es) t)
    (he : starEach (e :: es) X.env = (false, eval e X.env) :: starEach es X.env) (hpl : (backTo pos (starEach es X.env)).any (·.1) = false) :
    ∃ r, PE X (.Call (.Name (biName b) p) (e :: es) [] pos) (tCB r t) ∧ BiR X C ca (biD b) r := by
  cases b with
  | abs => exact ⟨_, pe_callB call_abs hg hm (by decide +kernel) ha (by decide) (by decide) he hpl, abs_ok⟩
  | all => exact ⟨_, pe_callB (cr_all hc) hg hm (by decide +kernel) ha (by decide) (by decide) he hpl, all_ok⟩
  | any => exact ⟨_, pe_callB (cr_any hc) hg hm (by decide +kernel) ha (by decide) (by decide) he hpl, any_ok⟩
  | int => exact ⟨_, pe_callTy call_int1 hg hm (by decide +kernel) ha (by decide) (by decide) he hpl, int_ok⟩
  | len => exact ⟨_, pe_callB (call_len_seq.or call_len_str) hg hm (by decide +kernel) ha (by decide) (by decide) he hpl, by
      intro ρ H h Wc Q vs ds w r p
      rcases len_ok (X := X) (C := C) (ca := ca) w r p with h | h
      · exact .inl h
      · exact .inr h⟩
  | list => exact ⟨_, pe_callTy call_list_of hg hm (by decide +kernel) ha (by decide) (by decide) he hpl, list_ok⟩
  | tuple => exact ⟨_, pe_callTy call_tuple_of hg hm (by decide +kernel) ha (by decide) (by decide) he hpl, tuple_ok⟩
  | repr => exact ⟨_, pe_callB (call_reprD hgd hu) hg hm (by decide +kernel) ha (by decide) (by decide) he hpl, repr_ok⟩
  | max2 => exact ⟨_, pe_callB (call_max2 hc) hg hm (by decide +kernel) ha (by decide) (by decide) he hpl, max2_ok⟩
  | min2 => exact ⟨_, pe_callB (call_min2 hc) hg hm (by decide +kernel) ha (by decide) (by decide) he hpl, min2_ok⟩
  | maxL => exact ⟨_, pe_callB (cr_max hc) hg hm (by decide +kernel) ha (by decide) (by decide) he hpl, maxL_ok⟩
  | minL => exact ⟨_, pe_callB (cr_min hc) hg hm (by decide +kernel) ha (by decide) (by decide) he hpl, minL_ok⟩
  | sum => exact ⟨_, pe_callB (cr_sum hc) hg hm (by decide +kernel) ha (by decide) (by decide) he hpl, sum_ok⟩
  | sorted => exact ⟨_, pe_callB cr_sortedI hg hm (by decide +kernel) ha (by decide) (by decide) he hpl, sorted_ok⟩
  | bad => exact absurd rfl hb
/-! ### places and slices -/
theorem ixD_eq (n : Nat) (i : Int) : ixD n i = ixN n i := rfl
section
variable {K : PySem.W.Frag} {ρ : List Addr} {H : Hp} {h : List O}
theorem at_rv {xs : List D} {vs : List V} {i : Int} {d : D} (r : RVs K ρ H vs xs) (e : atD xs i = some d) : ∃ v, atI vs i = some v ∧ RV K ρ H v d := by
  unfold atD at e
  rw [ixD_eq, ← r.len] at e
  split at e
  · rename_i j ej
    obtain ⟨v, e1, e2⟩ := r.get e
    refine ⟨v, ?_, e2⟩
    unfold atI
    rw [ej]
    exact e1
  · cases e
theorem sIxD_eq (n d : Nat) (o : Option Int) : sIxD n d o = HT.sIx n d o := by cases o <;> rfl
theorem cut_rv {xs : List D} {vs : List V} (r : RVs K ρ H vs xs) (lo hi : Option Int) : RVs K ρ H (cutV vs lo hi) (cutD xs lo hi) := by
  unfold cutV cutD
  rw [sIxD_eq, sIxD_eq, r.len]
  exact (r.drop _).take _
end
theorem ix_ok : ∃ r : R2, IxR X r ∧ ∀ {ρ : List Addr} {H : Hp} {h : List O} {Wc : Value → Option Addr → Hp → Prop} {Q : VK} {u v : V} {x y : D}, Wd X.K ρ h H → RV X.K ρ H u x → RV X.K ρ H v y →
    Post ⟨X.K, C, ca⟩ ρ H (relD X.K) Wc Q (ixG x y h) → r u v H Q := by
  refine ⟨_, ix_list.or ix_tup, ?_⟩
  intro ρ H h Wc Q u v x y w r1 r2 p
  unfold ixG at p
  split at p
  · rename_i xs i e
    cases r2
    obtain ⟨a, us, rfl, q, s⟩ := seq_of w r1 e
    split at p
    · rename_i d e1
      obtain ⟨z, e2, e3⟩ := at_rv s e1
      have qq := p.ok Xt.refl w e3
      rcases q with q | q
      · exact .inl ⟨a, us, i, z, rfl, rfl, q, e2, qq⟩
      · exact .inr ⟨a, us, i, z, rfl, rfl, q, e2, qq⟩
    · exact p.elim
  · exact p.elim
theorem cut_whole {α : Type} (xs : List α) {a b : Nat} (h1 : a = 0) (h2 : b = xs.length) : (xs.drop a).take (b - a) = xs := by
  subst h1; subst h2; simp
theorem sl_ok : ∃ r, SlR X r ∧ ∀ {ρ : List Addr} {H : Hp} {h : List O} {Wc : Value → Option Addr → Hp → Prop} {Q : VK} {v : V} {x : D} {l u : Option Int}, Wd X.K ρ h H → RV X.K ρ H v x →
    Post ⟨X.K, C, ca⟩ ρ H (relD X.K) Wc Q (slG x l u h) → r v l u H Q := by
  refine ⟨_, SlR.or sl_list sl_tupA, ?_⟩
  intro ρ H h Wc Q v x l u w r p
  unfold slG at p
  split at p
  · obtain ⟨a, us, rfl, q, s⟩ := r
    refine .inr ⟨a, us, rfl, q, fun e => ?_, fun _ => post_tup w (cut_rv s l u) p⟩
    rename_i xs
    have e' : cutD xs l u = xs := by
      unfold cutD
      rw [sIxD_eq, sIxD_eq]
      rw [s.len] at e
      exact cut_whole xs e.1 e.2
    rw [e'] at p
    exact p.ok Xt.refl w ⟨a, us, rfl, q, s⟩
  · split at p
    · rename_i xs e
      obtain ⟨a, us, rfl, _, q, s⟩ := rd_lst w r e
      exact .inl ⟨a, us, rfl, q, post_alloc w (cut_rv s l u) p⟩
    · exact p.elim
  · exact p.elim
/-! ### methods -/
theorem append_ok {ρ : List Addr} {H : Hp} {h : List O} {Wc : Value → Option Addr → Hp → Prop} {Q : VK} {v : V} {x : D} {vs : List V} {ds : List D} (w : Wd X.K ρ h H) (r : RV X.K ρ H v x) (rs : RVs X.K ρ H vs ds)
    (p : Post ⟨X.K, C, ca⟩ ρ H (relD X.K) Wc Q (append1 x ds h)) : rAppend v vs H Q := by
  unfold append1 at p
  split at p
  · split at p
    · rename_i xs e
      split at p
      · rename_i hl
        obtain ⟨y, rfl, q⟩ := rvs1 rs
        obtain ⟨a, us, rfl, ea, eh, eH, s⟩ := is_lst w r e
        obtain ⟨x1, w1⟩ := w.write ea eH (s.append (RVs.one q))
        exact ⟨a, us, y, rfl, rfl, eH, by rw [s.len, ← lim_eq]; exact hl, p.ok x1 w1 rfl⟩
      · exact p.elim
    · exact p.elim
  · exact p.elim
theorem pop_ok {ρ : List Addr} {H : Hp} {h : List O} {Wc : Value → Option Addr → Hp → Prop} {Q : VK} {v : V} {x : D} {vs : List V} {ds : List D} (w : Wd X.K ρ h H) (r : RV X.K ρ H v x) (rs : RVs X.K ρ H vs ds)
    (p : Post ⟨X.K, C, ca⟩ ρ H (relD X.K) Wc Q (pop0 x ds h)) : rPop v vs H Q := by
  unfold pop0 at p
  split at p
  · split at p
    · rename_i xs e
      split at p
      · rename_i d ed
        cases rs
        obtain ⟨a, us, rfl, ea, eh, eH, s⟩ := is_lst w r e
        obtain ⟨x1, w1⟩ := w.write ea eH s.dropLast
        rw [← s.len] at ed
        obtain ⟨z, e2, e3⟩ := s.get ed
        exact ⟨a, us, z, rfl, rfl, eH, e2, p.ok x1 w1 (w.rv x1 e3)⟩
      · exact p.elim
    · exact p.elim
  · exact p.elim
theorem list_ty {ρ : List Addr} {H : Hp} {h : List O} {v : V} {x : D} (w : Wd X.K ρ h H) (r : RV X.K ρ H v x) {n : Nat} (e : x = .ref n) (hs : (isLst h n).isSome = true) : tyV X.K "list" v H := by
  subst e
  obtain ⟨xs, e⟩ := Option.isSome_iff_exists.mp hs
  obtain ⟨a, us, rfl, ea, eh, eH, s⟩ := is_lst w r e
  exact .inl ⟨rfl, us, .inl (.inl eH)⟩
/-! ### isinstance -/
def tyName : Ty → String
  | .int => "int" | .bool => "bool" | .str => "str" | .tuple => "tuple" | .list => "list" | .dict => "dict"
def tyStr : Ty → Str
  | .int => "int" | .bool => "bool" | .str => "str" | .tuple => "tuple" | .list => "list" | .dict => "dict"
theorem isi_ok {ρ : List Addr} {H : Hp} {h : List O} {Wc : Value → Option Addr → Hp → Prop} {Q : VK} {v : V} {x : D} {t : Ty} (w : Wd X.K ρ h H) (r : RV X.K ρ H v x)
    (p : Post ⟨X.K, C, ca⟩ ρ H (relD X.K) Wc Q (match isiD h t x with | some b => okB b h | none => none)) : rIsi X.K [v, .ty (tyName t)] H Q := by
  have key : ∀ (T : String) (b : Bool), TyX X.K H v (.type T) → kitB T (tyName t) = some b → Q (.bl b) H → rIsi X.K [v, .ty (tyName t)] H Q := fun T b ty k q =>
    ⟨v, _, .type T, .type (tyName t), b, rfl, .ty _, ty, kit_ty k, q⟩
  split at p
  · rename_i b e
    have q := post_bl w p
    cases x with
    | non => cases r; exact key "NoneType" b (.base .non) (by cases e; cases t <;> decide +kernel) q
    | bl c => cases r; exact key "bool" b (.base (.bl c)) (by cases e; cases t <;> decide +kernel) q
    | int i => cases r; exact key "int" b (.base (.int i)) (by cases e; cases t <;> decide +kernel) q
    | str s => cases r; exact key "str" b (.base (.str s)) (by cases e; cases t <;> decide +kernel) q
    | tup xs =>
      obtain ⟨a, us, rfl, hq, s⟩ := r
      refine key "tuple" b ?_ (by cases e; cases t <;> decide +kernel) q
      rcases hq with (hq | ⟨o, hq⟩) | ⟨o, its, n, hk, hc, _⟩
      · exact .base (.tup hq)
      · exact .fTuple hq
      · exact .kTuple hk hc
    | ref n =>
      obtain ⟨a, rfl, ea⟩ := r
      simp only [isiD] at e
      split at e
      · rename_i xs eh
        obtain ⟨vs, e1, _⟩ := w.obj n _ a eh ea
        exact key "list" b (.base (.lst e1)) (by cases e; cases t <;> decide +kernel) q
      · cases e
      · rename_i xs eh
        exact (w.obj n _ a eh ea).elim
      · cases e
  · exact p.elim
end
end Mini
end

section
/-! Mini: the checker that ties the IR to the text, and what walks (own work). -/
namespace Mini
open PySem PySem.Spec PyProof.Rows L2

structure Gm where
  N : List Str
  sc : Scope
  ts : Scope
  fns : List (Str × Nat × List D)
  cls : List (Str × Nat × Nat)
  con : List (Str × D)
  kin : List (Str × List Nat)
def vis (sc : Scope) (x : Str) : Bool := match sc.names.lookup x with
  | some .local => true
  | some .cell => true
  | some .free => true
  | _ => false
def locS (sc : Scope) (x : Str) : Bool := match sc.names.lookup x with
  | some .local => true
  | some .cell => true
  | _ => false
def glb (sc : Scope) (x : Str) : Bool := decide (sc.names.lookup x = some .globalImplicit)
def dbg (x : Str) : Bool := x == ("__debug__" : Str)
def ownN (N : List Str) (own : List Nat) : List (Str × Nat) := own.map fun i => ((N[i]?).getD "", i)
def tgIn (own : List Nat) : E → Bool
  | .slot i => own.contains i
  | .tup es => tgIn own es
  | .cons a b => tgIn own a && tgIn own b
  | .nil => true
  | _ => false
/-- an object's attribute is looked up plainly -/
def plainB : PySem.Expr → Bool
  | .Call (.Name _ _) [] [] _ => false
  | _ => true
/-- a test by the value's truth -/
def plainT : PySem.Expr → Bool
  | .UnaryOp .Not _ _ => false
  | .BoolOp .. => false
  | .IfExp .. => false
  | .Compare .. => false
  | _ => true
def isCmp : PySem.Expr → Bool
  | .Compare .. => true
  | _ => false
mutual
/-- a target -/
def ckG (Γ : Gm) : E → PySem.Expr → Bool
  | .slot i, .Name x _ => decide (Γ.N[i]? = some x) && locS Γ.ts x
  | .tup es, .Tuple ts _ _ => ckGs Γ es ts
  | _, _ => false
def ckGs (Γ : Gm) : E → List PySem.Expr → Bool
  | .nil, [] => true
  | .cons a b, t :: ts => ckG Γ a t && plainX t && ckGs Γ b ts
  | _, _ => false
end
/-- a method's name, how many arguments it takes -/
def mtSyn (m : Mt) (n : Str) (k : Nat) : Bool := match m with
  | .append => n == ("append" : Str) && decide (k = 1)
  | .pop => n == ("pop" : Str) && decide (k = 0)
  | _ => false
mutual
/-- an expression -/
def ckE : E → Gm → PySem.Expr → Bool
  | .non, _, .Constant .none _ _ => true
  | .bl b, _, .Constant (.bool c) _ _ => b == c
  | .int i, _, .Constant (.int j) _ _ => i == j
  | .str s, _, .Constant (.str t) _ _ => s == t
  | .slot i, Γ, .Name x _ => decide (Γ.N[i]? = some x) && vis Γ.sc x && !dbg x && !(x == ("__classdict__" : Str))
  | .con d x, Γ, .Name y _ => x == y && glb Γ.sc x && !dbg x && Γ.con.any fun p => p.1 == x && p.2.beq d
  | .bin op a b, Γ, .BinOp a' op' b' _ => decide (op = op') && ckE a Γ a' && ckE b Γ b'
  | .neg a, Γ, .UnaryOp .USub a' _ => ckE a Γ a'
  | .cmp op a b, Γ, .Compare a' [op'] [b'] _ => decide (op = op') && ckE a Γ a' && ckE b Γ b' && plainX b'
  | .chn op1 op2 a b c, Γ, .Compare a' [o1, o2] [b', c'] _ => decide (op1 = o1) && decide (op2 = o2) && ckE a Γ a' && ckE b Γ b' && ckE c Γ c' && plainX b' && plainX c'
  | .and a b, Γ, .BoolOp .And (a' :: b' :: r) pos => ckE a Γ a' && (match r with
    | [] => ckE b Γ b'
    | _ => ckE b Γ (.BoolOp .And (b' :: r) pos))
  | .or a b, Γ, .BoolOp .Or (a' :: b' :: r) pos => ckE a Γ a' && (match r with
    | [] => ckE b Γ b'
    | _ => ckE b Γ (.BoolOp .Or (b' :: r) pos))
  | .ntv a, Γ, .UnaryOp .Not a' _ => ckE a Γ a'
  | .ifx c a b, Γ, .IfExp c' a' b' _ => ckT c Γ c' && ckE a Γ a' && ckE b Γ b'
  | .tup es, Γ, .Tuple ts _ _ => ckEs es Γ ts
  | .lst es, Γ, .List ts _ => ckEs es Γ ts
  | .ix a b, Γ, .Subscript a' b' _ => ckE a Γ a' && ckE b Γ b' && plainX b'
  | .sl a lo hi, Γ, .Subscript a' (.Slice l u none _) _ => ckE a Γ a' && ckO lo Γ l && ckO hi Γ u
  | .call f es ds, Γ, .Call (.Name x _) ts [] _ => glb Γ.sc x && !dbg x && ckEs es Γ ts && Γ.fns.any fun p => p.1 == x && p.2.1 == f && D.beqL p.2.2 ds
  | .bi b es, Γ, .Call (.Name x _) ts [] _ => x == biName b && decide (b ≠ .bad) && glb Γ.sc x && !ts.isEmpty && ckEs es Γ ts
  | .isi a t, Γ, .Call (.Name x _) [a', .Name y _] [] _ => x == ("isinstance" : Str) && y == tyStr t && glb Γ.sc x && glb Γ.sc y && ckE a Γ a' && plainX a'
  | .mt m o es, Γ, .Call (.Attribute o' n p) ts [] q => ckE o Γ o' && plainB o' && ckEs es Γ ts && decide (p.endLine = q.line) && mtSyn m n ts.length
  | .lc own tg it c elt, Γ, .ListComp elt' gens scope _ => match gens with
    | [⟨tg', it', ifs, n⟩] => decide (n = 0) && blkC Γ.N Γ.sc scope (ownN Γ.N own) && tgIn own tg && ckI it Γ tg' it' && plainX it' && ckG { Γ with sc := relS scope Γ.sc, ts := scope } tg tg' && ckE elt { Γ with sc := relS scope Γ.sc, ts := scope } elt' && (match ifs with
      | [] => (match c with
        | .omit => true
        | _ => false)
      | [c'] => ckT c { Γ with sc := relS scope Γ.sc, ts := scope } c'
      | _ => false)
    | _ => false
  | _, _, _ => false
/-- arguments, items -/
def ckEs : E → Gm → List PySem.Expr → Bool
  | .nil, _, [] => true
  | .cons a b, Γ, t :: ts => ckE a Γ t && plainX t && ckEs b Γ ts
  | _, _, _ => false
/-- a slice's part -/
def ckO : E → Gm → Option PySem.Expr → Bool
  | .omit, _, none => true
  | .cons a _, Γ, some t => ckE a Γ t
  | _, _, _ => false
/-- a test -/
def ckT : E → Gm → PySem.Expr → Bool
  | .and a b, Γ, .BoolOp .And (a' :: b' :: r) pos => ckT a Γ a' && (match r with
    | [] => ckT b Γ b'
    | _ => ckT b Γ (.BoolOp .And (b' :: r) pos))
  | .or a b, Γ, .BoolOp .Or (a' :: b' :: r) pos => ckT a Γ a' && (match r with
    | [] => ckT b Γ b'
    | _ => ckT b Γ (.BoolOp .Or (b' :: r) pos))
  | .nt a, Γ, .UnaryOp .Not a' _ => ckT a Γ a'
  | .tru a, Γ, t => ckE a Γ t && (plainT t || isCmp t)
  | .omit, _, _ => false
  | _, _, _ => false
/-- what is walked -/
def ckI : E → Gm → PySem.Expr → PySem.Expr → Bool
  | .rng es, Γ, _, .Call (.Name x _) ts [] _ => x == ("range" : Str) && glb Γ.sc x && (decide (ts.length = 1) || decide (ts.length = 2)) && ckEs es Γ ts
  | .enu a, Γ, .Tuple _ _ _, .Call (.Name x _) [a'] [] _ => x == ("enumerate" : Str) && glb Γ.sc x && ckE a Γ a' && plainX a'
  | .zip a b, Γ, .Tuple _ _ _, .Call (.Name x _) [a', b'] [] _ => x == ("zip" : Str) && glb Γ.sc x && ckE a Γ a' && plainX a' && ckE b Γ b' && plainX b'
  | .itr a, Γ, _, t => ckE a Γ t
  | _, _, _, _ => false
end
end Mini
end

section
/-! Mini: what must be known of the classes of exceptions (own work). -/
namespace Mini
open PySem PySem.Spec PyProof.Rows L2

/-- what the written part says of a class of exceptions C whose __init__ (at f, closing over cc, defined in the class D) is of that form -/
structure InitIn (prog : Program) (K : PySem.W.Frag) (f cc D cda : Addr) (qual : Str) : Prop where
  cell : ∃ oc od sl, K.lookup cc = some ⟨oc, od, .cell (some (.ref D)), sl⟩
  dcls : ∃ cd, PySem.W.clsIn K D = some cd
  code : ∃ cl cd cs vs file tf, K.lookup cda = some ⟨cl, cd, .fields vs, cs⟩ ∧ vs[2]? = some (.str file tf) ∧ ((prog.main.file : Str) == file) = true
  top : (prog.main.scope.names.lookup ("super" : Str)).isSome = false
  sup : PySem.W.nsIn K mainGlobals "super" = some none
  third : PySem.W.nsIn K cStatics "thirdparty.any" = some none
/-- .. and of C -/
structure InitC (K : PySem.W.Frag) (C D : Addr) : Prop where
  T : OexC K C
  sub : PySem.W.mroIn K C (.ref D) = some true
  chain : PySem.W.ks_superIn K C D "__init__" = some (some (.builtin "ValueError.__init__"))
  ve : PySem.W.subIn K (.ref C) (.type "ValueError") = some true
/-- what an __init__ keeps that stores its arguments in the fields fls -/
def spN (K : PySem.W.Frag) (D : Addr) (fls : List Str) : Sp := fun vs H Q _ => ∃ a C ys, vs = .ref a :: ys ∧ ys.length = fls.length ∧ InitC K C D ∧ (∀ f ∈ fls, PySem.W.findIn K (.ref C) f = some none) ∧ H a = some (exo a C none) ∧
  ∀ dx, H dx = none → dx ≠ a → Q .non (L2.upd (L2.upd H dx (exd dx (fls.zip ys).reverse)) a (exo a C (some dx)))
/-- a class's name: own, or built in -/
def Nm (mg : Str → Option Value) (x : Str) (m : Nat) (v : Value) : Prop := (m = 0 ∧ mg x = some v ∧ ∃ b, v = .ref b) ∨ (m = 1 ∧ mg x = none ∧ bootBuiltins x = some v ∧ x ≠ "__name__" ∧ ∃ T, v = .type T)
/-- the classes of the table -/
structure ClF (C : List Cl) (ca : Nat → Addr) (tb : List (Str × Nat × Nat)) (P : Program) (w : World) (K : PySem.W.Frag) (mg : Str → Option Value) (base : Heap) : Prop where
  ex : ∀ c k0, C[c]? = some k0 → ExcC K (ca c) ∧ ∀ f ∈ k0.flds, PySem.W.findIn K (.ref (ca c)) f = some none
  cls : ∀ x a m, (x, a, m) ∈ tb → ∃ v, Nm mg x m v ∧ ∀ c k0, C[c]? = some k0 → PySem.W.kitOne K (.ref (ca c)) v = some (isAnc C c a) ∧ (m = 0 → PySem.W.exmOne K (.ref (ca c)) v = some (isAnc C c a))
  rs : ∀ x a, (x, a, 0) ∈ tb → ∀ k0, C[a]? = some k0 → k0.flds ≠ [] → k0.flds.Nodup ∧ ∃ D fI fd ps, mg x = some (.ref (ca a)) ∧ InitC K (ca a) D ∧ PySem.W.findIn K (.ref (ca a)) "__init__" = some (some (.ref fI)) ∧
    PySem.W.typeIn K (.ref fI) = some (.type "function") ∧ FnOk P w K mg base (L2.CX P w) 1 fI fd ps (spN K D k0.flds) ∧ Binds K fd ps []
/-- a def of the text that tells of a caught exception which of the classes cs it is -/
structure KinF (P : Program) (w : World) (K : PySem.W.Frag) (mg : Str → Option Value) (base : Heap) (C : List Cl) (ca : Nat → Addr) (f : Addr) (fd : FuncData) (ps : List Str) (cs : List Nat) : Prop where
  one : ps.length = 1
  run : ∀ (A : Around) (outer : List PySem.Env) (s : Shared) (H : Hp) (args : Args) (a dd : Addr) (oe : Obj) (c : Nat) (k0 : Cl) (fl : List (Str × V)) (Q : VK), C[c]? = some k0 → L2H.RoomH 1 A → Env0 P w K mg base A outer s H → BindsTo s fd args (ps.zip [.ref a]) → L2H.PinOk outer H s (a, oe) →
    Zc (.ref (ca c)) (some dd) oe → (∃ vs, oe.data = .fields vs) → H dd = some (.xd fl) →
    (∀ p1 p2 p3 xs1 xs2, H p1 = none → (L2.upd H p1 (.lst xs1)) p2 = none → (L2.upd (L2.upd H p1 (.lst xs1)) p2 (.lst xs2)) p3 = none → Q (.ref p3) (L2.upd (L2.upd (L2.upd H p1 (.lst xs1)) p2 (.lst xs2)) p3 (.lst (cs.map fun a => V.bl (isAnc C c a))))) →
    codeAny (model P w) A (.call (.ref f) args) (CR (L2.CX P w) outer P w H s Q (fun _ _ _ => False)) s
end Mini
end

section
/-! Mini: the checked expressions run as the evaluator says (own work). -/
namespace Mini
open PySem PySem.Spec PyProof.Rows L2

/-! ### weaker readings -/
section
variable {X : Cx}
theorem PE.imp {e : PySem.Expr} {t t' : TE} (h : PE X e t) (k : ∀ σ H Q, t' σ H Q → t σ H Q) : PE X e t' := ⟨fun pins s σ H Q I q => h.run pins s σ H Q I (k _ _ _ q)⟩
theorem PT.imp {e : PySem.Expr} {t t' : TT} (h : PT X e t) (k : ∀ σ H Q, t' σ H Q → t σ H Q) : PT X e t' := ⟨fun pins s σ H Q I q => h.run pins s σ H Q I (k _ _ _ q)⟩
theorem PW.imp {e : PySem.Expr} {t t' : TT} (h : PW X e t) (k : ∀ σ H Q, t' σ H Q → t σ H Q) : PW X e t' := ⟨fun wh pins s σ H Q I q => h.run wh pins s σ H Q I (k _ _ _ q)⟩
theorem PA.imp {e : List PySem.Expr} {t t' : TA} (h : PA X e t) (k : ∀ σ H Q, t' σ H Q → t σ H Q) : PA X e t' := ⟨fun pos pins s σ H Q I q => h.run pos pins s σ H Q I (k _ _ _ q)⟩
theorem PO.imp {e : Option PySem.Expr} {t t' : TO} (h : PO X e t) (k : ∀ σ H Q, t' σ H Q → t σ H Q) : PO X e t' := ⟨fun pins s σ H Q I q => h.run pins s σ H Q I (k _ _ _ q)⟩
theorem PI.imp {tg it : PySem.Expr} {t t' : TI} (h : PI X tg it t) (k : ∀ σ H Q, t' σ H Q → t σ H Q) : PI X tg it t' := ⟨fun pins s σ H Q I q => h.run pins s σ H Q I (k _ _ _ q)⟩
theorem PI.or {tg it : PySem.Expr} {t t' : TI} (h : PI X tg it t) (h' : PI X tg it t') : PI X tg it (fun σ H R => t σ H R ∨ t' σ H R) := ⟨fun pins s σ H Q I q => by
  rcases q with q | q
  · exact h.run pins s σ H Q I q
  · exact h'.run pins s σ H Q I q⟩
theorem PG.imp {e : PySem.Expr} {t t' : TG} (h : PG X e t) (k : ∀ v σ H Q, t' v σ H Q → t v σ H Q) : PG X e t' := ⟨fun pins s σ H v u Q I r q => h.run pins s σ H v u Q I r (k _ _ _ _ q)⟩
theorem PGs.imp {e : List PySem.Expr} {t t' : TGs} (h : PGs X e t) (k : ∀ v σ H Q, t' v σ H Q → t v σ H Q) : PGs X e t' := ⟨fun pins s σ H v u Q I r q => h.run pins s σ H v u Q I r (k _ _ _ _ q)⟩
theorem PTs.imp {e : List PySem.Expr} {t t' : TT} (h : PTs X e t) (k : ∀ σ H Q, t' σ H Q → t σ H Q) : PTs X e t' := ⟨fun pins s σ H Q I q => h.run pins s σ H Q I (k _ _ _ q)⟩
end

/-! ### the contexts in which the text runs -/
abbrev Caller := Nat → List D → List O → Option (R D)
def spI (Z : Ct) (call : Caller) (f : Nat) : Sp := fun vs H Q E => ∃ ρ h ds, Wd Z.K ρ h H ∧ RVs Z.K ρ H vs ds ∧ Post Z ρ H (relD Z.K) E Q (call f ds h)
def blts : List Str := ["abs", "all", "any", "int", "len", "list", "tuple", "repr", "max", "min", "sum", "sorted", "range", "enumerate", "zip", "isinstance", "bool", "str", "dict"]
structure XOk (C : List Cl) (ca : Nat → Addr) (call : Caller) (k : Nat) (Γ : Gm) (X : Cx) (W : WX) : Prop where
  hc : X.calm = true
  hN : X.N = Γ.N
  nd : Γ.N.Nodup
  sc : X.env.scope = Γ.sc
  rm : Room (k + 3) X.A
  gd : X.A.guards = some []
  tk : Takes X W
  fns : ∀ x f ds, (x, f, ds) ∈ Γ.fns → ∃ a fd ps us dvs, X.mg x = some (.ref a) ∧ PySem.W.keepIn X.K (.ref a) = true ∧ FnG X.prog X.w X.K X.mg X.base k a fd ps (spI ⟨X.K, C, ca⟩ call f) ∧ Binds X.K fd ps us ∧ Vals dvs us ∧ ∀ ρ H, RVs X.K ρ H dvs ds
  blt : ∀ x ∈ blts, X.mg x = none
  con : ∀ x d, (x, d) ∈ Γ.con → ∃ v u, X.mg x = some u ∧ RelV v u ∧ ∀ ρ H, RV X.K ρ H v d
  kin : ∀ x cs, (x, cs) ∈ Γ.kin → ∃ a fd ps, X.mg x = some (.ref a) ∧ PySem.W.keepIn X.K (.ref a) = true ∧ KinF X.prog X.w X.K X.mg X.base C ca a fd ps cs ∧ Binds X.K fd ps []
  clf : ClF C ca Γ.cls X.prog X.w X.K X.mg X.base
  fnx : ∀ x, locS Γ.ts x = true → Loc X.env.scope x ∧ (X.fn x = true ∨ X.env.scope.names.lookup x = some .local)
theorem XOk.hu {C : List Cl} {ca : Nat → Addr} {call : Caller} {k : Nat} {Γ : Gm} {X : Cx} {W : WX} (o : XOk C ca call k Γ X W) : X.A.units + 64 < cLine := o.rm.units
theorem takesF {X : Cx} : Takes X (fun _ _ _ _ => False) := fun _ _ z => by
  obtain ⟨_, _, _, _, _, _, _, _, _, _, _, _, _, _, _, _, q⟩ := z
  exact q.elim
/-- within a comprehension's block -/
theorem XOk.blk {C : List Cl} {ca : Nat → Addr} {call : Caller} {k : Nat} {Γ : Gm} {X : Cx} {W : WX} (o : XOk C ca call k Γ X W) (s : Shared) (H : Hp) (scope : Scope) (cl : List (Str × Addr)) (cC : Addr) (fp : List Addr) :
    XOk C ca call k { Γ with sc := relS scope Γ.sc, ts := scope } (X.blk s H scope (compEnvC scope cl cC X.env) fp) (fun _ _ _ _ => False) := by
  refine ⟨o.hc, o.hN, o.nd, ?_, o.rm, o.gd, takesF, o.fns, o.blt, o.con, o.kin, o.clf, fun x hx => ?_⟩
  · show relS scope X.env.scope = relS scope Γ.sc
    rw [o.sc]
  · have hx' : locS scope x = true := hx
    unfold locS at hx'
    split at hx'
    · rename_i e
      have e2 : (relS scope X.env.scope).names.lookup x = some .local := lookup_relS_keep (by decide) e
      exact ⟨.inl e2, .inr e2⟩
    · rename_i e
      have e2 : (relS scope X.env.scope).names.lookup x = some .cell := lookup_relS_keep (by decide) e
      refine ⟨.inr e2, .inl ?_⟩
      show (scope.names.lookup x == some .cell) = true
      rw [e]; rfl
    · cases hx'

/-! ### the readings by the evaluator -/
section
variable (K : PySem.W.Frag) (C : List Cl) (ca : Nat → Addr) (call : Caller) (W : WX)
def tE (ir : E) : TE := fun σ H Q => ∃ ρ h env, Wd K ρ h H ∧ EnvR K ρ H σ env ∧ Post ⟨K, C, ca⟩ ρ H (relD K) (fun c d H' => W c d σ H') Q (ev call ir env h)
def tA (ir : E) : TA := fun σ H Q => ∃ ρ h env, Wd K ρ h H ∧ EnvR K ρ H σ env ∧ Post ⟨K, C, ca⟩ ρ H (relL K) (fun c d H' => W c d σ H') Q (evs call ir env h)
def tO (ir : E) : TO := fun σ H Q => ∃ ρ h env, Wd K ρ h H ∧ EnvR K ρ H σ env ∧ Post ⟨K, C, ca⟩ ρ H relO (fun c d H' => W c d σ H') Q (evo call ir env h)
def tT (ir : E) : TT := fun σ H Q => ∃ ρ h env, Wd K ρ h H ∧ EnvR K ρ H σ env ∧ Post ⟨K, C, ca⟩ ρ H relB (fun c d H' => W c d σ H') Q (evt call ir env h)
/-- an iterator that yields the items while the lists stay -/
def ItOk (ρ0 : List Addr) (H0 : Hp) (J : It) (p : List D × Src) : Prop := ∀ ρ h H, Xt ρ0 H0 ρ H → Wd K ρ h H → chk p.2 h = true →
  (∀ (i : Nat) x, p.1[i]? = some x → J.go i H ∧ ∀ v H', J.yld i H v H' → Xt ρ H ρ H' ∧ Wd K ρ h H' ∧ RV K ρ H' v x) ∧ J.stop p.1.length H
def relI : Rel (List D × Src) It := fun ρ H J p => ItOk K ρ H J p
def tI (ir : E) : TI := fun σ H R => ∃ ρ h env, Wd K ρ h H ∧ EnvR K ρ H σ env ∧ Post ⟨K, C, ca⟩ ρ H (relI K) (fun c d H' => W c d σ H') R (evi call ir env h)
end
def tG (K : PySem.W.Frag) (ir : E) : TG := fun v σ H Q => ∃ ρ h d env env2, Wd K ρ h H ∧ EnvR K ρ H σ env ∧ RV K ρ H v d ∧ asgT ir d env = some env2 ∧ ∀ σ2, EnvR K ρ H σ2 env2 → (∀ own, tgIn own ir = true → wipe σ2 own = wipe σ own) → Q σ2 H
def tGs (K : PySem.W.Frag) (ir : E) : TGs := fun v σ H Q => ∃ ρ h d env env2, Wd K ρ h H ∧ EnvR K ρ H σ env ∧ RVs K ρ H v d ∧ asgT.asgTs ir d env = some env2 ∧ ∀ σ2, EnvR K ρ H σ2 env2 → (∀ own, tgIn own ir = true → wipe σ2 own = wipe σ own) → Q σ2 H

/-! ### targets -/
theorem wipe_set {σ : L2.St} {i : Nat} {x : Option V} : ∀ {own : List Nat}, i ∈ own → wipe (σ.set i x) own = wipe σ own
  | [], h => nomatch h
  | v :: vs, h => by
    show (wipe (σ.set i x) vs).set v none = (wipe σ vs).set v none
    by_cases e : i ∈ vs
    · rw [wipe_set e]
    · have e' : i = v := by
        rcases List.mem_cons.mp h with q | q
        · exact q
        · exact absurd q e
      subst e'
      have key : ∀ (vs : List Nat) (σ : L2.St), i ∉ vs → wipe (σ.set i x) vs = (wipe σ vs).set i x := by
        intro vs
        induction vs with
        | nil => intro σ _; rfl
        | cons a l ih =>
          intro σ hn
          show (wipe (σ.set i x) l).set a none = ((wipe σ l).set a none).set i x
          have h1 : i ≠ a := fun z => hn (z ▸ List.mem_cons_self)
          rw [ih σ (fun z => hn (List.mem_cons_of_mem _ z)), List.set_comm _ _ h1]
      rw [key vs σ e, List.set_set]
section
variable {C : List Cl} {ca : Nat → Addr} {call : Caller} {k : Nat} {X : Cx} {W : WX}
theorem len_each {env : PySem.Env} : ∀ {ts : List PySem.Expr}, (assignEach ts env).length = ts.length
  | [] => rfl
  | t :: ts => by
    have ih := len_each (env := env) (ts := ts)
    cases t <;> (show (assignEach ts env).length + 1 = ts.length + 1; rw [ih])
theorem each_cons {env : PySem.Env} {t : PySem.Expr} {ts : List PySem.Expr} (h : plainX t = true) : assignEach (t :: ts) env = (false, assign t env) :: assignEach ts env := by
  cases t <;> first | rfl | cases h
theorem each_star {env : PySem.Env} : ∀ {ts : List PySem.Expr}, ts.all plainX = true → (assignEach ts env).findIdx? (·.1) = none
  | [], _ => rfl
  | t :: ts, h => by
    have h' : plainX t = true ∧ ts.all plainX = true := by simpa using h
    rw [each_cons h'.1, List.findIdx?_cons, each_star h'.2]
    rfl
theorem ckG_slot {Γ : Gm} {i : Nat} {e : PySem.Expr} : ckG Γ (.slot i) e = match e with | .Name x _ => decide (Γ.N[i]? = some x) && locS Γ.ts x | _ => false := by cases e <;> rfl
theorem ckG_tup {Γ : Gm} {es : E} {e : PySem.Expr} : ckG Γ (.tup es) e = match e with | .Tuple ts _ _ => ckGs Γ es ts | _ => false := by cases e <;> rfl
theorem ckGs_cons {Γ : Gm} {a b : E} {ts : List PySem.Expr} : ckGs Γ (.cons a b) ts = match ts with | t :: ts => ckG Γ a t && plainX t && ckGs Γ b ts | [] => false := by cases ts <;> rfl
theorem ckGs_nil {Γ : Gm} {ts : List PySem.Expr} : ckGs Γ .nil ts = ts.isEmpty := by cases ts <;> rfl
theorem ckGs_plain {Γ : Gm} : ∀ {es : E} {ts : List PySem.Expr}, ckGs Γ es ts = true → ts.all plainX = true
  | es, [], _ => rfl
  | es, t :: ts, h => by
    cases es with
    | cons a b =>
      rw [ckGs_cons] at h
      simp only [Bool.and_eq_true] at h
      simp only [List.all_cons, Bool.and_eq_true]
      exact ⟨h.1.2, ckGs_plain h.2⟩
    | _ => cases h
theorem tg_ok {Γ : Gm} (o : XOk C ca call k Γ X W) : ∀ (ir : E), (∀ e, ckG Γ ir e = true → PG X e (tG X.K ir)) ∧ (∀ ts, ckGs Γ ir ts = true → PGs X ts (tGs X.K ir)) := by
  intro ir
  induction ir with
  | slot i =>
    refine ⟨fun e h => ?_, fun ts h => (by cases ts <;> cases h)⟩
    rw [ckG_slot] at h
    split at h
    · rename_i x p
      simp only [Bool.and_eq_true, decide_eq_true_eq] at h
      obtain ⟨h1, h2⟩ := o.fnx x h.2
      refine PG.imp (pg_name (i := i) (by rw [o.hN]; exact o.nd) (by rw [o.hN]; exact h.1) h1 h2) ?_
      rintro v σ H Q ⟨ρ, h, d, env, env2, w, er, r, ea, q⟩
      unfold asgT at ea
      split at ea
      · cases ea
        refine q _ (er.set r) fun own ho => wipe_set ?_
        have : own.contains i = true := ho
        simpa using this
      · cases ea
    · cases h
  | tup es ih =>
    refine ⟨fun e h => ?_, fun ts h => (by cases ts <;> cases h)⟩
    rw [ckG_tup] at h
    split at h
    · rename_i ts k' p
      refine PG.imp (pg_tup (n := ts.length) o.hc (ih.2 ts h) len_each (each_star (ckGs_plain h))) ?_
      rintro v σ H Q ⟨ρ, hh, d, env, env2, w, er, r, ea, q⟩
      cases d with
      | tup xs =>
        obtain ⟨a, vs, rfl, hq, s⟩ := r
        refine ⟨a, vs, rfl, hq, ?_, ρ, hh, xs, env, env2, w, er, s, ea, q⟩
        rw [s.len]
        have hl : ∀ (es : E) (xs : List D) (env env2 : Env) (ts : List PySem.Expr), asgT.asgTs es xs env = some env2 → ckGs Γ es ts = true → xs.length = ts.length := by
          intro es
          induction es with
          | nil =>
            intro xs env env2 ts e1 e2
            cases xs with
            | nil => cases ts with
              | nil => rfl
              | cons t ts => cases e2
            | cons x xs => cases e1
          | cons a b _ ihb =>
            intro xs env env2 ts e1 e2
            cases xs with
            | nil => cases e1
            | cons x xs =>
              cases ts with
              | nil => cases e2
              | cons t ts =>
                unfold asgT.asgTs at e1
                rw [ckGs_cons] at e2
                simp only [Bool.and_eq_true] at e2
                split at e1
                · rw [List.length_cons, List.length_cons, ihb _ _ _ _ e1 e2.2]
                · cases e1
          | _ => intro xs env env2 ts e1; cases e1
        exact hl es xs env env2 ts ea h
      | _ => cases ea
    · cases h
  | nil =>
    refine ⟨fun e h => (by cases e <;> cases h), fun ts h => ?_⟩
    cases ts with
    | nil =>
      refine PGs.imp pgs_nil ?_
      rintro v σ H Q ⟨ρ, hh, d, env, env2, w, er, r, ea, q⟩
      cases d with
      | nil =>
        cases r; cases ea
        exact ⟨rfl, q σ er fun _ _ => rfl⟩
      | cons x xs => cases ea
    | cons t ts => cases h
  | cons a b iha ihb =>
    refine ⟨fun e h => (by cases e <;> cases h), fun ts h => ?_⟩
    cases ts with
    | nil => cases h
    | cons t ts =>
      rw [ckGs_cons] at h
      simp only [Bool.and_eq_true] at h
      refine PGs.imp (pgs_cons (iha.1 t h.1.1) (ihb.2 ts h.2) (by rw [each_cons h.1.2]; rfl)) ?_
      rintro v σ H Q ⟨ρ, hh, d, env, env2, w, er, r, ea, q⟩
      cases d with
      | nil => cases ea
      | cons x xs =>
        obtain ⟨u, us, rfl, r1, r2⟩ := r
        unfold asgT.asgTs at ea
        split at ea
        · rename_i env' e1
          refine ⟨u, us, rfl, ρ, hh, x, env, env', w, er, r1, e1, fun σ2 er2 hw => ?_⟩
          refine ⟨ρ, hh, xs, env', env2, w, er2, r2, ea, fun σ3 er3 hw3 => q σ3 er3 fun own ho => ?_⟩
          have ho' : tgIn own a = true ∧ tgIn own b = true := by simpa [tgIn] using ho
          rw [hw3 own ho'.2, hw own ho'.1]
        · cases ea
  | _ => exact ⟨fun e h => (by cases e <;> cases h), fun ts h => (by cases ts <;> cases h)⟩
end
end Mini
end

section
/-! Mini: what loops walk (own work). -/
namespace Mini
open PySem PySem.Spec PyProof.Rows L2
section
variable {K : PySem.W.Frag} {ρ ρ0 : List Addr} {H H0 : Hp} {h h0 : List O}
theorem chk_at {src : Src} (e : chk src h = true) {n : Nat} {xs : List D} (m : (n, xs) ∈ src) : rdLst h n = some xs := by
  have q := List.all_eq_true.mp e (n, xs) m
  dsimp only at q
  split at q
  · rename_i ys e1
    rw [e1, D.beqL_eq _ _ q]
  · cases q
/-- a list's address, its values where it stands as told -/
theorem src_at (w0 : Wd K ρ0 h0 H0) {n : Nat} {a : Addr} (ea : ρ0[n]? = some a) (x : Xt ρ0 H0 ρ H) (w : Wd K ρ h H) {xs : List D} (e : rdLst h n = some xs) : ∃ vs, SqL K H a vs ∧ RVs K ρ H vs xs := by
  obtain ⟨b, vs, e1, _, e2, e3⟩ := rd_lst (v := .ref a) w ⟨a, rfl, x.get n a ea⟩ e
  cases e1
  exact ⟨vs, e2, e3⟩
theorem it_list (w0 : Wd K ρ0 h0 H0) {n : Nat} {a : Addr} {xs : List D} (ea : ρ0[n]? = some a) : ItOk K ρ0 H0 (Itl K a) (xs, [(n, xs)]) := by
  intro ρ h H x w c
  obtain ⟨vs, q, r⟩ := src_at w0 ea x w (chk_at c (n := n) (xs := xs) List.mem_cons_self)
  refine ⟨fun i d e => ?_, ⟨vs, q, by rw [r.len]; exact Nat.le_refl _⟩⟩
  obtain ⟨v, e1, e2⟩ := r.get e
  refine ⟨⟨vs, v, q, e1⟩, fun u H' y => ?_⟩
  obtain ⟨rfl, f⟩ := y
  have := f vs q
  rw [e1] at this; cases this
  exact ⟨Xt.refl, w, e2⟩
theorem it_tup (w0 : Wd K ρ0 h0 H0) {a : Addr} {us : List V} {xs : List D} (hq : SqT K H0 a us) (hr : RVs K ρ0 H0 us xs) : ItOk K ρ0 H0 (Itt K a) (xs, []) := by
  intro ρ h H x w _
  have q := w0.tups x a us hq
  have r := w0.rvs x hr
  refine ⟨fun i d e => ?_, ⟨us, q, by rw [r.len]; exact Nat.le_refl _⟩⟩
  obtain ⟨v, e1, e2⟩ := r.get e
  refine ⟨⟨us, v, q, e1⟩, fun u H' y => ?_⟩
  obtain ⟨rfl, f⟩ := y
  have := f us q
  rw [e1] at this; cases this
  exact ⟨Xt.refl, w, e2⟩
theorem it_rng {lo : Int} {n : Nat} {src : Src} : ItOk K ρ0 H0 (Itr lo n) ((List.range n).map fun k : Nat => D.int (lo + (k : Int)), src) := by
  intro ρ h H x w _
  refine ⟨fun i d e => ?_, by show n ≤ _; simp⟩
  have e' : ((List.range n).map fun k : Nat => D.int (lo + (k : Int)))[i]? = some d := e
  rw [List.getElem?_map] at e'
  simp only [Option.map_eq_some_iff] at e'
  obtain ⟨j, e1, rfl⟩ := e'
  obtain ⟨hi, e2⟩ := List.getElem?_eq_some_iff.mp e1
  have hi' : i < n := by simpa using hi
  have ej : j = i := by
    rw [← e2]; simp
  subst ej
  refine ⟨hi', fun v H' y => ?_⟩
  obtain ⟨rfl, rfl⟩ := y
  exact ⟨Xt.refl, w, rfl⟩
theorem enum_get : ∀ (xs : List D) (k i : Nat) (d : D), (enumD k xs)[i]? = some d → ∃ x, xs[i]? = some x ∧ d = .tup [.int ((k + i : Nat) : Int), x]
  | [], _, _, _, e => by simp [enumD] at e
  | x :: xs, k, 0, d, e => by
    have e' : D.tup [.int (k : Nat), x] = d := by simpa [enumD] using e
    exact ⟨x, rfl, e'.symm⟩
  | x :: xs, k, i + 1, d, e => by
    obtain ⟨y, e1, e2⟩ := enum_get xs (k + 1) i d (by simpa [enumD] using e)
    refine ⟨y, by simpa using e1, ?_⟩
    rw [e2, show k + 1 + i = k + (i + 1) by omega]
theorem enum_len : ∀ (xs : List D) (k : Nat), (enumD k xs).length = xs.length
  | [], _ => rfl
  | x :: xs, k => by rw [enumD, List.length_cons, List.length_cons, enum_len xs (k + 1)]
theorem zip_get : ∀ (xs ys : List D) (i : Nat) (d : D), (zipD xs ys)[i]? = some d → ∃ x y, xs[i]? = some x ∧ ys[i]? = some y ∧ d = .tup [x, y]
  | [], _, _, _, e => by simp [zipD] at e
  | _ :: _, [], _, _, e => by simp [zipD] at e
  | x :: xs, y :: ys, 0, d, e => by
    have e' : D.tup [x, y] = d := by simpa [zipD] using e
    exact ⟨x, y, rfl, rfl, e'.symm⟩
  | x :: xs, y :: ys, i + 1, d, e => by
    obtain ⟨a, b, e1, e2, e3⟩ := zip_get xs ys i d (by simpa [zipD] using e)
    exact ⟨a, b, by simpa using e1, by simpa using e2, e3⟩
theorem zip_len : ∀ (xs ys : List D), (zipD xs ys).length = min xs.length ys.length
  | [], ys => by simp [zipD]
  | _ :: _, [] => by simp [zipD]
  | x :: xs, y :: ys => by rw [zipD, List.length_cons, zip_len xs ys, List.length_cons, List.length_cons]; omega
/-- a new pair -/
theorem pair_new (w : Wd K ρ h H) {T : Addr} (n : H T = none) {u v : V} {d e : D} (r1 : RV K ρ H u d) (r2 : RV K ρ H v e) :
    Xt ρ H ρ (upd H T (.tup [u, v])) ∧ Wd K ρ h (upd H T (.tup [u, v])) ∧ RV K ρ (upd H T (.tup [u, v])) (.ref T) (.tup [d, e]) := by
  have x := xt_new (ρ := ρ) (o := .tup [u, v]) n
  exact ⟨x, w.new n, T, [u, v], rfl, .inl (.inl upd_same), u, [v], rfl, w.rv x r1, v, [], rfl, w.rv x r2, rfl⟩
theorem it_enum (w0 : Wd K ρ0 h0 H0) {n : Nat} {a : Addr} {xs : List D} (ea : ρ0[n]? = some a) : ItOk K ρ0 H0 (Ite K a) (enumD 0 xs, [(n, xs)]) := by
  intro ρ h H x w c
  obtain ⟨vs, q, r⟩ := src_at w0 ea x w (chk_at c (n := n) (xs := xs) List.mem_cons_self)
  refine ⟨fun i d e => ?_, ⟨vs, q, by rw [r.len]; show _ ≤ (enumD 0 xs).length; rw [enum_len]; exact Nat.le_refl _⟩⟩
  obtain ⟨y, e0, rfl⟩ := enum_get xs 0 i d e
  obtain ⟨v, e1, e2⟩ := r.get e0
  refine ⟨⟨vs, v, q, e1⟩, fun u H' yl => ?_⟩
  obtain ⟨T, z, rfl, nT, rfl, f⟩ := yl
  have := f vs q
  rw [e1] at this; cases this
  rw [Nat.zero_add]
  exact pair_new w nT (d := .int (i : Nat)) rfl e2
theorem it_zipL (w0 : Wd K ρ0 h0 H0) {m n : Nat} {a b : Addr} {xs ys : List D} (ea : ρ0[m]? = some a) (eb : ρ0[n]? = some b) : ItOk K ρ0 H0 (Itz K a b) (zipD xs ys, [(m, xs), (n, ys)]) := by
  intro ρ h H x w c
  obtain ⟨vs, q, r⟩ := src_at w0 ea x w (chk_at c (n := m) (xs := xs) List.mem_cons_self)
  obtain ⟨us, q', r'⟩ := src_at w0 eb x w (chk_at c (n := n) (xs := ys) (List.mem_cons_of_mem _ List.mem_cons_self))
  refine ⟨fun i d e => ?_, ⟨vs, us, q, q', by rw [r.len, r'.len]; show _ ≤ (zipD xs ys).length ∨ _ ≤ (zipD xs ys).length; rw [zip_len]; omega⟩⟩
  obtain ⟨y, z, e0, e0', rfl⟩ := zip_get xs ys i d e
  obtain ⟨v, e1, e2⟩ := r.get e0
  obtain ⟨v', e1', e2'⟩ := r'.get e0'
  refine ⟨⟨vs, us, v, v', q, q', e1, e1'⟩, fun u H' yl => ?_⟩
  obtain ⟨T, z, z', rfl, nT, rfl, f, f'⟩ := yl
  have h1 := f vs q
  have h2 := f' us q'
  rw [e1] at h1; cases h1
  rw [e1'] at h2; cases h2
  exact pair_new w nT e2 e2'
theorem it_zipT (w0 : Wd K ρ0 h0 H0) {a b : Addr} {vs us : List V} {xs ys : List D} (qa : SqT K H0 a vs) (ra : RVs K ρ0 H0 vs xs) (qb : SqT K H0 b us) (rb : RVs K ρ0 H0 us ys) : ItOk K ρ0 H0 (RZ.ItzT K a b) (zipD xs ys, []) := by
  intro ρ h H x w _
  have q := w0.tups x a vs qa
  have r := w0.rvs x ra
  have q' := w0.tups x b us qb
  have r' := w0.rvs x rb
  refine ⟨fun i d e => ?_, ⟨vs, us, q, q', by rw [r.len, r'.len]; show _ ≤ (zipD xs ys).length ∨ _ ≤ (zipD xs ys).length; rw [zip_len]; omega⟩⟩
  obtain ⟨y, z, e0, e0', rfl⟩ := zip_get xs ys i d e
  obtain ⟨v, e1, e2⟩ := r.get e0
  obtain ⟨v', e1', e2'⟩ := r'.get e0'
  refine ⟨⟨vs, us, v, v', q, q', e1, e1'⟩, fun u H' yl => ?_⟩
  obtain ⟨T, z, z', rfl, nT, rfl, f, f'⟩ := yl
  have h1 := f vs q
  have h2 := f' us q'
  rw [e1] at h1; cases h1
  rw [e1'] at h2; cases h2
  exact pair_new w nT e2 e2'
/-- a list that was made ahead is named -/
theorem Wd.adopt (w : Wd K ρ h H) {a : Addr} {vs : List V} {xs : List D} (n : a ∉ ρ) (e : H a = some (.lst vs)) (r : RVs K ρ H vs xs) : Wd K (ρ ++ [a]) (h ++ [.lst xs]) H ∧ RV K (ρ ++ [a]) H (.ref a) (.ref h.length) := by
  have pre : ∀ (i : Nat) b, ρ[i]? = some b → (ρ ++ [a])[i]? = some b := fun i b e => by
    rw [List.getElem?_append_left (List.getElem?_eq_some_iff.mp e).1]; exact e
  refine ⟨⟨by simp [w.len], List.nodup_append.mpr ⟨w.nd, by simp, fun b m c mc z => by simp at mc; exact n (by rw [← mc, ← z]; exact m)⟩, fun i o b e1 e2 => ?_⟩, a, rfl, ?_⟩
  · by_cases hi : i < h.length
    · rw [List.getElem?_append_left hi] at e1
      rw [List.getElem?_append_left (by rw [w.len]; exact hi)] at e2
      exact OR.mono TS'.refl pre rfl (w.obj i o b e1 e2)
    · have hi2 : i = h.length := by
        have := (List.getElem?_eq_some_iff.mp e1).1
        simp at this; omega
      subst hi2
      rw [List.getElem?_append_right (Nat.le_refl _)] at e1
      rw [← w.len, List.getElem?_append_right (Nat.le_refl _)] at e2
      simp at e1 e2
      subst e1; subst e2
      exact ⟨vs, e, RVs.mono TS'.refl pre xs vs r⟩
  · rw [← w.len, List.getElem?_append_right (Nat.le_refl _)]; simp
end
end Mini
end

section
/-! Mini: every checked expression runs as the evaluator says (own work). -/
namespace Mini
open PySem PySem.Spec PyProof.Rows L2

theorem ff {b : Bool} {P : Prop} (h : b = true) (e : b = false) : P := by rw [e] at h; cases h
section
variable {Z : Ct} {α β γ δ : Type} {ρ ρ1 : List Addr} {H H1 : Hp} {rel : Rel α β} {rel2 : Rel γ δ} {Wc : Value → Option Addr → Hp → Prop} {Q : β → Hp → Prop} {Q2 : δ → Hp → Prop}
/-- the first of two in a row, the wish kept as it was said -/
theorem Post.bndX {m : Option (R α)} {f : α → List O → Option (R γ)} {Q1 : β → Hp → Prop} (x1 : Xt ρ H ρ1 H1) (p : Post Z ρ H rel2 Wc Q2 (Mini.bnd m f))
    (k : ∀ a h2 ρ2 H2 b, Post Z ρ H rel2 Wc Q2 (f a h2) → Xt ρ1 H1 ρ2 H2 → Xt ρ H ρ2 H2 → Wd Z.K ρ2 h2 H2 → rel ρ2 H2 b a → Q1 b H2) : Post Z ρ1 H1 rel Wc Q1 m := by
  cases m with
  | none => exact p
  | some r =>
    cases r with
    | ok a h' => exact fun ρ' H' b x' w q => k a h' ρ' H' b p x' (x1.trans x') w q
    | exc c fs h' => exact ExP.fwd x1 p
end

section
variable {Z : Ct} {α β γ δ : Type} {ρ ρ1 : List Addr} {H H1 : Hp} {rel : Rel α β} {rel2 : Rel γ δ} {Wc : Value → Option Addr → Hp → Prop} {Q : β → Hp → Prop} {Q2 : δ → Hp → Prop}
theorem Post.bndE {m : Option (R α)} {f : α → List O → Option (R γ)} {Q1 : β → Hp → Prop} (x1 : Xt ρ H ρ1 H1) (p : Post Z ρ H rel2 Wc Q2 (Mini.bnd m f))
    (k : ∀ a h2 ρ2 H2 b, m = some (.ok a h2) → Post Z ρ H rel2 Wc Q2 (f a h2) → Xt ρ1 H1 ρ2 H2 → Xt ρ H ρ2 H2 → Wd Z.K ρ2 h2 H2 → rel ρ2 H2 b a → Q1 b H2) : Post Z ρ1 H1 rel Wc Q1 m := by
  cases m with
  | none => exact p
  | some r =>
    cases r with
    | ok a h' => exact fun ρ' H' b x' w q => k a h' ρ' H' b rfl p x' (x1.trans x') w q
    | exc c fs h' => exact ExP.fwd x1 p
end
/-- a comparison, as a test -/
def SndC (C : List Cl) (ca : Nat → Addr) (call : Caller) (k : Nat) (ir : E) : Prop :=
  ∀ Γ X W x, XOk C ca call k Γ X W → ckE ir Γ x = true → isCmp x = true → PT X x (fun σ H Q => tE X.K C ca call W ir σ H fun v H1 => ∃ c, v = .bl c ∧ Q c H1)
structure SndE (C : List Cl) (ca : Nat → Addr) (call : Caller) (k : Nat) (ir : E) : Prop where
  e : ∀ Γ X W x, XOk C ca call k Γ X W → ckE ir Γ x = true → PE X x (tE X.K C ca call W ir)
  s : ∀ Γ X W x, XOk C ca call k Γ X W → ckEs ir Γ x = true → PA X x (tA X.K C ca call W ir)
  o : ∀ Γ X W x, XOk C ca call k Γ X W → ckO ir Γ x = true → PO X x (tO X.K C ca call W ir)
  t : ∀ Γ X W x, XOk C ca call k Γ X W → ckT ir Γ x = true → PT X x (tT X.K C ca call W ir) ∧ ∀ op vs p, x = .BoolOp op vs p → PW X x (tT X.K C ca call W ir)
  i : ∀ Γ X W tg x, XOk C ca call k Γ X W → ckI ir Γ tg x = true → PI X tg x (tI X.K C ca call W ir)
section
variable {C : List Cl} {ca : Nat → Addr} {call : Caller} {k : Nat}
/-- an expression alone -/
theorem SndE.onlyE {ir : E} (he : ∀ Γ X W x, XOk C ca call k Γ X W → ckE ir Γ x = true → PE X x (tE X.K C ca call W ir)) (hs : ∀ Γ x, ckEs ir Γ x = false) (ho : ∀ Γ x, ckO ir Γ x = false) (ht : ∀ Γ x, ckT ir Γ x = false)
    (hi : ∀ Γ tg x, ckI ir Γ tg x = false) : SndE C ca call k ir :=
  ⟨he, fun Γ X W x _ h => ff h (hs Γ x), fun Γ X W x _ h => ff h (ho Γ x), fun Γ X W x _ h => ff h (ht Γ x), fun Γ X W tg x _ h => ff h (hi Γ tg x)⟩
theorem ckE_non {Γ x} : ckE .non Γ x = match x with | .Constant .none _ _ => true | _ => false := by
  cases x <;> try rfl
  rename_i v _ _; cases v <;> rfl
theorem snd_non : SndE C ca call k .non := .onlyE (fun Γ X W x o h => by
  rw [ckE_non] at h
  split at h
  · refine PE.imp pe_non ?_
    rintro σ H Q ⟨ρ, hh, env, w, er, p⟩
    exact p.ok Xt.refl w rfl
  · cases h) (fun _ x => by cases x <;> rfl) (fun _ x => by cases x <;> rfl) (fun _ x => by cases x <;> rfl) (fun _ tg x => by cases x <;> rfl)
theorem ckE_bl {Γ x b} : ckE (.bl b) Γ x = match x with | .Constant (.bool c) _ _ => b == c | _ => false := by
  cases x <;> try rfl
  rename_i v _ _; cases v <;> rfl
theorem snd_bl {b : Bool} : SndE C ca call k (.bl b) := .onlyE (fun Γ X W x o h => by
  rw [ckE_bl] at h
  split at h
  · have e := beq_iff_eq.mp h
    subst e
    refine PE.imp pe_bl ?_
    rintro σ H Q ⟨ρ, hh, env, w, er, p⟩
    exact p.ok Xt.refl w rfl
  · cases h) (fun _ x => by cases x <;> rfl) (fun _ x => by cases x <;> rfl) (fun _ x => by cases x <;> rfl) (fun _ tg x => by cases x <;> rfl)
theorem ckE_int {Γ x i} : ckE (.int i) Γ x = match x with | .Constant (.int j) _ _ => i == j | _ => false := by
  cases x <;> try rfl
  rename_i v _ _; cases v <;> rfl
theorem snd_int {i : Int} : SndE C ca call k (.int i) := .onlyE (fun Γ X W x o h => by
  rw [ckE_int] at h
  split at h
  · have e := beq_iff_eq.mp h
    subst e
    refine PE.imp pe_int ?_
    rintro σ H Q ⟨ρ, hh, env, w, er, p⟩
    exact p.ok Xt.refl w rfl
  · cases h) (fun _ x => by cases x <;> rfl) (fun _ x => by cases x <;> rfl) (fun _ x => by cases x <;> rfl) (fun _ tg x => by cases x <;> rfl)
theorem ckE_str {Γ x s} : ckE (.str s) Γ x = match x with | .Constant (.str t) _ _ => s == t | _ => false := by
  cases x <;> try rfl
  rename_i v _ _; cases v <;> rfl
theorem snd_str {s : Str} : SndE C ca call k (.str s) := .onlyE (fun Γ X W x o h => by
  rw [ckE_str] at h
  split at h
  · have e := beq_iff_eq.mp h
    subst e
    refine PE.imp pe_str ?_
    rintro σ H Q ⟨ρ, hh, env, w, er, p⟩
    exact p.ok Xt.refl w rfl
  · cases h) (fun _ x => by cases x <;> rfl) (fun _ x => by cases x <;> rfl) (fun _ x => by cases x <;> rfl) (fun _ tg x => by cases x <;> rfl)
theorem ckE_slot {Γ x i} : ckE (.slot i) Γ x = match x with | .Name x _ => decide (Γ.N[i]? = some x) && vis Γ.sc x && !dbg x && !(x == ("__classdict__" : Str)) | _ => false := by cases x <;> rfl
theorem vis_of {sc : Scope} {x : Str} (h : vis sc x = true) : Vis sc x := by
  unfold vis at h
  split at h
  · exact .inl (by assumption)
  · exact .inr (.inl (by assumption))
  · exact .inr (.inr (by assumption))
  · cases h
theorem snd_slot {i : Nat} : SndE C ca call k (.slot i) := .onlyE (fun Γ X W x o h => by
  rw [ckE_slot] at h
  split at h
  · simp only [Bool.and_eq_true, decide_eq_true_eq, Bool.not_eq_true'] at h
    refine PE.imp (pe_var (i := i) (by rw [o.hN]; exact h.1.1.1) (by rw [o.sc]; exact vis_of h.1.1.2) h.1.2 h.2) ?_
    rintro σ H Q ⟨ρ, hh, env, w, er, p⟩
    unfold ev at p
    split at p
    · rename_i d e
      obtain ⟨v, e1, e2⟩ := er.at' i d e
      exact ⟨v, e1, p.ok Xt.refl w e2⟩
    · exact p.elim
  · cases h) (fun _ x => by cases x <;> rfl) (fun _ x => by cases x <;> rfl) (fun _ x => by cases x <;> rfl) (fun _ tg x => by cases x <;> rfl)
theorem glb_of {Γ : Gm} {X : Cx} {W : WX} {x : Str} (o : XOk C ca call k Γ X W) (h : glb Γ.sc x = true) : Gl X x := by
  have h' := of_decide_eq_true h
  show X.env.scope.names.lookup x = _
  rw [o.sc]; exact h'
theorem ckE_con {Γ x d y} : ckE (.con d y) Γ x = match x with | .Name z _ => y == z && glb Γ.sc y && !dbg y && Γ.con.any (fun p => p.1 == y && p.2.beq d) | _ => false := by cases x <;> rfl
theorem snd_con {d : D} {y : Str} : SndE C ca call k (.con d y) := .onlyE (fun Γ X W x o h => by
  rw [ckE_con] at h
  split at h
  · simp only [Bool.and_eq_true, Bool.not_eq_true', List.any_eq_true, beq_iff_eq] at h
    obtain ⟨⟨⟨e1, e2⟩, e3⟩, q, q1, q2, q3⟩ := h
    subst e1
    obtain ⟨q0, d'⟩ := q
    have ed := D.beq_eq _ _ q3
    dsimp only at q2 ed
    subst q2; subst ed
    obtain ⟨v, u, c1, c2, c3⟩ := o.con _ _ q1
    refine PE.imp (pe_glob (glb_of o e2) c1 c2 e3) ?_
    rintro σ H Q ⟨ρ, hh, env, w, er, p⟩
    exact p.ok Xt.refl w (c3 ρ H)
  · cases h) (fun _ x => by cases x <;> rfl) (fun _ x => by cases x <;> rfl) (fun _ x => by cases x <;> rfl) (fun _ tg x => by cases x <;> rfl)
theorem ckE_bin {Γ x op a b} : ckE (.bin op a b) Γ x = match x with | .BinOp a' op' b' _ => decide (op = op') && ckE a Γ a' && ckE b Γ b' | _ => false := by cases x <;> rfl
theorem snd_bin {op : Operator} {a b : E} (iha : SndE C ca call k a) (ihb : SndE C ca call k b) : SndE C ca call k (.bin op a b) := .onlyE (fun Γ X W x o h => by
  rw [ckE_bin] at h
  split at h
  · simp only [Bool.and_eq_true, decide_eq_true_eq] at h
    obtain ⟨⟨e, h1⟩, h2⟩ := h
    subst e
    obtain ⟨r, hr, hr2⟩ := bin_ok (X := X) (C := C) (ca := ca) op
    refine PE.imp (pe_op hr (iha.e Γ X W _ o h1) (ihb.e Γ X W _ o h2)) ?_
    rintro σ H Q ⟨ρ, hh, env, w, er, p⟩
    refine ⟨ρ, hh, env, w, er, p.bndX Xt.refl fun x1 h1 ρ1 H1 v1 p1 y1 z1 w1 r1 => ?_⟩
    refine ⟨ρ1, h1, env, w1, er.fwd w z1, p1.bndX z1 fun x2 h2 ρ2 H2 v2 p2 y2 z2 w2 r2 => ?_⟩
    exact hr2 w2 (w1.rv y2 r1) r2 (p2.fwd z2)
  · cases h) (fun _ x => by cases x <;> rfl) (fun _ x => by cases x <;> rfl) (fun _ x => by cases x <;> rfl) (fun _ tg x => by cases x <;> rfl)
theorem ckE_neg {Γ x a} : ckE (.neg a) Γ x = match x with | .UnaryOp .USub a' _ => ckE a Γ a' | _ => false := by
  cases x <;> try rfl
  rename_i v _ _; cases v <;> rfl
theorem snd_neg {a : E} (iha : SndE C ca call k a) : SndE C ca call k (.neg a) := .onlyE (fun Γ X W x o h => by
  rw [ckE_neg] at h
  split at h
  · refine PE.imp (pe_un un_neg (iha.e Γ X W _ o h)) ?_
    rintro σ H Q ⟨ρ, hh, env, w, er, p⟩
    refine ⟨ρ, hh, env, w, er, p.bndX Xt.refl fun x1 h1 ρ1 H1 v1 p1 y1 z1 w1 r1 => ?_⟩
    split at p1
    · cases r1
      exact ⟨_, rfl, p1.ok z1 w1 rfl⟩
    · exact p1.elim
  · cases h) (fun _ x => by cases x <;> rfl) (fun _ x => by cases x <;> rfl) (fun _ x => by cases x <;> rfl) (fun _ tg x => by cases x <;> rfl)
theorem ckE_cmp {Γ x op a b} : ckE (.cmp op a b) Γ x = match x with | .Compare a' [op'] [b'] _ => decide (op = op') && ckE a Γ a' && ckE b Γ b' && plainX b' | _ => false := by
  cases x <;> try rfl
  rename_i l os cs _
  cases os <;> try rfl
  rename_i o1 os
  cases os <;> try rfl
  cases cs <;> try rfl
  rename_i c1 cs
  cases cs <;> rfl
/-- a comparison's answer, temporary objects forgotten -/
theorem cmp_gc {X : Cx} {ρ ρ2 : List Addr} {H H2 : Hp} {h h2 : List O} {Wc : Value → Option Addr → Hp → Prop} {Q : VK} {op : CmpOp} {x y : D} (w : Wd X.K ρ h H) (z : Xt ρ H ρ2 H2)
    (p : Post ⟨X.K, C, ca⟩ ρ H (relD X.K) Wc Q (match cmpD op x y h2 with | some c => okB c (gc h (.bl c) h2) | none => none)) : Post ⟨X.K, C, ca⟩ ρ2 H2 (relD X.K) Wc Q (cmpG op x y h2) := by
  unfold cmpG
  split at p
  · rename_i c e
    first
      | rw [e]
      | skip
    intro ρ' H' b x' w' rb
    have rb' : b = .bl c := rb
    subst rb'
    obtain ⟨ρ'', x'', w'', r''⟩ := gc_ok (v := .bl c) (d := .bl c) w (z.trans x') w' rfl
    exact p.ok x'' w'' r''
  · exact p.elim
theorem cmp_key {op : CmpOp} {a b : E} (iha : SndE C ca call k a) (ihb : SndE C ca call k b) {Γ : Gm} {X : Cx} {W : WX} {x : PySem.Expr} (o : XOk C ca call k Γ X W) (h : ckE (.cmp op a b) Γ x = true) :
    PE X x (tE X.K C ca call W (.cmp op a b)) ∧ PT X x (fun σ H Q => tE X.K C ca call W (.cmp op a b) σ H fun v H1 => ∃ c, v = .bl c ∧ Q c H1) := by
  rw [ckE_cmp] at h
  split at h
  · simp only [Bool.and_eq_true, decide_eq_true_eq] at h
    obtain ⟨⟨⟨e, h1⟩, h2⟩, h3⟩ := h
    subst e
    obtain ⟨r, hr, hr2⟩ := cmp_ok (X := X) (C := C) (ca := ca) o.hu op
    have key : ∀ σ H Q, tE X.K C ca call W (.cmp op a b) σ H Q → tOp r (tE X.K C ca call W a) (tE X.K C ca call W b) σ H Q := by
      rintro σ H Q ⟨ρ, hh, env, w, er, p⟩
      refine ⟨ρ, hh, env, w, er, p.bndX Xt.refl fun x1 h1 ρ1 H1 v1 p1 y1 z1 w1 r1 => ?_⟩
      refine ⟨ρ1, h1, env, w1, er.fwd w z1, p1.bndX z1 fun x2 h2 ρ2 H2 v2 p2 y2 z2 w2 r2 => ?_⟩
      exact hr2 w2 (w1.rv y2 r1) r2 (cmp_gc w z2 p2)
    exact ⟨PE.imp (pe_cmpR hr (iha.e Γ X W _ o h1) (ihb.e Γ X W _ o h2) (plain_mark h3 op)) key, PT.imp (pt_cmpR hr (iha.e Γ X W _ o h1) (ihb.e Γ X W _ o h2) (plain_mark h3 op)) fun σ H Q q => key σ H _ q⟩
  · cases h
theorem snd_cmp {op : CmpOp} {a b : E} (iha : SndE C ca call k a) (ihb : SndE C ca call k b) : SndE C ca call k (.cmp op a b) ∧ SndC C ca call k (.cmp op a b) :=
  ⟨.onlyE (fun Γ X W x o h => (cmp_key iha ihb o h).1) (fun _ x => by cases x <;> rfl) (fun _ x => by cases x <;> rfl) (fun _ x => by cases x <;> rfl) (fun _ tg x => by cases x <;> rfl), fun Γ X W x o h _ => (cmp_key iha ihb o h).2⟩
theorem ckE_chn {Γ x op1 op2 a b c} : ckE (.chn op1 op2 a b c) Γ x = match x with | .Compare a' [o1, o2] [b', c'] _ => decide (op1 = o1) && decide (op2 = o2) && ckE a Γ a' && ckE b Γ b' && ckE c Γ c' && plainX b' && plainX c' | _ => false := by
  cases x <;> try rfl
  rename_i l os cs _
  cases os <;> try rfl
  rename_i o1 os
  cases os <;> try rfl
  rename_i o2 os
  cases os <;> try rfl
  cases cs <;> try rfl
  rename_i c1 cs
  cases cs <;> try rfl
  rename_i c2 cs
  cases cs <;> rfl
theorem chn_step {X : Cx} {ρ2 : List Addr} {H2 : Hp} {h2 : List O} {Wc : Value → Option Addr → Hp → Prop} {Q : VK} {op : CmpOp} {x y : D} {c : Bool} (e : cmpD op x y h2 = some c) (q : ∀ ρ' H', Xt ρ2 H2 ρ' H' → Wd X.K ρ' h2 H' → Q (.bl c) H') :
    Post ⟨X.K, C, ca⟩ ρ2 H2 (relD X.K) Wc Q (cmpG op x y h2) := by
  unfold cmpG
  rw [e]
  intro ρ' H' b x' w' rb
  have rb' : b = .bl c := rb
  subst rb'
  exact q ρ' H' x' w'
theorem chn_key {op1 op2 : CmpOp} {a b c : E} (iha : SndE C ca call k a) (ihb : SndE C ca call k b) (ihc : SndE C ca call k c) {Γ : Gm} {X : Cx} {W : WX} {x : PySem.Expr} (o : XOk C ca call k Γ X W) (h : ckE (.chn op1 op2 a b c) Γ x = true) :
    PE X x (tE X.K C ca call W (.chn op1 op2 a b c)) ∧ PT X x (fun σ H Q => tE X.K C ca call W (.chn op1 op2 a b c) σ H fun v H1 => ∃ c, v = .bl c ∧ Q c H1) := by
  rw [ckE_chn] at h
  split at h
  · simp only [Bool.and_eq_true, decide_eq_true_eq] at h
    obtain ⟨⟨⟨⟨⟨⟨e1, e2⟩, h1⟩, h2⟩, h3⟩, h4⟩, h5⟩ := h
    subst e1; subst e2
    obtain ⟨r, hr, hr2⟩ := cmp_ok (X := X) (C := C) (ca := ca) o.hu op1
    obtain ⟨r', hr', hr2'⟩ := cmp_ok (X := X) (C := C) (ca := ca) o.hu op2
    have key : ∀ σ H Q, tE X.K C ca call W (.chn op1 op2 a b c) σ H Q → tChain r r' (tE X.K C ca call W a) (tE X.K C ca call W b) (tE X.K C ca call W c) σ H Q := by
      rintro σ H Q ⟨ρ, hh, env, w, er, p⟩
      refine ⟨ρ, hh, env, w, er, p.bndX Xt.refl fun x1 h1 ρ1 H1 v1 p1 y1 z1 w1 r1 => ?_⟩
      refine ⟨ρ1, h1, env, w1, er.fwd w z1, p1.bndX z1 fun x2 h2 ρ2 H2 v2 p2 y2 z2 w2 r2 => ?_⟩
      split at p2
      · rename_i e
        refine hr2 (Wc := fun _ _ _ => True) w2 (w1.rv y2 r1) r2 (chn_step e fun ρ3 H3 x3 w3 => ⟨true, rfl, ?_⟩)
        rw [if_pos rfl]
        refine ⟨ρ3, h2, env, w3, er.fwd w (z2.trans x3), p2.bndX (z2.trans x3) fun x4 h4 ρ4 H4 v4 p4 y4 z4 w4 r4 => ?_⟩
        split at p4
        · rename_i e4
          exact hr2' (Wc := fun _ _ _ => True) w4 (w3.rv y4 (w2.rv x3 r2)) r4 (chn_step e4 fun ρ5 H5 x5 w5 => p4.ok (z4.trans x5) w5 rfl)
        · exact p4.elim
      · rename_i e
        refine hr2 (Wc := fun _ _ _ => True) w2 (w1.rv y2 r1) r2 (chn_step e fun ρ3 H3 x3 w3 => ⟨false, rfl, ?_⟩)
        rw [if_neg (by decide)]
        exact p2.ok (z2.trans x3) w3 rfl
      · exact p2.elim
    exact ⟨PE.imp (pe_chain hr hr' (iha.e Γ X W _ o h1) (ihb.e Γ X W _ o h2) (ihc.e Γ X W _ o h3) (plain_mark h5 _)) key, PT.imp (pt_chain hr hr' (iha.e Γ X W _ o h1) (ihb.e Γ X W _ o h2) (ihc.e Γ X W _ o h3) (plain_mark h5 _)) fun σ H Q q => key σ H _ q⟩
  · cases h
theorem snd_chn {op1 op2 : CmpOp} {a b c : E} (iha : SndE C ca call k a) (ihb : SndE C ca call k b) (ihc : SndE C ca call k c) : SndE C ca call k (.chn op1 op2 a b c) ∧ SndC C ca call k (.chn op1 op2 a b c) :=
  ⟨.onlyE (fun Γ X W x o h => (chn_key iha ihb ihc o h).1) (fun _ x => by cases x <;> rfl) (fun _ x => by cases x <;> rfl) (fun _ x => by cases x <;> rfl) (fun _ tg x => by cases x <;> rfl), fun Γ X W x o h _ => (chn_key iha ihb ihc o h).2⟩
theorem ckE_and {Γ x a b} : ckE (.and a b) Γ x = match x with | .BoolOp .And (a' :: b' :: r) pos => ckE a Γ a' && (match r with | [] => ckE b Γ b' | _ => ckE b Γ (.BoolOp .And (b' :: r) pos)) | _ => false := by
  cases x <;> try rfl
  rename_i op vs p
  cases op <;> try rfl
  cases vs <;> try rfl
  rename_i v1 vs
  cases vs <;> rfl
theorem ckE_or {Γ x a b} : ckE (.or a b) Γ x = match x with | .BoolOp .Or (a' :: b' :: r) pos => ckE a Γ a' && (match r with | [] => ckE b Γ b' | _ => ckE b Γ (.BoolOp .Or (b' :: r) pos)) | _ => false := by
  cases x <;> try rfl
  rename_i op vs p
  cases op <;> try rfl
  cases vs <;> try rfl
  rename_i v1 vs
  cases vs <;> rfl
theorem ckT_and {Γ x a b} : ckT (.and a b) Γ x = match x with | .BoolOp .And (a' :: b' :: r) pos => ckT a Γ a' && (match r with | [] => ckT b Γ b' | _ => ckT b Γ (.BoolOp .And (b' :: r) pos)) | _ => false := by
  cases x <;> try rfl
  rename_i op vs p
  cases op <;> try rfl
  cases vs <;> try rfl
  rename_i v1 vs
  cases vs <;> rfl
theorem ckT_or {Γ x a b} : ckT (.or a b) Γ x = match x with | .BoolOp .Or (a' :: b' :: r) pos => ckT a Γ a' && (match r with | [] => ckT b Γ b' | _ => ckT b Γ (.BoolOp .Or (b' :: r) pos)) | _ => false := by
  cases x <;> try rfl
  rename_i op vs p
  cases op <;> try rfl
  cases vs <;> try rfl
  rename_i v1 vs
  cases vs <;> rfl
theorem snd_and {a b : E} (iha : SndE C ca call k a) (ihb : SndE C ca call k b) : SndE C ca call k (.and a b) := by
  refine ⟨fun Γ X W x o h => ?_, fun Γ X W x _ h => ff h (by cases x <;> rfl), fun Γ X W x _ h => ff h (by cases x <;> rfl), fun Γ X W x o h => ?_, fun Γ X W tg x _ h => ff h (by cases x <;> rfl)⟩
  · rw [ckE_and] at h
    split at h
    · rename_i a' b' r pos
      simp only [Bool.and_eq_true] at h
      have hb : PE X (.BoolOp .And (b' :: r) pos) (tE X.K C ca call W b) := by
        cases r with
        | nil => exact pe_one (ihb.e Γ X W _ o h.2)
        | cons c r => exact ihb.e Γ X W _ o h.2
      refine PE.imp (pe_andT (iha.e Γ X W _ o h.1) hb) ?_
      rintro σ H Q ⟨ρ, hh, env, w, er, p⟩
      refine ⟨ρ, hh, env, w, er, p.bndX Xt.refl fun x1 h1 ρ1 H1 v1 p1 y1 z1 w1 r1 => ?_⟩
      split at p1
      · rename_i e
        refine ⟨true, truth_ok w1 r1 e, ?_⟩
        rw [if_pos rfl]
        exact ⟨ρ1, h1, env, w1, er.fwd w z1, p1.fwd z1⟩
      · rename_i e
        refine ⟨false, truth_ok w1 r1 e, ?_⟩
        rw [if_neg (by decide)]
        exact p1.ok z1 w1 r1
      · exact p1.elim
    · cases h
  · rw [ckT_and] at h
    split at h
    · rename_i a' b' r pos
      simp only [Bool.and_eq_true] at h
      have hb : PW X (.BoolOp .And (b' :: r) pos) (tT X.K C ca call W b) := by
        cases r with
        | nil => exact pw_and1 (ihb.t Γ X W _ o h.2).1
        | cons c r => exact (ihb.t Γ X W _ o h.2).2 _ _ _ rfl
      have hw : PW X (.BoolOp .And (a' :: b' :: r) pos) (tT X.K C ca call W (.and a b)) := by
        refine PW.imp (pw_and (iha.t Γ X W _ o h.1).1 hb) ?_
        rintro σ H Q ⟨ρ, hh, env, w, er, p⟩
        refine ⟨ρ, hh, env, w, er, p.bndX Xt.refl fun x1 h1 ρ1 H1 v1 p1 y1 z1 w1 r1 => ?_⟩
        have r1' : v1 = x1 := r1
        subst r1'
        cases v1 with
        | true =>
          rw [if_pos rfl] at p1 ⊢
          exact ⟨ρ1, h1, env, w1, er.fwd w z1, p1.fwd z1⟩
        | false =>
          rw [if_neg (by decide)] at p1 ⊢
          exact p1.ok z1 w1 rfl
      exact ⟨hw.pt, fun op vs p e => e ▸ hw⟩
    · cases h
theorem snd_or {a b : E} (iha : SndE C ca call k a) (ihb : SndE C ca call k b) : SndE C ca call k (.or a b) := by
  refine ⟨fun Γ X W x o h => ?_, fun Γ X W x _ h => ff h (by cases x <;> rfl), fun Γ X W x _ h => ff h (by cases x <;> rfl), fun Γ X W x o h => ?_, fun Γ X W tg x _ h => ff h (by cases x <;> rfl)⟩
  · rw [ckE_or] at h
    split at h
    · rename_i a' b' r pos
      simp only [Bool.and_eq_true] at h
      have hb : PE X (.BoolOp .Or (b' :: r) pos) (tE X.K C ca call W b) := by
        cases r with
        | nil => exact pe_one (ihb.e Γ X W _ o h.2)
        | cons c r => exact ihb.e Γ X W _ o h.2
      refine PE.imp (pe_orT (iha.e Γ X W _ o h.1) hb) ?_
      rintro σ H Q ⟨ρ, hh, env, w, er, p⟩
      refine ⟨ρ, hh, env, w, er, p.bndX Xt.refl fun x1 h1 ρ1 H1 v1 p1 y1 z1 w1 r1 => ?_⟩
      split at p1
      · rename_i e
        refine ⟨true, truth_ok w1 r1 e, ?_⟩
        rw [if_pos rfl]
        exact p1.ok z1 w1 r1
      · rename_i e
        refine ⟨false, truth_ok w1 r1 e, ?_⟩
        rw [if_neg (by decide)]
        exact ⟨ρ1, h1, env, w1, er.fwd w z1, p1.fwd z1⟩
      · exact p1.elim
    · cases h
  · rw [ckT_or] at h
    split at h
    · rename_i a' b' r pos
      simp only [Bool.and_eq_true] at h
      have hb : PW X (.BoolOp .Or (b' :: r) pos) (tT X.K C ca call W b) := by
        cases r with
        | nil => exact pw_or1 (ihb.t Γ X W _ o h.2).1
        | cons c r => exact (ihb.t Γ X W _ o h.2).2 _ _ _ rfl
      have hw : PW X (.BoolOp .Or (a' :: b' :: r) pos) (tT X.K C ca call W (.or a b)) := by
        refine PW.imp (pw_or (iha.t Γ X W _ o h.1).1 hb) ?_
        rintro σ H Q ⟨ρ, hh, env, w, er, p⟩
        refine ⟨ρ, hh, env, w, er, p.bndX Xt.refl fun x1 h1 ρ1 H1 v1 p1 y1 z1 w1 r1 => ?_⟩
        have r1' : v1 = x1 := r1
        subst r1'
        cases v1 with
        | true =>
          rw [if_pos rfl] at p1 ⊢
          exact p1.ok z1 w1 rfl
        | false =>
          rw [if_neg (by decide)] at p1 ⊢
          exact ⟨ρ1, h1, env, w1, er.fwd w z1, p1.fwd z1⟩
      exact ⟨hw.pt, fun op vs p e => e ▸ hw⟩
    · cases h
theorem ckT_nt {Γ x a} : ckT (.nt a) Γ x = match x with | .UnaryOp .Not a' _ => ckT a Γ a' | _ => false := by
  cases x <;> try rfl
  rename_i v _ _; cases v <;> rfl
theorem snd_nt {a : E} (iha : SndE C ca call k a) : SndE C ca call k (.nt a) := by
  refine ⟨fun Γ X W x o h => ff h (by cases x <;> rfl), fun Γ X W x _ h => ff h (by cases x <;> rfl), fun Γ X W x _ h => ff h (by cases x <;> rfl), fun Γ X W x o h => ?_, fun Γ X W tg x _ h => ff h (by cases x <;> rfl)⟩
  rw [ckT_nt] at h
  split at h
  · refine ⟨PT.imp (pt_not (iha.t Γ X W _ o h).1) ?_, fun op vs p e => by cases e⟩
    rintro σ H Q ⟨ρ, hh, env, w, er, p⟩
    refine ⟨ρ, hh, env, w, er, p.bndX Xt.refl fun x1 h1 ρ1 H1 v1 p1 y1 z1 w1 r1 => ?_⟩
    have r1' : v1 = x1 := r1
    subst r1'
    exact p1.ok z1 w1 rfl
  · cases h
theorem ckE_ntv {Γ x a} : ckE (.ntv a) Γ x = match x with | .UnaryOp .Not a' _ => ckE a Γ a' | _ => false := by
  cases x <;> try rfl
  rename_i v _ _; cases v <;> rfl
theorem snd_ntv {a : E} (iha : SndE C ca call k a) : SndE C ca call k (.ntv a) := .onlyE (fun Γ X W x o h => by
  rw [ckE_ntv] at h
  split at h
  · refine PE.imp (pe_notT (iha.e Γ X W _ o h)) ?_
    rintro σ H Q ⟨ρ, hh, env, w, er, p⟩
    refine ⟨ρ, hh, env, w, er, p.bndX Xt.refl fun x1 h1 ρ1 H1 v1 p1 y1 z1 w1 r1 => ?_⟩
    split at p1
    · rename_i b e
      exact ⟨b, truth_ok w1 r1 e, p1.ok z1 w1 rfl⟩
    · exact p1.elim
  · cases h) (fun _ x => by cases x <;> rfl) (fun _ x => by cases x <;> rfl) (fun _ x => by cases x <;> rfl) (fun _ tg x => by cases x <;> rfl)
theorem ckE_ifx {Γ x c a b} : ckE (.ifx c a b) Γ x = match x with | .IfExp c' a' b' _ => ckT c Γ c' && ckE a Γ a' && ckE b Γ b' | _ => false := by cases x <;> rfl
theorem snd_ifx {c a b : E} (ihc : SndE C ca call k c) (iha : SndE C ca call k a) (ihb : SndE C ca call k b) : SndE C ca call k (.ifx c a b) := .onlyE (fun Γ X W x o h => by
  rw [ckE_ifx] at h
  split at h
  · simp only [Bool.and_eq_true] at h
    refine PE.imp (pe_ifExp (ihc.t Γ X W _ o h.1.1).1 (iha.e Γ X W _ o h.1.2) (ihb.e Γ X W _ o h.2)) ?_
    rintro σ H Q ⟨ρ, hh, env, w, er, p⟩
    refine ⟨ρ, hh, env, w, er, p.bndX Xt.refl fun x1 h1 ρ1 H1 v1 p1 y1 z1 w1 r1 => ?_⟩
    have r1' : v1 = x1 := r1
    subst r1'
    cases v1 with
    | true =>
      rw [if_pos rfl] at p1 ⊢
      exact ⟨ρ1, h1, env, w1, er.fwd w z1, p1.fwd z1⟩
    | false =>
      rw [if_neg (by decide)] at p1 ⊢
      exact ⟨ρ1, h1, env, w1, er.fwd w z1, p1.fwd z1⟩
  · cases h) (fun _ x => by cases x <;> rfl) (fun _ x => by cases x <;> rfl) (fun _ x => by cases x <;> rfl) (fun _ tg x => by cases x <;> rfl)
theorem ckE_tup {Γ x es} : ckE (.tup es) Γ x = match x with | .Tuple ts _ _ => ckEs es Γ ts | _ => false := by cases x <;> rfl
theorem snd_tup {es : E} (ih : SndE C ca call k es) : SndE C ca call k (.tup es) := .onlyE (fun Γ X W x o h => by
  rw [ckE_tup] at h
  split at h
  · refine PE.imp (pe_tup (ih.s Γ X W _ o h)) ?_
    rintro σ H Q ⟨ρ, hh, env, w, er, p⟩
    refine ⟨ρ, hh, env, w, er, p.bndX Xt.refl fun x1 h1 ρ1 H1 v1 p1 y1 z1 w1 r1 => ?_⟩
    split at p1
    · rename_i hl
      have r1' : RVs X.K ρ1 H1 v1 x1 := r1
      exact ⟨by rw [r1'.len, ← lim_eq]; exact hl, post_tup w1 r1 (p1.fwd z1)⟩
    · exact p1.elim
  · cases h) (fun _ x => by cases x <;> rfl) (fun _ x => by cases x <;> rfl) (fun _ x => by cases x <;> rfl) (fun _ tg x => by cases x <;> rfl)
theorem ckE_lst {Γ x es} : ckE (.lst es) Γ x = match x with | .List ts _ => ckEs es Γ ts | _ => false := by cases x <;> rfl
theorem snd_lst {es : E} (ih : SndE C ca call k es) : SndE C ca call k (.lst es) := .onlyE (fun Γ X W x o h => by
  rw [ckE_lst] at h
  split at h
  · refine PE.imp (pe_lst (ih.s Γ X W _ o h)) ?_
    rintro σ H Q ⟨ρ, hh, env, w, er, p⟩
    refine ⟨ρ, hh, env, w, er, p.bndX Xt.refl fun x1 h1 ρ1 H1 v1 p1 y1 z1 w1 r1 => ?_⟩
    split at p1
    · rename_i hl
      have r1' : RVs X.K ρ1 H1 v1 x1 := r1
      exact ⟨by rw [r1'.len, ← lim_eq]; exact hl, post_alloc w1 r1 (p1.fwd z1)⟩
    · exact p1.elim
  · cases h) (fun _ x => by cases x <;> rfl) (fun _ x => by cases x <;> rfl) (fun _ x => by cases x <;> rfl) (fun _ tg x => by cases x <;> rfl)
theorem ckE_ix {Γ x a b} : ckE (.ix a b) Γ x = match x with | .Subscript a' b' _ => ckE a Γ a' && ckE b Γ b' && plainX b' | _ => false := by cases x <;> rfl
theorem snd_ix {a b : E} (iha : SndE C ca call k a) (ihb : SndE C ca call k b) : SndE C ca call k (.ix a b) := .onlyE (fun Γ X W x o h => by
  rw [ckE_ix] at h
  split at h
  · simp only [Bool.and_eq_true] at h
    obtain ⟨r, hr, hr2⟩ := ix_ok (X := X) (C := C) (ca := ca)
    refine PE.imp (pe_ix hr (iha.e Γ X W _ o h.1.1) (ihb.e Γ X W _ o h.1.2) (plain_ix h.2)) ?_
    rintro σ H Q ⟨ρ, hh, env, w, er, p⟩
    refine ⟨ρ, hh, env, w, er, p.bndX Xt.refl fun x1 h1 ρ1 H1 v1 p1 y1 z1 w1 r1 => ?_⟩
    refine ⟨ρ1, h1, env, w1, er.fwd w z1, p1.bndX z1 fun x2 h2 ρ2 H2 v2 p2 y2 z2 w2 r2 => ?_⟩
    exact hr2 w2 (w1.rv y2 r1) r2 (p2.fwd z2)
  · cases h) (fun _ x => by cases x <;> rfl) (fun _ x => by cases x <;> rfl) (fun _ x => by cases x <;> rfl) (fun _ tg x => by cases x <;> rfl)
theorem ckE_sl {Γ x a lo hi} : ckE (.sl a lo hi) Γ x = match x with | .Subscript a' (.Slice l u none _) _ => ckE a Γ a' && ckO lo Γ l && ckO hi Γ u | _ => false := by
  cases x <;> try rfl
  rename_i v s _
  cases s <;> try rfl
  rename_i l u st _
  cases st <;> rfl
theorem snd_sl {a lo hi : E} (iha : SndE C ca call k a) (ihl : SndE C ca call k lo) (ihu : SndE C ca call k hi) : SndE C ca call k (.sl a lo hi) := .onlyE (fun Γ X W x o h => by
  rw [ckE_sl] at h
  split at h
  · simp only [Bool.and_eq_true] at h
    obtain ⟨r, hr, hr2⟩ := sl_ok (X := X) (C := C) (ca := ca)
    refine PE.imp (pe_slice hr (iha.e Γ X W _ o h.1.1) (ihl.o Γ X W _ o h.1.2) (ihu.o Γ X W _ o h.2)) ?_
    rintro σ H Q ⟨ρ, hh, env, w, er, p⟩
    refine ⟨ρ, hh, env, w, er, p.bndX Xt.refl fun x1 h1 ρ1 H1 v1 p1 y1 z1 w1 r1 => ?_⟩
    refine ⟨ρ1, h1, env, w1, er.fwd w z1, p1.bndX z1 fun x2 h2 ρ2 H2 v2 p2 y2 z2 w2 r2 => ?_⟩
    have e2 : v2 = x2 := r2
    subst e2
    refine ⟨ρ2, h2, env, w2, er.fwd w z2, p2.bndX z2 fun x3 h3 ρ3 H3 v3 p3 y3 z3 w3 r3 => ?_⟩
    have e3 : v3 = x3 := r3
    subst e3
    exact hr2 w3 (w2.rv y3 (w1.rv y2 r1)) (p3.fwd z3)
  · cases h) (fun _ x => by cases x <;> rfl) (fun _ x => by cases x <;> rfl) (fun _ x => by cases x <;> rfl) (fun _ tg x => by cases x <;> rfl)
end
end Mini
end

section
/-! Mini: calls, comprehensions, lists of expressions, what is walked; all expressions together (own work). -/
namespace Mini
open PySem PySem.Spec PyProof.Rows L2
section
variable {C : List Cl} {ca : Nat → Addr} {call : Caller} {k : Nat}
theorem ckEs_cons {Γ a b ts} : ckEs (.cons a b) Γ ts = match ts with | t :: ts => ckE a Γ t && plainX t && ckEs b Γ ts | [] => false := by cases ts <;> rfl
theorem ckEs_nil {Γ ts} : ckEs .nil Γ ts = ts.isEmpty := by cases ts <;> rfl
theorem ckEs_plain {Γ : Gm} : ∀ {es : E} {ts : List PySem.Expr}, ckEs es Γ ts = true → ts.all plainX = true
  | es, [], _ => rfl
  | es, t :: ts, h => by
    cases es with
    | cons a b =>
      rw [ckEs_cons] at h
      simp only [Bool.and_eq_true] at h
      simp only [List.all_cons, Bool.and_eq_true]
      exact ⟨h.1.2, ckEs_plain h.2⟩
    | _ => cases h
theorem snd_nil : SndE C ca call k .nil := by
  refine ⟨fun Γ X W x o h => ff h (by cases x <;> rfl), fun Γ X W x o h => ?_, fun Γ X W x _ h => ff h (by cases x <;> rfl), fun Γ X W x _ h => ff h (by cases x <;> rfl), fun Γ X W tg x _ h => ff h (by cases x <;> rfl)⟩
  cases x with
  | nil =>
    refine PA.imp pa_nil ?_
    rintro σ H Q ⟨ρ, hh, env, w, er, p⟩
    exact p.ok Xt.refl w rfl
  | cons t ts => cases h
theorem ckO_cons {Γ a b x} : ckO (.cons a b) Γ x = match x with | some t => ckE a Γ t | none => false := by cases x <;> rfl
theorem snd_cons {a b : E} (iha : SndE C ca call k a) (ihb : SndE C ca call k b) : SndE C ca call k (.cons a b) := by
  refine ⟨fun Γ X W x o h => ff h (by cases x <;> rfl), fun Γ X W x o h => ?_, fun Γ X W x o h => ?_, fun Γ X W x _ h => ff h (by cases x <;> rfl), fun Γ X W tg x _ h => ff h (by cases x <;> rfl)⟩
  · cases x with
    | nil => cases h
    | cons t ts =>
      rw [ckEs_cons] at h
      simp only [Bool.and_eq_true] at h
      refine PA.imp (pa_cons (iha.e Γ X W _ o h.1.1) (ihb.s Γ X W _ o h.2) (plain_star h.1.2 _ _)) ?_
      rintro σ H Q ⟨ρ, hh, env, w, er, p⟩
      refine ⟨ρ, hh, env, w, er, p.bndX Xt.refl fun x1 h1 ρ1 H1 v1 p1 y1 z1 w1 r1 => ?_⟩
      refine ⟨ρ1, h1, env, w1, er.fwd w z1, p1.bndX z1 fun x2 h2 ρ2 H2 v2 p2 y2 z2 w2 r2 => ?_⟩
      exact p2.ok z2 w2 ⟨v1, v2, rfl, w1.rv y2 r1, r2⟩
  · rw [ckO_cons] at h
    split at h
    · refine PO.imp (po_some (iha.e Γ X W _ o h)) ?_
      rintro σ H Q ⟨ρ, hh, env, w, er, p⟩
      refine ⟨ρ, hh, env, w, er, p.bndX Xt.refl fun x1 h1 ρ1 H1 v1 p1 y1 z1 w1 r1 => ?_⟩
      split at p1
      · cases r1
        exact ⟨_, rfl, p1.ok z1 w1 rfl⟩
      · exact p1.elim
    · cases h
theorem snd_omit : SndE C ca call k .omit := by
  refine ⟨fun Γ X W x o h => ff h (by cases x <;> rfl), fun Γ X W x _ h => ff h (by cases x <;> rfl), fun Γ X W x o h => ?_, fun Γ X W x _ h => ff h (by cases x <;> rfl), fun Γ X W tg x _ h => ff h (by cases x <;> rfl)⟩
  cases x with
  | none =>
    refine PO.imp po_none ?_
    rintro σ H Q ⟨ρ, hh, env, w, er, p⟩
    exact p.ok Xt.refl w rfl
  | some t => cases h
theorem ckT_tru {Γ x a} : ckT (.tru a) Γ x = (ckE a Γ x && (plainT x || isCmp x)) := by cases x <;> rfl
theorem bool_of {X : Cx} {ρ : List Addr} {H : Hp} {h : List O} {v : V} {d : D} {b : Bool} (w : Wd X.K ρ h H) (r : RV X.K ρ H v d) (e : truth h d = some b) (hb : ∃ c, v = .bl c) : v = .bl b := by
  obtain ⟨c, rfl⟩ := hb
  have := truth_ok w r e
  have e2 : b = c := this
  rw [e2]
/-- a comparison is a bool -/
theorem cmp_bl {ir : E} {Γ : Gm} {x : PySem.Expr} (h : ckE ir Γ x = true) (hx : isCmp x = true) {env : Env} {hp h' : List O} {d : D} (e : ev call ir env hp = some (.ok d h')) : ∃ b, d = .bl b := by
  cases x <;> first | (cases hx; done) | skip
  rename_i l os cs p
  cases ir with
  | cmp op a b =>
    unfold ev at e
    cases ea : ev call a env hp with
    | none => rw [ea] at e; cases e
    | some r =>
      rw [ea] at e
      cases r with
      | exc c fs h1 => cases e
      | ok x1 h1 =>
        rw [bnd_ok] at e
        cases eb : ev call b env h1 with
        | none => rw [eb] at e; cases e
        | some r =>
          rw [eb] at e
          cases r with
          | exc c fs h2 => cases e
          | ok x2 h2 =>
            rw [bnd_ok] at e
            split at e
            · cases e; exact ⟨_, rfl⟩
            · cases e
  | chn op op' a b c =>
    unfold ev at e
    cases ea : ev call a env hp with
    | none => rw [ea] at e; cases e
    | some r =>
      rw [ea] at e
      cases r with
      | exc c fs h1 => cases e
      | ok x1 h1 =>
        rw [bnd_ok] at e
        cases eb : ev call b env h1 with
        | none => rw [eb] at e; cases e
        | some r =>
          rw [eb] at e
          cases r with
          | exc c fs h2 => cases e
          | ok x2 h2 =>
            rw [bnd_ok] at e
            split at e
            · cases ec : ev call c env h2 with
              | none => rw [ec] at e; cases e
              | some r =>
                rw [ec] at e
                cases r with
                | exc c fs h3 => cases e
                | ok x3 h3 =>
                  rw [bnd_ok] at e
                  split at e
                  · cases e; exact ⟨_, rfl⟩
                  · cases e
            · cases e; exact ⟨_, rfl⟩
            · cases e
  | lc own tg it c elt => cases h
  | _ => cases h
theorem snd_tru {a : E} (iha : SndE C ca call k a) (ihc : SndC C ca call k a) : SndE C ca call k (.tru a) := by
  refine ⟨fun Γ X W x o h => ff h (by cases x <;> rfl), fun Γ X W x _ h => ff h (by cases x <;> rfl), fun Γ X W x _ h => ff h (by cases x <;> rfl), fun Γ X W x o h => ?_, fun Γ X W tg x _ h => ff h (by cases x <;> rfl)⟩
  rw [ckT_tru] at h
  simp only [Bool.and_eq_true, Bool.or_eq_true] at h
  obtain ⟨h1, h2⟩ := h
  by_cases hp : plainT x = true
  · refine ⟨PT.imp (pt_truth (iha.e Γ X W _ o h1) (fun whole => by cases x <;> first | rfl | (cases hp; done) | (rename_i op _ _; cases op <;> first | rfl | cases hp))) ?_, fun op vs p e => by rw [e] at hp; cases hp⟩
    rintro σ H Q ⟨ρ, hh, env, w, er, p⟩
    refine ⟨ρ, hh, env, w, er, p.bndX Xt.refl fun x1 h1 ρ1 H1 v1 p1 y1 z1 w1 r1 => ?_⟩
    split at p1
    · rename_i b e
      exact ⟨b, truth_ok w1 r1 e, p1.ok z1 w1 rfl⟩
    · exact p1.elim
  · have hc : isCmp x = true := by
      rcases h2 with h2 | h2
      · exact absurd h2 hp
      · exact h2
    refine ⟨PT.imp (ihc Γ X W _ o h1 hc) ?_, fun op vs p e => by rw [e] at hc; cases hc⟩
    rintro σ H Q ⟨ρ, hh, env, w, er, p⟩
    refine ⟨ρ, hh, env, w, er, p.bndE Xt.refl fun x1 h1' ρ1 H1 v1 em p1 y1 z1 w1 r1 => ?_⟩
    obtain ⟨b, rfl⟩ := cmp_bl h1 hc em
    split at p1
    · rename_i b' e
      cases e
      exact ⟨b, r1, p1.ok z1 w1 rfl⟩
    · exact p1.elim
theorem call_shape {ts : List PySem.Expr} (h : (!ts.isEmpty) = true) : ∃ t r, ts = t :: r := by
  cases ts with
  | nil => cases h
  | cons t r => exact ⟨t, r, rfl⟩
theorem ckE_call {Γ x f es ds} : ckE (.call f es ds) Γ x = match x with | .Call (.Name y _) ts [] _ => glb Γ.sc y && !dbg y && ckEs es Γ ts && Γ.fns.any (fun p => p.1 == y && p.2.1 == f && D.beqL p.2.2 ds) | _ => false := by
  cases x <;> try rfl
  rename_i fn as kw _
  cases fn <;> try rfl
  cases kw <;> rfl
theorem snd_call {f : Nat} {es : E} {ds : List D} (ih : SndE C ca call k es) : SndE C ca call k (.call f es ds) := .onlyE (fun Γ X W x o h => by
  rw [ckE_call] at h
  split at h
  · rename_i y py ts pos
    simp only [Bool.and_eq_true, Bool.not_eq_true', List.any_eq_true, beq_iff_eq] at h
    obtain ⟨⟨⟨e1, e2⟩, e4⟩, q, q1, ⟨q2, q3⟩, q4⟩ := h
    obtain ⟨qx, qf, qd⟩ := q
    dsimp only at q2 q3 q4
    subst q2; subst q3
    have ed := D.beqL_eq _ _ q4
    subst ed
    obtain ⟨a, fd, ps, us, dvs, c1, c2, c3, c4, c5, c6⟩ := o.fns _ _ _ q1
    cases ts with
    | nil =>
      refine PE.imp (pe_callG0 c3 o.rm o.gd (glb_of o e1) c1 c2 c4 c5 o.tk e2) ?_
      rintro σ H Q ⟨ρ, hh, env, w, er, p⟩
      have e0 : evs call es env hh = some (.ok [] hh) := by
        cases es <;> first | rfl | cases e4
      unfold ev at p
      rw [e0] at p
      refine ⟨ρ, hh, _, w, c6 ρ H, ?_⟩
      simpa using p
    | cons t r =>
      have pl := ckEs_plain e4
      have pl' : plainX t = true ∧ r.all plainX = true := by simpa using pl
      refine PE.imp (pe_callG c3 o.rm o.gd (glb_of o e1) c1 c2 c4 c5 o.tk (ih.s Γ X W _ o e4) e2 (plain_star pl'.1 _ _) (plain_any pl'.2)) ?_
      rintro σ H Q ⟨ρ, hh, env, w, er, p⟩
      refine ⟨ρ, hh, env, w, er, p.bndX Xt.refl fun x1 h1 ρ1 H1 v1 p1 y1 z1 w1 r1 => ?_⟩
      have r1' : RVs X.K ρ1 H1 v1 x1 := r1
      exact ⟨ρ1, h1, _, w1, r1'.append (c6 ρ1 H1), p1.fwd z1⟩
  · cases h) (fun _ x => by cases x <;> rfl) (fun _ x => by cases x <;> rfl) (fun _ x => by cases x <;> rfl) (fun _ tg x => by cases x <;> rfl)
theorem ckE_bi {Γ x b es} : ckE (.bi b es) Γ x = match x with | .Call (.Name y _) ts [] _ => y == biName b && decide (b ≠ .bad) && glb Γ.sc y && !ts.isEmpty && ckEs es Γ ts | _ => false := by
  cases x <;> try rfl
  rename_i fn as kw _
  cases fn <;> try rfl
  cases kw <;> rfl
theorem bi_blt (b : Bi) (h : b ≠ .bad) : biName b ∈ blts := by
  cases b <;> first | exact absurd rfl h | decide
theorem snd_bi {b : Bi} {es : E} (ih : SndE C ca call k es) : SndE C ca call k (.bi b es) := .onlyE (fun Γ X W x o h => by
  rw [ckE_bi] at h
  split at h
  · simp only [Bool.and_eq_true, Bool.not_eq_true', beq_iff_eq, decide_eq_true_eq] at h
    obtain ⟨⟨⟨⟨e1, e2⟩, e3⟩, e4⟩, e5⟩ := h
    subst e1
    obtain ⟨t, r, rfl⟩ := call_shape (by rw [e4]; rfl)
    have pl := ckEs_plain e5
    have pl' : plainX t = true ∧ r.all plainX = true := by simpa using pl
    obtain ⟨rr, hr, hr2⟩ := bi_pe (C := C) (ca := ca) b e2 o.hc o.hu o.gd (glb_of o e3) (o.blt _ (bi_blt b e2)) (ih.s Γ X W _ o e5) (plain_star pl'.1 _ _) (plain_any pl'.2)
    refine PE.imp hr ?_
    rintro σ H Q ⟨ρ, hh, env, w, er, p⟩
    refine ⟨ρ, hh, env, w, er, p.bndX Xt.refl fun x1 h1 ρ1 H1 v1 p1 y1 z1 w1 r1 => ?_⟩
    refine hr2 w1 r1 (p1.bndX z1 fun x2 h2 ρ2 H2 v2 p2 y2 z2 w2 r2 => ?_)
    obtain ⟨ρ'', x'', w'', r''⟩ := gc_ok w z2 w2 r2
    exact p2.ok x'' w'' r''
  · cases h) (fun _ x => by cases x <;> rfl) (fun _ x => by cases x <;> rfl) (fun _ x => by cases x <;> rfl) (fun _ tg x => by cases x <;> rfl)
theorem ckE_isi {Γ x a t} : ckE (.isi a t) Γ x = match x with | .Call (.Name f _) [a', .Name y _] [] _ => f == ("isinstance" : Str) && y == tyStr t && glb Γ.sc f && glb Γ.sc y && ckE a Γ a' && plainX a' | _ => false := by
  cases x <;> try rfl
  rename_i fn as kw _
  cases fn <;> try rfl
  cases as <;> try rfl
  rename_i a1 as
  cases as <;> try rfl
  rename_i a2 as
  cases a2 <;> try rfl
  cases as <;> try rfl
  cases kw <;> rfl
theorem snd_isi {a : E} {t : Ty} (iha : SndE C ca call k a) : SndE C ca call k (.isi a t) := .onlyE (fun Γ X W x o h => by
  rw [ckE_isi] at h
  split at h
  · simp only [Bool.and_eq_true, beq_iff_eq] at h
    obtain ⟨⟨⟨⟨⟨e1, e2⟩, e3⟩, e4⟩, e5⟩, e6⟩ := h
    subst e1; subst e2
    have ty : ∀ pos, PE X (.Name (tyStr t) pos) (tC (.ty (tyName t))) := fun pos => by
      cases t with
      | int => exact pe_bltn (glb_of o e4) (o.blt _ (by decide)) (u := .type "int") (by decide +kernel) rfl
      | bool => exact pe_bltn (glb_of o e4) (o.blt _ (by decide)) (u := .type "bool") (by decide +kernel) rfl
      | str => exact pe_bltn (glb_of o e4) (o.blt _ (by decide)) (u := .type "str") (by decide +kernel) rfl
      | tuple => exact pe_bltn (glb_of o e4) (o.blt _ (by decide)) (u := .type "tuple") (by decide +kernel) rfl
      | list => exact pe_bltn (glb_of o e4) (o.blt _ (by decide)) (u := .type "list") (by decide +kernel) rfl
      | dict => exact pe_bltn (glb_of o e4) (o.blt _ (by decide)) (u := .type "dict") (by decide +kernel) rfl
    refine PE.imp (pe_callB call_isi (glb_of o e3) (o.blt _ (by decide)) (by decide +kernel) (pa_cons (iha.e Γ X W _ o e5) (pa_cons (ty _) pa_nil rfl) (plain_star e6 _ _)) (by decide) (by decide) (plain_star e6 _ _) rfl) ?_
    rintro σ H Q ⟨ρ, hh, env, w, er, p⟩
    refine ⟨ρ, hh, env, w, er, p.bndX Xt.refl fun x1 h1 ρ1 H1 v1 p1 y1 z1 w1 r1 => ?_⟩
    exact isi_ok w1 r1 (p1.fwd z1)
  · cases h) (fun _ x => by cases x <;> rfl) (fun _ x => by cases x <;> rfl) (fun _ x => by cases x <;> rfl) (fun _ tg x => by cases x <;> rfl)
end
end Mini
end

section
/-! Mini: methods, comprehensions, iterables; all expressions together (own work). -/
namespace Mini
open PySem PySem.Spec PyProof.Rows L2
section
variable {C : List Cl} {ca : Nat → Addr} {call : Caller} {k : Nat}
theorem plain_base {o : PySem.Expr} (h : plainB o = true) (n : Str) (env : PySem.Env) (w : Sem Value) : attributeBase o n env w = w := by
  cases o <;> try rfl
  rename_i f as kw p
  cases f <;> try rfl
  cases as <;> try rfl
  cases kw <;> first | rfl | cases h
theorem ckE_mt {Γ x m o es} : ckE (.mt m o es) Γ x = match x with | .Call (.Attribute o' n p) ts [] q => ckE o Γ o' && plainB o' && ckEs es Γ ts && decide (p.endLine = q.line) && mtSyn m n ts.length | _ => false := by
  cases x <;> try rfl
  rename_i fn as kw _
  cases fn <;> try rfl
  cases kw <;> rfl
theorem evs_len {Γ : Gm} : ∀ {es : E} {ts : List PySem.Expr} {env : Env} {h h' : List O} {xs : List D}, ckEs es Γ ts = true → evs call es env h = some (.ok xs h') → xs.length = ts.length
  | es, [], env, h, h', xs, hc, e => by
    cases es with
    | nil => unfold evs at e; cases e; rfl
    | _ => cases hc
  | es, t :: ts, env, h, h', xs, hc, e => by
    cases es with
    | cons a b =>
      rw [ckEs_cons] at hc
      simp only [Bool.and_eq_true] at hc
      unfold evs at e
      cases ea : ev call a env h with
      | none => rw [ea] at e; cases e
      | some r =>
        rw [ea] at e
        cases r with
        | exc c fs h1 => cases e
        | ok x1 h1 =>
          rw [bnd_ok] at e
          cases eb : evs call b env h1 with
          | none => rw [eb] at e; cases e
          | some r =>
            rw [eb] at e
            cases r with
            | exc c fs h2 => cases e
            | ok x2 h2 =>
              rw [bnd_ok] at e
              cases e
              rw [List.length_cons, List.length_cons, evs_len hc.2 eb]
    | _ => cases hc
theorem mt_ref {m : Mt} {x : D} {h : List O} (e : mtPre m x h = true) : ∃ n, x = .ref n ∧ (isLst h n).isSome = true := by
  unfold mtPre at e
  split at e
  · exact ⟨_, rfl, e⟩
  · exact ⟨_, rfl, e⟩
  · cases e
theorem snd_mt {m : Mt} {o es : E} (iho : SndE C ca call k o) (ihs : SndE C ca call k es) : SndE C ca call k (.mt m o es) := .onlyE (fun Γ X W x ok h => by
  rw [ckE_mt] at h
  split at h
  · rename_i o' n p ts q
    simp only [Bool.and_eq_true, decide_eq_true_eq] at h
    obtain ⟨⟨⟨⟨e1, e2⟩, e3⟩, e4⟩, e5⟩ := h
    have hl : (p.endLine == q.line) = true := by rw [e4]; exact beq_self_eq_true _
    unfold mtSyn at e5
    cases m with
    | append =>
      simp only [Bool.and_eq_true, beq_iff_eq, decide_eq_true_eq] at e5
      obtain ⟨rfl, e6⟩ := e5
      obtain ⟨t, rfl⟩ : ∃ t, ts = [t] := by
        match ts, e6 with
        | [t], _ => exact ⟨t, rfl⟩
      have pl := ckEs_plain e3
      have pl' : plainX t = true := by simpa using pl
      refine PE.imp (pe_bm PySem.F.plainAttrs_list PySem.F.slot_list_append PySem.F.type_list_append mt_append (iho.e Γ X W _ ok e1) (ihs.s Γ X W _ ok e3) (plain_base e2 _ _ _) (by rw [plain_star pl']; rfl) hl (plain_star pl' _ _) rfl) ?_
      rintro σ H Q ⟨ρ, hh, env, w, er, p⟩
      refine ⟨ρ, hh, env, w, er, p.bndX Xt.refl fun x1 h1 ρ1 H1 v1 p1 y1 z1 w1 r1 => ?_⟩
      split at p1
      · rename_i hp
        obtain ⟨n, en, hn⟩ := mt_ref hp
        refine ⟨list_ty w1 r1 en hn, ρ1, h1, env, w1, er.fwd w z1, p1.bndX z1 fun x2 h2 ρ2 H2 v2 p2 y2 z2 w2 r2 => ?_⟩
        exact append_ok w2 (w1.rv y2 r1) r2 (p2.fwd z2)
      · exact p1.elim
    | pop =>
      simp only [Bool.and_eq_true, beq_iff_eq, decide_eq_true_eq] at e5
      obtain ⟨rfl, e6⟩ := e5
      have e7 : ts = [] := List.length_eq_zero_iff.mp e6
      subst e7
      refine PE.imp (pe_bm0 PySem.F.plainAttrs_list PySem.F.slot_list_pop PySem.F.type_list_pop mt_pop (iho.e Γ X W _ ok e1) (plain_base e2 _ _ _) hl) ?_
      rintro σ H Q ⟨ρ, hh, env, w, er, p⟩
      refine ⟨ρ, hh, env, w, er, p.bndX Xt.refl fun x1 h1 ρ1 H1 v1 p1 y1 z1 w1 r1 => ?_⟩
      split at p1
      · rename_i hp
        obtain ⟨n, en, hn⟩ := mt_ref hp
        refine ⟨list_ty w1 r1 en hn, ?_⟩
        cases es with
        | nil => exact pop_ok (ds := []) w1 r1 rfl (p1.fwd z1)
        | _ => cases e3
      · exact p1.elim
    | _ => cases e5
  · cases h) (fun _ x => by cases x <;> rfl) (fun _ x => by cases x <;> rfl) (fun _ x => by cases x <;> rfl) (fun _ tg x => by cases x <;> rfl)

/-! ### what is walked -/
theorem SndE.onlyI {ir : E} (he : ∀ Γ x, ckE ir Γ x = false) (hs : ∀ Γ x, ckEs ir Γ x = false) (ho : ∀ Γ x, ckO ir Γ x = false) (ht : ∀ Γ x, ckT ir Γ x = false)
    (hi : ∀ Γ X W tg x, XOk C ca call k Γ X W → ckI ir Γ tg x = true → PI X tg x (tI X.K C ca call W ir)) : SndE C ca call k ir :=
  ⟨fun Γ X W x _ h => ff h (he Γ x), fun Γ X W x _ h => ff h (hs Γ x), fun Γ X W x _ h => ff h (ho Γ x), fun Γ X W x _ h => ff h (ht Γ x), hi⟩
theorem ckI_rng {Γ tg x es} : ckI (.rng es) Γ tg x = match x with | .Call (.Name y _) ts [] _ => y == ("range" : Str) && glb Γ.sc y && (decide (ts.length = 1) || decide (ts.length = 2)) && ckEs es Γ ts | _ => false := by
  cases x <;> try rfl
  rename_i fn as kw _
  cases fn <;> try rfl
  cases kw <;> rfl
theorem snd_rng {es : E} (ih : SndE C ca call k es) : SndE C ca call k (.rng es) := .onlyI (fun _ x => by cases x <;> rfl) (fun _ x => by cases x <;> rfl) (fun _ x => by cases x <;> rfl) (fun _ x => by cases x <;> rfl) (fun Γ X W tg x o h => by
  rw [ckI_rng] at h
  split at h
  · rename_i y p ts q
    simp only [Bool.and_eq_true, Bool.or_eq_true, beq_iff_eq, decide_eq_true_eq] at h
    obtain ⟨⟨⟨rfl, e1⟩, e2⟩, e3⟩ := h
    have pl := ckEs_plain e3
    have hm := o.blt "range" (by decide)
    rcases e2 with e2 | e2
    · obtain ⟨t, rfl⟩ : ∃ t, ts = [t] := by
        match ts, e2 with
        | [t], _ => exact ⟨t, rfl⟩
      have pl' : plainX t = true := by simpa using pl
      refine PI.imp (pi_range1 (glb_of o e1) hm (ih.s Γ X W _ o e3) (plain_star pl' _ _)) ?_
      rintro σ H R ⟨ρ, hh, env, w, er, p⟩
      refine ⟨ρ, hh, env, w, er, p.bndE Xt.refl fun x1 h1 ρ1 H1 v1 em p1 y1 z1 w1 r1 => ?_⟩
      have hl := evs_len e3 em
      split at p1
      · rename_i xs e
        unfold rangeD at e
        split at e
        · split at e
          · rename_i hb
            cases e
            obtain ⟨v, rfl, q⟩ := rvs1 r1
            cases q
            exact ⟨_, rfl, hb.1, hb.2, p1.ok z1 w1 it_rng⟩
          · cases e
        · cases hl
        · cases e
      · exact p1.elim
    · obtain ⟨t, t', rfl⟩ : ∃ t t', ts = [t, t'] := by
        match ts, e2 with
        | [t, t'], _ => exact ⟨t, t', rfl⟩
      have pl' : plainX t = true ∧ plainX t' = true := by simpa using pl
      refine PI.imp (pi_range2 (glb_of o e1) hm (ih.s Γ X W _ o e3) (by rw [plain_star pl'.1, plain_star pl'.2]; rfl) (plain_star pl'.2 _ _)) ?_
      rintro σ H R ⟨ρ, hh, env, w, er, p⟩
      refine ⟨ρ, hh, env, w, er, p.bndE Xt.refl fun x1 h1 ρ1 H1 v1 em p1 y1 z1 w1 r1 => ?_⟩
      have hl := evs_len e3 em
      split at p1
      · rename_i xs e
        unfold rangeD at e
        split at e
        · cases hl
        · split at e
          · rename_i hb
            cases e
            obtain ⟨v, u, rfl, q, q'⟩ := rvs2 r1
            cases q; cases q'
            exact ⟨_, _, rfl, hb, p1.ok z1 w1 it_rng⟩
          · cases e
        · cases e
      · exact p1.elim
  · cases h)
theorem ckI_enu {Γ tg x a} : ckI (.enu a) Γ tg x = match tg, x with | .Tuple _ _ _, .Call (.Name y _) [a'] [] _ => y == ("enumerate" : Str) && glb Γ.sc y && ckE a Γ a' && plainX a' | _, _ => false := by
  cases tg <;> try rfl
  cases x <;> try rfl
  rename_i fn as kw _
  cases fn <;> try rfl
  cases as <;> try rfl
  rename_i a1 as
  cases as <;> try rfl
  cases kw <;> rfl
theorem snd_enu {a : E} (ih : SndE C ca call k a) : SndE C ca call k (.enu a) := .onlyI (fun _ x => by cases x <;> rfl) (fun _ x => by cases x <;> rfl) (fun _ x => by cases x <;> rfl) (fun _ x => by cases x <;> rfl) (fun Γ X W tg x o h => by
  rw [ckI_enu] at h
  split at h
  · simp only [Bool.and_eq_true, beq_iff_eq] at h
    obtain ⟨⟨⟨rfl, e1⟩, e2⟩, e3⟩ := h
    refine PI.imp (pi_enum (glb_of o e1) (o.blt "enumerate" (by decide)) (pa_cons (ih.e Γ X W _ o e2) pa_nil (plain_star e3 _ _)) (plain_star e3 _ _)) ?_
    rintro σ H R ⟨ρ, hh, env, w, er, p⟩
    refine ⟨ρ, hh, env, w, er, p.bndX Xt.refl fun x1 h1 ρ1 H1 v1 p1 y1 z1 w1 r1 => ?_⟩
    split at p1
    · rename_i pp e
      unfold enumP at e
      split at e
      · split at e
        · rename_i xs e0
          cases e
          obtain ⟨b, vs, rfl, ea, q, s⟩ := rd_lst w1 r1 e0
          exact ⟨b, vs, rfl, q, p1.ok z1 w1 (it_enum w1 ea)⟩
        · cases e
      · cases e
    · exact p1.elim
  · cases h)
theorem ckI_zip {Γ tg x a b} : ckI (.zip a b) Γ tg x = match tg, x with | .Tuple _ _ _, .Call (.Name y _) [a', b'] [] _ => y == ("zip" : Str) && glb Γ.sc y && ckE a Γ a' && plainX a' && ckE b Γ b' && plainX b' | _, _ => false := by
  cases tg <;> try rfl
  cases x <;> try rfl
  rename_i fn as kw _
  cases fn <;> try rfl
  cases as <;> try rfl
  rename_i a1 as
  cases as <;> try rfl
  rename_i a2 as
  cases as <;> try rfl
  cases kw <;> rfl
theorem snd_zip {a b : E} (iha : SndE C ca call k a) (ihb : SndE C ca call k b) : SndE C ca call k (.zip a b) := .onlyI (fun _ x => by cases x <;> rfl) (fun _ x => by cases x <;> rfl) (fun _ x => by cases x <;> rfl) (fun _ x => by cases x <;> rfl) (fun Γ X W tg x o h => by
  rw [ckI_zip] at h
  split at h
  · simp only [Bool.and_eq_true, beq_iff_eq] at h
    obtain ⟨⟨⟨⟨⟨rfl, e1⟩, e2⟩, e3⟩, e4⟩, e5⟩ := h
    refine PI.imp (RZ.pi_zipA (glb_of o e1) (o.blt "zip" (by decide)) (pa_cons (iha.e Γ X W _ o e2) (pa_cons (ihb.e Γ X W _ o e4) pa_nil (plain_star e5 _ _)) (plain_star e3 _ _)) (plain_star e3 _ _) (by rw [plain_star e5]; rfl)) ?_
    rintro σ H R ⟨ρ, hh, env, w, er, p⟩
    refine ⟨ρ, hh, env, w, er, p.bndX Xt.refl fun x1 h1 ρ1 H1 v1 p1 y1 z1 w1 r1 => ?_⟩
    refine ⟨ρ1, h1, env, w1, er.fwd w z1, p1.bndX z1 fun x2 h2 ρ2 H2 v2 p2 y2 z2 w2 r2 => ?_⟩
    split at p2
    · rename_i pp e
      have r1' := w1.rv y2 r1
      unfold zipP at e
      split at e
      · cases e
        obtain ⟨b1, vs, rfl, q, s⟩ := r1'
        obtain ⟨b2, us, rfl, q', s'⟩ := r2
        exact ⟨b1, b2, vs, us, rfl, .inr ⟨q, q', p2.ok z2 w2 (it_zipT w2 q s q' s')⟩⟩
      · split at e
        · rename_i xs ys e0 e0'
          cases e
          obtain ⟨b1, vs, rfl, ea, q, s⟩ := rd_lst w2 r1' e0
          obtain ⟨b2, us, rfl, eb, q', s'⟩ := rd_lst w2 r2 e0'
          exact ⟨b1, b2, vs, us, rfl, .inl ⟨q, q', p2.ok z2 w2 (it_zipL w2 ea eb)⟩⟩
        · cases e
      · cases e
    · exact p2.elim
  · cases h)
theorem ckI_itr {Γ tg x a} : ckI (.itr a) Γ tg x = ckE a Γ x := by cases tg <;> cases x <;> rfl
theorem snd_itr {a : E} (ih : SndE C ca call k a) : SndE C ca call k (.itr a) := .onlyI (fun _ x => by cases x <;> rfl) (fun _ x => by cases x <;> rfl) (fun _ x => by cases x <;> rfl) (fun _ x => by cases x <;> rfl) (fun Γ X W tg x o h => by
  rw [ckI_itr] at h
  refine PI.imp (PI.or (pi_list (ih.e Γ X W _ o h)) (pi_tup (ih.e Γ X W _ o h))) ?_
  rintro σ H R ⟨ρ, hh, env, w, er, p⟩
  cases em : ev call a env hh with
  | none =>
    have p' : Post ⟨X.K, C, ca⟩ ρ H (relI X.K) _ R (bnd (ev call a env hh) _) := p
    rw [em] at p'
    exact p'.elim
  | some r =>
    cases r with
    | exc c fs h' =>
      left
      refine ⟨ρ, hh, env, w, er, ?_⟩
      have p' : Post ⟨X.K, C, ca⟩ ρ H (relI X.K) _ R (bnd (ev call a env hh) _) := p
      rw [em] at p' ⊢
      exact p'
    | ok d h' =>
      have p' : Post ⟨X.K, C, ca⟩ ρ H (relI X.K) _ R (bnd (ev call a env hh) _) := p
      rw [em, bnd_ok] at p'
      split at p'
      · rename_i pp e
        unfold itemsOf at e
        split at e
        · cases e
          right
          refine ⟨ρ, hh, env, w, er, ?_⟩
          rw [em]
          intro ρ1 H1 v1 z1 w1 r1
          obtain ⟨b, vs, rfl, q, s⟩ := r1
          exact ⟨b, rfl, ⟨vs, q⟩, p'.ok z1 w1 (it_tup w1 q s)⟩
        · split at e
          · rename_i xs e0
            cases e
            left
            refine ⟨ρ, hh, env, w, er, ?_⟩
            rw [em]
            intro ρ1 H1 v1 z1 w1 r1
            obtain ⟨b, vs, rfl, ea, q, s⟩ := rd_lst w1 r1 e0
            exact ⟨b, rfl, ⟨vs, q⟩, p'.ok z1 w1 (it_list w1 ea)⟩
          · cases e
        · cases e
      · exact p'.elim)
/-! ### comprehensions -/
theorem Xt.side {ρ ρ' : List Addr} {H H' : Hp} {a : Addr} {o : HO} (x : Xt ρ H ρ' H') (n : H a = none) : Xt ρ H ρ' (upd H' a o) := by
  refine ⟨x.pre, fun b u e m => ?_, fun b e => ?_⟩
  · have : b ≠ a := fun z => by rw [z, n] at e; cases e
    rw [upd_ne this]; exact x.frame b u e m
  · by_cases z : b = a
    · rw [z, upd_same]; simp
    · rw [upd_ne z]; exact x.keep b e
theorem TS'.side {K : PySem.W.Frag} {H : Hp} {a : Addr} {vs vs' : List V} (e : H a = some (.lst vs)) : TS' K H (L2.upd H a (.lst vs')) := by
  intro b ws q
  rcases q with (q | ⟨u, q⟩) | q
  · have : b ≠ a := fun z => by rw [z, e] at q; cases q
    exact .inl (.inl (by rw [upd_ne this]; exact q))
  · have : b ≠ a := fun z => by rw [z, e] at q; cases q
    exact .inl (.inr ⟨u, by rw [upd_ne this]; exact q⟩)
  · exact .inr q
theorem Wd.side {K : PySem.W.Frag} {ρ : List Addr} {h : List O} {H : Hp} {a : Addr} {vs vs' : List V} (w : Wd K ρ h H) (n : a ∉ ρ) (e : H a = some (.lst vs)) : Wd K ρ h (upd H a (.lst vs')) := by
  refine ⟨w.len, w.nd, fun i u b e1 e2 => ?_⟩
  have hne : b ≠ a := fun q => n (q ▸ mem_of_get e2)
  exact OR.mono (TS'.side e) (fun _ _ e => e) (upd_ne hne) (w.obj i u b e1 e2)
theorem notin_fwd {ρ ρ' : List Addr} {H H' : Hp} {a : Addr} (x : Xt ρ H ρ' H') (n : a ∉ ρ) (e : H a ≠ none) : a ∉ ρ' := by
  obtain ⟨⟨τ, e1, n1⟩, _, _⟩ := x
  rw [e1]
  intro m
  rcases List.mem_append.mp m with m | m
  · exact n m
  · exact e (n1 a m)
theorem ckE_lc {Γ x own tg it c elt} : ckE (.lc own tg it c elt) Γ x = match x with | .ListComp elt' [⟨tg', it', ifs, n⟩] scope _ => decide (n = 0) && blkC Γ.N Γ.sc scope (ownN Γ.N own) && tgIn own tg && ckI it Γ tg' it' && plainX it' && ckG { Γ with sc := relS scope Γ.sc, ts := scope } tg tg' && ckE elt { Γ with sc := relS scope Γ.sc, ts := scope } elt' && (match ifs with | [] => (match c with | .omit => true | _ => false) | [c'] => ckT c { Γ with sc := relS scope Γ.sc, ts := scope } c' | _ => false) | _ => false := by
  cases x <;> try rfl
  rename_i e gs s p
  cases gs <;> try rfl
  rename_i g gs
  cases g
  cases gs <;> rfl
theorem wipe_at (σ : L2.St) (i : Nat) : ∀ vs : List Nat, (wipe σ vs)[i]? = if i ∈ vs then (σ[i]?).map fun _ => none else σ[i]?
  | [] => by simp [wipe]
  | v :: vs => by
    show ((wipe σ vs).set v none)[i]? = _
    have ih := wipe_at σ i vs
    have hl : (wipe σ vs).length = σ.length := wipe_length σ vs
    by_cases e : v = i
    · subst e
      rw [if_pos List.mem_cons_self]
      by_cases hb : v < σ.length
      · rw [List.getElem?_set_self (by rw [hl]; exact hb), List.getElem?_eq_getElem hb]; rfl
      · rw [List.getElem?_eq_none (by simpa [hl] using hb), List.getElem?_eq_none (by simpa using hb)]; rfl
    · rw [List.getElem?_set_ne e, ih]
      by_cases m : i ∈ vs
      · rw [if_pos m, if_pos (List.mem_cons_of_mem _ m)]
      · rw [if_neg m, if_neg (fun z => (List.mem_cons.mp z).elim (fun q => e q.symm) m)]
theorem wipe_wipe (σ : L2.St) (vs : List Nat) : wipe (wipe σ vs) vs = wipe σ vs := by
  apply List.ext_getElem?
  intro i
  rw [wipe_at, wipe_at]
  by_cases m : i ∈ vs
  · rw [if_pos m, if_pos m, Option.map_map]; rfl
  · rw [if_neg m, if_neg m]
theorem own_snd (N : List Str) (own : List Nat) : (ownN N own).map (·.2) = own := by
  unfold ownN
  rw [List.map_map]
  exact List.map_id own
theorem lc_parts {own : List Nat} {tg it c elt : E} (ihi : SndE C ca call k it) (ihc : SndE C ca call k c) (ihe : SndE C ca call k elt) {Γ : Gm} {X : Cx} {W : WX} {x : PySem.Expr} (o : XOk C ca call k Γ X W) (h : ckE (.lc own tg it c elt) Γ x = true) :
    ∃ elt' tg' it' ifs scope pos, x = .ListComp elt' [⟨tg', it', ifs, 0⟩] scope pos ∧ PI X tg' it' (tI X.K C ca call W it) ∧ BlkOk X.N X.env.scope scope (ownN Γ.N own) ∧
      (∀ (s : Shared) (H : Hp) (cC : Addr) (cl : List (Str × Addr)) (fp : List Addr), PG (X.blk s H scope (compEnvC scope cl cC X.env) fp) tg' (tG X.K tg)) ∧
      (∀ (s : Shared) (H : Hp) (cC : Addr) (cl : List (Str × Addr)) (fp : List Addr), PTs (X.blk s H scope (compEnvC scope cl cC X.env) fp) ifs (tT X.K C ca call (fun _ _ _ _ => False) c)) ∧
      (∀ (s : Shared) (H : Hp) (cC : Addr) (cl : List (Str × Addr)) (fp : List Addr), PE (X.blk s H scope (compEnvC scope cl cC X.env) fp) elt' (tE X.K C ca call (fun _ _ _ _ => False) elt)) ∧ plainX it' = true ∧
      ∀ σ H Q, tE X.K C ca call W (.lc own tg it c elt) σ H Q → tLc (tI X.K C ca call W it) (tG X.K tg) (tT X.K C ca call (fun _ _ _ _ => False) c) (tE X.K C ca call (fun _ _ _ _ => False) elt) ((ownN Γ.N own).map (·.2)) σ H Q := by
  rw [ckE_lc] at h
  split at h
  · rename_i elt' tg' it' ifs n scope pos
    simp only [Bool.and_eq_true, decide_eq_true_eq] at h
    obtain ⟨⟨⟨⟨⟨⟨⟨rfl, h2⟩, h3⟩, h4⟩, h5⟩, h6⟩, h7⟩, h8⟩ := h
    have bo : BlkOk X.N X.env.scope scope (ownN Γ.N own) := by
      rw [o.hN, o.sc]; exact blkOk_by h2
    have hg : ∀ (s : Shared) (H : Hp) (cC : Addr) (cl : List (Str × Addr)) (fp : List Addr), PG (X.blk s H scope (compEnvC scope cl cC X.env) fp) tg' (tG X.K tg) := fun s H cC cl fp =>
      (tg_ok (o.blk s H scope cl cC fp) tg).1 tg' h6
    have he : ∀ (s : Shared) (H : Hp) (cC : Addr) (cl : List (Str × Addr)) (fp : List Addr), PE (X.blk s H scope (compEnvC scope cl cC X.env) fp) elt' (tE X.K C ca call (fun _ _ _ _ => False) elt) := fun s H cC cl fp =>
      ihe.e _ _ _ _ (o.blk s H scope cl cC fp) h7
    have ht : ∀ (s : Shared) (H : Hp) (cC : Addr) (cl : List (Str × Addr)) (fp : List Addr), PTs (X.blk s H scope (compEnvC scope cl cC X.env) fp) ifs (tT X.K C ca call (fun _ _ _ _ => False) c) := fun s H cC cl fp => by
      split at h8
      · split at h8
        · refine PTs.imp pts_nil ?_
          rintro σ H Q ⟨ρ, hh, env, w, er, p⟩
          exact p.ok Xt.refl w rfl
        · cases h8
      · exact pts_one (ihc.t _ _ _ _ (o.blk s H scope cl cC fp) h8).1
      · cases h8
    refine ⟨elt', tg', it', ifs, scope, pos, rfl, ihi.i Γ X W tg' it' o h4, bo, hg, ht, he, h5, ?_⟩
    rintro σ H Q ⟨ρ, hh, env, w, er, p⟩
    refine ⟨ρ, hh, env, w, er, p.bndX Xt.refl fun pp h1 ρ1 H1 J p1 y1 z1 w1 hJ => ?_⟩
    rw [own_snd]
    intro A nA
    have nA0 : H A = none := by
      cases q : H A with
      | none => rfl
      | some u => exact absurd nA (z1.keep A (by rw [q]; simp))
    generalize hF : (fun (x : D) (h : List O) => match asgT tg x (wipeD env own) with
        | some env2 => bnd (evt call c env2 h) fun b h2 => if b = true then bnd (ev call elt env2 h2) fun y h3 => some (R.ok (some y) h3) else some (R.ok none h2)
        | none => none) = F at p1
    refine ⟨fun i m Hc => m = pp.1.length - i ∧ i ≤ pp.1.length ∧ ∃ ρc hc acc vs, Xt ρ1 H1 ρc Hc ∧ Wd X.K ρc hc Hc ∧ A ∉ ρc ∧ Hc A = some (.lst vs) ∧ RVs X.K ρc Hc vs acc ∧
      Post ⟨X.K, C, ca⟩ ρ H (relD X.K) (fun c d H' => W c d σ H') Q (bnd (lcGo pp.2 F (pp.1.drop i) acc hc) fun ys h4 => alloc (.lst ys) h4), ⟨pp.1.length, by simp, Nat.zero_le _, ρ1, h1, [], [], ?_⟩, ?_⟩
    · refine ⟨xt_new nA, w1.new nA, fun m => w1.there m nA, upd_same, rfl, ?_⟩
      exact p1
    rintro i m Hc ⟨rfl, hi, ρc, hc, acc, vs, xc, wc, nc, eA, rc, pc⟩
    have z : Xt ρ H ρc Hc := z1.trans xc
    by_cases hlt : i < pp.1.length
    · -- a turn
      right
      have hx : pp.1[i]? = some pp.1[i] := List.getElem?_eq_getElem hlt
      rw [List.drop_eq_getElem_cons hlt] at pc
      unfold lcGo at pc
      by_cases hk : chk pp.2 hc = true
      · rw [if_pos hk] at pc
        obtain ⟨hgo, _⟩ := hJ ρc hc Hc xc wc hk
        obtain ⟨hgo, hy⟩ := hgo i _ hx
        refine ⟨hgo, fun H' => ∃ ρc hc acc vs, Xt ρ1 H1 ρc H' ∧ Wd X.K ρc hc H' ∧ A ∉ ρc ∧ H' A = some (.lst vs) ∧ RVs X.K ρc H' vs acc ∧
          Post ⟨X.K, C, ca⟩ ρ H (relD X.K) (fun c d H' => W c d σ H') Q (bnd (lcGo pp.2 F (pp.1.drop (i + 1)) acc hc) fun ys h4 => alloc (.lst ys) h4), fun H' q => ⟨pp.1.length - (i + 1), by omega, rfl, hlt, q⟩, fun v H' yl => ?_⟩
        obtain ⟨xy, wy, rv⟩ := hy v H' yl
        have eA' : H' A = some (.lst vs) := xy.frame A _ eA nc
        have rc' := wc.rvs xy rc
        have xc' := xc.trans xy
        have er' : EnvR X.K ρc H' (wipe σ own) (wipeD env own) := (er.fwd w (z.trans xy)).wipe own
        cases ea : asgT tg pp.1[i] (wipeD env own) with
        | none =>
          rw [← hF] at pc
          dsimp only at pc
          rw [ea] at pc
          exact pc.elim
        | some env2 =>
          refine ⟨ρc, hc, pp.1[i], wipeD env own, env2, wy, er', rv, ea, fun σ2 er2 hw => ⟨(hw own h3).trans (wipe_wipe σ own), ?_⟩⟩
          have eF : F pp.1[i] hc = bnd (evt call c env2 hc) fun b h2 => if b = true then bnd (ev call elt env2 h2) fun y h3 => some (R.ok (some y) h3) else some (R.ok none h2) := by
            rw [← hF]
            dsimp only
            rw [ea]
          rw [eF] at pc
          refine ⟨ρc, hc, env2, wy, er2, ?_⟩
          cases eb : evt call c env2 hc with
          | none => rw [eb] at pc; exact pc.elim
          | some r =>
            rw [eb] at pc
            cases r with
            | exc c0 fs h2 => exact pc.elim
            | ok b h2 =>
              intro ρ2 H2 b' x2 w2 hb
              have hb' : b' = b := hb
              subst hb'
              rw [bnd_ok] at pc
              have nA2 : A ∉ ρ2 := notin_fwd x2 nc (by rw [eA']; simp)
              have eA2 : H2 A = some (.lst vs) := x2.frame A _ eA' nc
              have rc2 := wy.rvs x2 rc'
              cases b' with
              | false =>
                rw [if_neg (by decide)] at pc ⊢
                exact ⟨ρ2, h2, acc, vs, xc'.trans x2, w2, nA2, eA2, rc2, pc⟩
              | true =>
                rw [if_pos rfl] at pc ⊢
                refine ⟨ρ2, h2, env2, w2, er2.fwd wy x2, ?_⟩
                cases ee : ev call elt env2 h2 with
                | none => rw [ee] at pc; exact pc.elim
                | some r =>
                  rw [ee] at pc
                  cases r with
                  | exc c0 fs h3 => exact pc.elim
                  | ok y h3 =>
                    intro ρ3 H3 u x3 w3 ru
                    rw [bnd_ok] at pc
                    dsimp only at pc
                    have eA3 : H3 A = some (.lst vs) := x3.frame A _ eA2 nA2
                    have nA3 : A ∉ ρ3 := notin_fwd x3 nA2 (by rw [eA2]; simp)
                    have rc3 := w2.rvs x3 rc2
                    by_cases hl : acc.length < lim
                    · rw [if_pos hl] at pc
                      have ts := TS'.side (K := X.K) (vs' := vs ++ [u]) eA3
                      refine ⟨vs, eA3, by rw [rc3.len, ← lim_eq]; exact hl, ρ3, h3, acc ++ [y], vs ++ [u], ((xc'.trans x2).trans x3).side nA, w3.side nA3 eA3, nA3, upd_same, ?_, pc⟩
                      exact RVs.mono ts (fun _ _ e => e) _ _ (rc3.append (RVs.one ru))
                    · rw [if_neg hl] at pc
                      exact pc.elim
      · rw [if_neg hk] at pc
        exact pc.elim
    · -- the end
      left
      have hi' : i = pp.1.length := by omega
      subst hi'
      rw [List.drop_length] at pc
      unfold lcGo at pc
      by_cases hk : chk pp.2 hc = true
      · rw [if_pos hk, bnd_ok] at pc
        refine ⟨(hJ ρc hc Hc xc wc hk).2, ?_⟩
        obtain ⟨wa, ra⟩ := wc.adopt nc eA rc
        refine pc.ok ⟨?_, fun b u e m => ?_, z.keep⟩ wa ra
        · obtain ⟨τ, e1, n1⟩ := z.pre
          refine ⟨τ ++ [A], by rw [e1, List.append_assoc], fun b m => ?_⟩
          rcases List.mem_append.mp m with m | m
          · exact n1 b m
          · have : b = A := by simpa using m
            rw [this]; exact nA0
        · exact z.frame b u e m
      · rw [if_neg hk] at pc
        exact pc.elim
  · cases h
theorem snd_lc {own : List Nat} {tg it c elt : E} (ihi : SndE C ca call k it) (ihc : SndE C ca call k c) (ihe : SndE C ca call k elt) : SndE C ca call k (.lc own tg it c elt) := .onlyE (fun Γ X W x o h => by
  obtain ⟨elt', tg', it', ifs, scope, pos, rfl, h1, h2, h3, h4, h5, h6, h7⟩ := lc_parts ihi ihc ihe o h
  exact PE.imp (pe_lc o.hc (by rw [o.hN]; exact o.nd) h1 h2 h3 h4 h5 (plain_set h6 _)) h7) (fun _ x => by cases x <;> rfl) (fun _ x => by cases x <;> rfl) (fun _ x => by cases x <;> rfl) (fun _ tg x => by cases tg <;> cases x <;> rfl)
/-- nothing of the text is tied to it -/
theorem SndE.no {ir : E} (he : ∀ Γ x, ckE ir Γ x = false) (hs : ∀ Γ x, ckEs ir Γ x = false) (ho : ∀ Γ x, ckO ir Γ x = false) (ht : ∀ Γ x, ckT ir Γ x = false) (hi : ∀ Γ tg x, ckI ir Γ tg x = false) : SndE C ca call k ir :=
  ⟨fun Γ X W x _ h => ff h (he Γ x), fun Γ X W x _ h => ff h (hs Γ x), fun Γ X W x _ h => ff h (ho Γ x), fun Γ X W x _ h => ff h (ht Γ x), fun Γ X W tg x _ h => ff h (hi Γ tg x)⟩
theorem SndC.no {ir : E} (hn : ∀ Γ x, isCmp x = true → ckE ir Γ x = false) : SndC C ca call k ir := fun Γ X W x _ h hc => ff h (hn Γ x hc)
theorem snd_all : ∀ ir : E, SndE C ca call k ir ∧ SndC C ca call k ir := by
  intro ir
  induction ir with
  | nil => exact ⟨snd_nil, .no fun _ x hc => by cases x <;> first | rfl | cases hc⟩
  | cons a b iha ihb => exact ⟨snd_cons iha.1 ihb.1, .no fun _ x hc => by cases x <;> first | rfl | cases hc⟩
  | «omit» => exact ⟨snd_omit, .no fun _ x hc => by cases x <;> first | rfl | cases hc⟩
  | non => exact ⟨snd_non, .no fun _ x hc => by cases x <;> first | rfl | cases hc⟩
  | bl b => exact ⟨snd_bl, .no fun _ x hc => by cases x <;> first | rfl | cases hc⟩
  | int i => exact ⟨snd_int, .no fun _ x hc => by cases x <;> first | rfl | cases hc⟩
  | str s => exact ⟨snd_str, .no fun _ x hc => by cases x <;> first | rfl | cases hc⟩
  | slot i => exact ⟨snd_slot, .no fun _ x hc => by cases x <;> first | rfl | cases hc⟩
  | con d x => exact ⟨snd_con, .no fun _ x hc => by cases x <;> first | rfl | cases hc⟩
  | bin op a b iha ihb => exact ⟨snd_bin iha.1 ihb.1, .no fun _ x hc => by cases x <;> first | rfl | cases hc⟩
  | neg a iha => exact ⟨snd_neg iha.1, .no fun _ x hc => by cases x <;> first | rfl | cases hc⟩
  | cmp op a b iha ihb => exact snd_cmp iha.1 ihb.1
  | chn op1 op2 a b c iha ihb ihc => exact snd_chn iha.1 ihb.1 ihc.1
  | and a b iha ihb => exact ⟨snd_and iha.1 ihb.1, .no fun _ x hc => by cases x <;> first | rfl | cases hc⟩
  | or a b iha ihb => exact ⟨snd_or iha.1 ihb.1, .no fun _ x hc => by cases x <;> first | rfl | cases hc⟩
  | nt a iha => exact ⟨snd_nt iha.1, .no fun _ x hc => by cases x <;> first | rfl | cases hc⟩
  | ntv a iha => exact ⟨snd_ntv iha.1, .no fun _ x hc => by cases x <;> first | rfl | cases hc⟩
  | ifx c a b ihc iha ihb => exact ⟨snd_ifx ihc.1 iha.1 ihb.1, .no fun _ x hc => by cases x <;> first | rfl | cases hc⟩
  | tup es ih => exact ⟨snd_tup ih.1, .no fun _ x hc => by cases x <;> first | rfl | cases hc⟩
  | lst es ih => exact ⟨snd_lst ih.1, .no fun _ x hc => by cases x <;> first | rfl | cases hc⟩
  | ix a b iha ihb => exact ⟨snd_ix iha.1 ihb.1, .no fun _ x hc => by cases x <;> first | rfl | cases hc⟩
  | sl a lo hi iha ihl ihu => exact ⟨snd_sl iha.1 ihl.1 ihu.1, .no fun _ x hc => by cases x <;> first | rfl | cases hc⟩
  | call f es ds ih => exact ⟨snd_call ih.1, .no fun _ x hc => by cases x <;> first | rfl | cases hc⟩
  | bi b es ih => exact ⟨snd_bi ih.1, .no fun _ x hc => by cases x <;> first | rfl | cases hc⟩
  | isi a t iha => exact ⟨snd_isi iha.1, .no fun _ x hc => by cases x <;> first | rfl | cases hc⟩
  | mt m o es iho ihs => exact ⟨snd_mt iho.1 ihs.1, .no fun _ x hc => by cases x <;> first | rfl | cases hc⟩
  | lc own tg it c elt _ ihi ihc ihe => exact ⟨snd_lc ihi.1 ihc.1 ihe.1, .no fun _ x hc => by cases x <;> first | rfl | cases hc⟩
  | rng es ih => exact ⟨snd_rng ih.1, .no fun _ x hc => by cases x <;> first | rfl | cases hc⟩
  | enu a iha => exact ⟨snd_enu iha.1, .no fun _ x hc => by cases x <;> first | rfl | cases hc⟩
  | zip a b iha ihb => exact ⟨snd_zip iha.1 ihb.1, .no fun _ x hc => by cases x <;> first | rfl | cases hc⟩
  | tru a iha => exact ⟨snd_tru iha.1 iha.2, .no fun _ x hc => by cases x <;> first | rfl | cases hc⟩
  | itr a iha => exact ⟨snd_itr iha.1, .no fun _ x hc => by cases x <;> first | rfl | cases hc⟩
  | rev a iha => exact ⟨.no (fun _ x => by cases x <;> rfl) (fun _ x => by cases x <;> rfl) (fun _ x => by cases x <;> rfl) (fun _ x => by cases x <;> rfl) (fun _ tg x => by cases tg <;> cases x <;> rfl), .no fun _ x hc => by cases x <;> first | rfl | cases hc⟩
  | tsub a b iha ihb => exact ⟨.no (fun _ x => by cases x <;> rfl) (fun _ x => by cases x <;> rfl) (fun _ x => by cases x <;> rfl) (fun _ x => by cases x <;> rfl) (fun _ tg x => by cases tg <;> cases x <;> rfl), .no fun _ x hc => by cases x <;> first | rfl | cases hc⟩
  | fld x => exact ⟨.no (fun _ x => by cases x <;> rfl) (fun _ x => by cases x <;> rfl) (fun _ x => by cases x <;> rfl) (fun _ x => by cases x <;> rfl) (fun _ tg x => by cases tg <;> cases x <;> rfl), .no fun _ x hc => by cases x <;> first | rfl | cases hc⟩
  | isx c => exact ⟨.no (fun _ x => by cases x <;> rfl) (fun _ x => by cases x <;> rfl) (fun _ x => by cases x <;> rfl) (fun _ x => by cases x <;> rfl) (fun _ tg x => by cases tg <;> cases x <;> rfl), .no fun _ x hc => by cases x <;> first | rfl | cases hc⟩
  | kin x cs => exact ⟨.no (fun _ x => by cases x <;> rfl) (fun _ x => by cases x <;> rfl) (fun _ x => by cases x <;> rfl) (fun _ x => by cases x <;> rfl) (fun _ tg x => by cases tg <;> cases x <;> rfl), .no fun _ x hc => by cases x <;> first | rfl | cases hc⟩
  | bad => exact ⟨.no (fun _ x => by cases x <;> rfl) (fun _ x => by cases x <;> rfl) (fun _ x => by cases x <;> rfl) (fun _ x => by cases x <;> rfl) (fun _ tg x => by cases tg <;> cases x <;> rfl), .no fun _ x hc => by cases x <;> first | rfl | cases hc⟩
end
end Mini
end

section
/-! Mini: the checker for statements, their soundness (own work). -/
namespace Mini
open PySem PySem.Spec PyProof.Rows L2

mutual
/-- a statement's target -/
def ckD (Γ : Gm) : E → PySem.Expr → Bool
  | .slot i, .Name x _ => decide (Γ.N[i]? = some x) && locS Γ.ts x
  | .tup es, .Tuple ts _ _ => ckDs Γ es ts
  | .tsub a b, .Subscript a' b' _ => ckE a Γ a' && ckE b Γ b' && plainX b'
  | _, _ => false
def ckDs (Γ : Gm) : E → List PySem.Expr → Bool
  | .nil, [] => true
  | .cons a b, t :: ts => ckD Γ a t && plainX t && ckDs Γ b ts
  | _, _ => false
end
def isComp : PySem.Expr → Bool
  | .ListComp .. => true
  | .SetComp .. => true
  | .DictComp .. => true
  | _ => false
def isTupX : PySem.Expr → Bool
  | .Tuple .. => true
  | _ => false
def isNm : PySem.Expr → Bool
  | .Name .. => true
  | _ => false
/-- the store of a comprehension's name happens within its frame -/
def swB (Γ : Gm) (y : Str) (py : Pos) : PySem.Expr → Bool
  | .ListComp _ _ scope pos => decide (Γ.sc.names.lookup y = some .local) && py.line == pos.line && !(scope.names.any fun (n, k) => n == y && (k == .local || k == .cell))
  | _ => false
/-- the stores of a tuple in the order of the text -/
def noSw (Γ : Gm) : PySem.Expr → PySem.Expr → Bool
  | .Tuple ts _ _, .Tuple _ _ _ => ts.any fun t => !isNm t
  | _, _ => true
/-- the two names of a pair assignment -/
def ckPar (Γ : Gm) (i j : Nat) : List PySem.Expr → Bool
  | [.Name x p, .Name y q] => decide (Γ.N[i]? = some x) && decide (Γ.N[j]? = some y) && decide (i ≠ j) && decide (Γ.sc.names.lookup x = some .local) && decide (Γ.sc.names.lookup y = some .local) && decide (x ≠ y) && p.line == q.line
  | _ => false
/-- the exception's own name, in a suite -/
def isEn (en : Str) : PySem.Expr → Bool
  | .Name n _ => n == en
  | _ => false
/-- isinstance(e, y) -/
def ckIs (Γ : Gm) (en : Str) (a : Nat) : PySem.Expr → Bool
  | .Call (.Name x _) [o, .Name y _] [] _ => x == ("isinstance" : Str) && isEn en o && glb Γ.sc x && glb Γ.sc y && !dbg y && Γ.cls.any fun p => p.1 == y && p.2.1 == a
  | _ => false
/-- f(e) -/
def ckKin (Γ : Gm) (en : Str) (f : Str) (cs : List Nat) : PySem.Expr → Bool
  | .Call (.Name x _) [o] [] _ => x == f && glb Γ.sc x && !dbg x && isEn en o && Γ.kin.any fun p => p.1 == x && p.2 == cs
  | _ => false
/-- [] -/
def ckNil : PySem.Expr → Bool
  | .List [] _ => true
  | _ => false
mutual
/-- an except suite's value -/
def ckX (Γ : Gm) (en : Str) : E → PySem.Expr → Bool
  | .non, .Constant .none _ _ => true
  | .bl b, .Constant (.bool c) _ _ => b == c
  | .int i, .Constant (.int j) _ _ => i == j
  | .str s, .Constant (.str t) _ _ => s == t
  | .fld x, .Attribute o y _ => isEn en o && x == y
  | .isx a, e => ckIs Γ en a e
  | .kin f cs, e => ckKin Γ en f cs e
  | .lst .nil, e => ckNil e
  | .tup es, .Tuple ts _ _ => ckXs Γ en es ts
  | .ifx k a b, .IfExp k' a' b' _ => ckXT Γ en k k' && ckX Γ en a a' && ckX Γ en b b'
  | _, _ => false
def ckXs (Γ : Gm) (en : Str) : E → List PySem.Expr → Bool
  | .nil, [] => true
  | .cons a b, t :: ts => ckX Γ en a t && plainX t && ckXs Γ en b ts
  | _, _ => false
def ckXT (Γ : Gm) (en : Str) : E → PySem.Expr → Bool
  | .and a b, .BoolOp .And [a', b'] _ => ckXT Γ en a a' && ckXT Γ en b b'
  | .isx a, e => ckIs Γ en a e
  | _, _ => false
end
/-- a clause's class -/
def ckHt (Γ : Gm) (a : Nat) : PySem.Expr → Bool
  | .Name x _ => glb Γ.sc x && !dbg x && Γ.cls.any fun p => p.1 == x && p.2.1 == a && p.2.2 == 0
  | _ => false
/-- a clause's suite -/
def ckHs (Γ : Gm) (n : Str) (e : E) : PySem.Stmt → Bool
  | .Return (some v) _ => ckX Γ n e v
  | _ => false
/-- a clause -/
def ckHd (Γ : Gm) (a i : Nat) (e : E) : ExceptHandler → Bool
  | .ExceptHandler (some t) (some n) [s] _ => ckHt Γ a t && decide (Γ.N[i]? = some n) && decide (Γ.sc.names.lookup n = some .local) && !dbg n && !(n == ("__classdict__" : Str)) && ckHs Γ n e s
  | _ => false
/-- the clauses of a try -/
def ckH (Γ : Gm) : S → List ExceptHandler → Bool
  | .hnil, [] => true
  | .hcons a i e hs, hd :: r => ckHd Γ a i e hd && ckH Γ hs r
  | _, _ => false
/-- an item of a subscript, in place -/
def ckA (Γ : Gm) (a i : E) : PySem.Expr → Bool
  | .Subscript a' i' _ => ckE a Γ a' && ckE i Γ i' && plainX i'
  | _ => false
mutual
def ckS : S → Gm → PySem.Stmt → Bool
  | .asg tg e, Γ, .Assign [t] v _ => ckE e Γ v && ckD Γ tg t && plainX t && noSw Γ t v
  | .par i j es, Γ, .Assign [.Tuple ts _ _] (.Tuple vs _ _) _ => (match vs with
    | [a, b] => plainX a && plainX b && !(foldedForSure 8 a && foldedForSure 8 b) && !(constantsAlone 8 a && constantsAlone 8 b)
    | _ => false) && ckPar Γ i j ts && ckEs es Γ vs
  | .augS a i op e, Γ, .AugAssign t op' v _ => decide (op = op') && ckA Γ a i t && ckE e Γ v
  | .raise c es, Γ, .Raise (some (.Call (.Name x _) ts [] _)) none _ => glb Γ.sc x && !dbg x && (Γ.cls.any fun p => p.1 == x && p.2.1 == c && p.2.2 == 0) && !ts.isEmpty && ckEs es Γ ts
  | .try b hs, Γ, .Try b' hds [] [] _ => ckSs b Γ b' && ckH Γ hs hds && !hds.isEmpty
  | .aug i op e, Γ, .AugAssign (.Name x _) op' v _ => decide (op = op') && decide (Γ.N[i]? = some x) && locS Γ.ts x && ckE e Γ v
  | .ex e, Γ, .Expr v _ => ckE e Γ v && !isComp v
  | .ite c a b, Γ, .If c' a' b' _ => ckT c Γ c' && ckSs a Γ a' && ckSs b Γ b'
  | .for tg it b, Γ, .For t i b' [] _ => ckG Γ tg t && ckI it Γ t i && plainX i && ckSs b Γ b'
  | .while c b, Γ, .While c' b' [] _ => ckT c Γ c' && ckSs b Γ b'
  | .brk, _, .Break _ => true
  | .cnt, _, .Continue _ => true
  | .ret e, Γ, .Return (some v) _ => ckE e Γ v
  | .retN, _, .Return none _ => true
  | .nil, _, .Pass _ => true
  | .bad, _, _ => true
  | _, _, _ => false
def ckSs : S → Gm → List PySem.Stmt → Bool
  | .nil, _, [] => true
  | .seq a b, Γ, t :: ts => ckS a Γ t && ckSs b Γ ts
  | _, _, _ => false
end
section
variable (K : PySem.W.Frag) (C : List Cl) (ca : Nat → Addr) (call : Caller) (W : WX)
def PostS (ρ : List Addr) (H : Hp) (D : Ends) : Option RS → Prop
  | none => False
  | some (.fl (.nx e) h') => ∀ ρ' H' σ', Xt ρ H ρ' H' → Wd K ρ' h' H' → EnvR K ρ' H' σ' e → D.nx σ' H'
  | some (.fl (.bk e) h') => ∀ ρ' H' σ', Xt ρ H ρ' H' → Wd K ρ' h' H' → EnvR K ρ' H' σ' e → D.bk σ' H'
  | some (.fl (.ct e) h') => ∀ ρ' H' σ', Xt ρ H ρ' H' → Wd K ρ' h' H' → EnvR K ρ' H' σ' e → D.ct σ' H'
  | some (.fl (.rt d) h') => ∀ ρ' H' v, Xt ρ H ρ' H' → Wd K ρ' h' H' → RV K ρ' H' v d → D.rt v H'
  | some (.exc c fs e h') => ∀ ρ' H' σ' dd fl, Xt ρ H ρ' H' → Wd K ρ' h' H' → EnvR K ρ' H' σ' e → H' dd = some (.xd fl) → XF K C ρ' H' c fs fl → W (.ref (ca c)) (some dd) σ' H'
def tS (ir : S) : TS := fun D σ H => ∃ ρ h env, Wd K ρ h H ∧ EnvR K ρ H σ env ∧ PostS K C ca W ρ H D (exec call C ir env h)
def tGS (ir : E) : TG := fun v σ H Q => ∃ ρ h d env env' h', Wd K ρ h H ∧ EnvR K ρ H σ env ∧ RV K ρ H v d ∧ asgS call ir d env h = some (env', h') ∧ ∀ ρ' H' σ', Xt ρ H ρ' H' → Wd K ρ' h' H' → EnvR K ρ' H' σ' env' → Q σ' H'
def tGSs (ir : E) : TGs := fun v σ H Q => ∃ ρ h d env env' h', Wd K ρ h H ∧ EnvR K ρ H σ env ∧ RVs K ρ H v d ∧ asgS.asgSs call ir d env h = some (env', h') ∧ ∀ ρ' H' σ', Xt ρ H ρ' H' → Wd K ρ' h' H' → EnvR K ρ' H' σ' env' → Q σ' H'
end
section
variable {K : PySem.W.Frag} {C : List Cl} {ca : Nat → Addr} {W : WX} {ρ ρ1 : List Addr} {H H1 : Hp} {D : Ends}
theorem PostS.fwd {r : Option RS} (x : Xt ρ H ρ1 H1) (p : PostS K C ca W ρ H D r) : PostS K C ca W ρ1 H1 D r := by
  cases r with
  | none => exact p
  | some r =>
    cases r with
    | exc c fs e h' => exact fun ρ' H' σ' dd fl x' w er e1 e2 => p ρ' H' σ' dd fl (x.trans x') w er e1 e2
    | fl f h' =>
      cases f with
      | nx e => exact fun ρ' H' σ' x' w er => p ρ' H' σ' (x.trans x') w er
      | bk e => exact fun ρ' H' σ' x' w er => p ρ' H' σ' (x.trans x') w er
      | ct e => exact fun ρ' H' σ' x' w er => p ρ' H' σ' (x.trans x') w er
      | rt d => exact fun ρ' H' v x' w r => p ρ' H' v (x.trans x') w r
/-- an expression's end within a statement -/
theorem PostS.bns {α β : Type} {rel : Rel α β} {Q1 : β → Hp → Prop} {σ : L2.St} {env : Env} {h1 : List O} {m : Option (R α)} {f : α → List O → Option RS} (x1 : Xt ρ H ρ1 H1) (w1 : Wd K ρ1 h1 H1) (er : EnvR K ρ1 H1 σ env) (p : PostS K C ca W ρ H D (Mini.bns m env f))
    (k : ∀ a h2 ρ2 H2 b, PostS K C ca W ρ H D (f a h2) → Xt ρ1 H1 ρ2 H2 → Xt ρ H ρ2 H2 → Wd K ρ2 h2 H2 → EnvR K ρ2 H2 σ env → rel ρ2 H2 b a → Q1 b H2) : Post ⟨K, C, ca⟩ ρ1 H1 rel (fun c d H' => W c d σ H') Q1 m := by
  cases m with
  | none => exact p
  | some r =>
    cases r with
    | ok a h' => exact fun ρ' H' b x' w q => k a h' ρ' H' b p x' (x1.trans x') w (er.fwd w1 x') q
    | exc c fs h' => exact fun ρ' H' dd fl x' w e1 e2 => p ρ' H' σ dd fl (x1.trans x') w (er.fwd w1 x') e1 e2
end
/-! ### targets -/
section
variable {C : List Cl} {ca : Nat → Addr} {call : Caller} {k : Nat}
theorem set_ok {K : PySem.W.Frag} {ρ : List Addr} {H : Hp} {h h' : List O} {o i d : D} {u v z : V} {Q : Hp → Prop} (w : Wd K ρ h H) (ro : RV K ρ H u o) (ri : RV K ρ H v i) (rd : RV K ρ H z d) (e : setI o i d h = some h')
    (q : ∀ H', Xt ρ H ρ H' → Wd K ρ h' H' → Q H') : rSetL u v z H Q := by
  unfold setI at e
  split at e
  · split at e
    · rename_i xs e1
      split at e
      · rename_i j e2
        cases e
        cases ri
        obtain ⟨a, us, rfl, ea, eh, eH, s⟩ := is_lst w ro e1
        obtain ⟨x1, w1⟩ := w.write ea eH (s.set j rd)
        refine ⟨a, us, _, j, rfl, rfl, eH, ?_, q _ x1 w1⟩
        rw [s.len]; exact e2
      · cases e
    · cases e
  · cases e
theorem sub_assign {a' b' : PySem.Expr} {p : Pos} {env : PySem.Env} (h : plainX b' = true) (v : Value) : assign (.Subscript a' b' p) env v = (do
    let ov ← holding [v] (eval a' env)
    let iv ← holding [v, ov] (eval b' env)
    standAt p
    holding [v, ov, iv] (setItem ov iv v)
    release [v, ov, iv] []) := by
  cases b' <;> first | rfl | cases h
theorem only_ok {α : Type} {m : Option (R α)} {a : α} {h : List O} (e : onlyOk m = some (a, h)) : m = some (.ok a h) := by
  unfold onlyOk at e
  split at e
  · cases e; rfl
  · cases e
theorem ckD_slot {Γ : Gm} {i : Nat} {e : PySem.Expr} : ckD Γ (.slot i) e = match e with | .Name x _ => decide (Γ.N[i]? = some x) && locS Γ.ts x | _ => false := by cases e <;> rfl
theorem ckD_tup {Γ : Gm} {es : E} {e : PySem.Expr} : ckD Γ (.tup es) e = match e with | .Tuple ts _ _ => ckDs Γ es ts | _ => false := by cases e <;> rfl
theorem ckD_tsub {Γ : Gm} {a b : E} {e : PySem.Expr} : ckD Γ (.tsub a b) e = match e with | .Subscript a' b' _ => ckE a Γ a' && ckE b Γ b' && plainX b' | _ => false := by cases e <;> rfl
theorem ckDs_cons {Γ : Gm} {a b : E} {ts : List PySem.Expr} : ckDs Γ (.cons a b) ts = match ts with | t :: ts => ckD Γ a t && plainX t && ckDs Γ b ts | [] => false := by cases ts <;> rfl
theorem ckDs_plain {Γ : Gm} : ∀ {es : E} {ts : List PySem.Expr}, ckDs Γ es ts = true → ts.all plainX = true
  | es, [], _ => rfl
  | es, t :: ts, h => by
    cases es with
    | cons a b =>
      rw [ckDs_cons] at h
      simp only [Bool.and_eq_true] at h
      simp only [List.all_cons, Bool.and_eq_true]
      exact ⟨h.1.2, ckDs_plain h.2⟩
    | _ => cases h
theorem asgSs_len {Γ : Gm} : ∀ (es : E) (xs : List D) (env env2 : Env) (h h2 : List O) (ts : List PySem.Expr), asgS.asgSs call es xs env h = some (env2, h2) → ckDs Γ es ts = true → xs.length = ts.length := by
  intro es
  induction es with
  | nil =>
    intro xs env env2 h h2 ts e1 e2
    cases xs with
    | nil => cases ts with
      | nil => rfl
      | cons t ts => cases e2
    | cons x xs => cases e1
  | cons a b _ ihb =>
    intro xs env env2 h h2 ts e1 e2
    cases xs with
    | nil => cases e1
    | cons x xs =>
      cases ts with
      | nil => cases e2
      | cons t ts =>
        unfold asgS.asgSs at e1
        rw [ckDs_cons] at e2
        simp only [Bool.and_eq_true] at e2
        split at e1
        · rw [List.length_cons, List.length_cons, ihb _ _ _ _ _ _ e1 e2.2]
        · cases e1
  | _ => intro xs env env2 h h2 ts e1; cases e1
theorem tgS_ok {Γ : Gm} {X : Cx} {W : WX} (o : XOk C ca call k Γ X W) : ∀ (ir : E), (∀ e, ckD Γ ir e = true → PG X e (tGS X.K call ir)) ∧ (∀ ts, ckDs Γ ir ts = true → PGs X ts (tGSs X.K call ir)) := by
  intro ir
  induction ir with
  | slot i =>
    refine ⟨fun e h => ?_, fun ts h => (by cases ts <;> cases h)⟩
    rw [ckD_slot] at h
    split at h
    · rename_i x p
      simp only [Bool.and_eq_true, decide_eq_true_eq] at h
      obtain ⟨h1, h2⟩ := o.fnx x h.2
      refine PG.imp (pg_name (i := i) (by rw [o.hN]; exact o.nd) (by rw [o.hN]; exact h.1) h1 h2) ?_
      rintro v σ H Q ⟨ρ, h, d, env, env2, hh, w, er, r, ea, q⟩
      unfold asgS at ea
      split at ea
      · cases ea
        exact q _ _ _ Xt.refl w (er.set r)
      · cases ea
    · cases h
  | tup es ih =>
    refine ⟨fun e h => ?_, fun ts h => (by cases ts <;> cases h)⟩
    rw [ckD_tup] at h
    split at h
    · rename_i ts k' p
      refine PG.imp (pg_tup (n := ts.length) o.hc (ih.2 ts h) len_each (each_star (ckDs_plain h))) ?_
      rintro v σ H Q ⟨ρ, hh, d, env, env2, h2, w, er, r, ea, q⟩
      cases d with
      | tup xs =>
        obtain ⟨a, vs, rfl, hq, s⟩ := r
        refine ⟨a, vs, rfl, hq, ?_, ρ, hh, xs, env, env2, h2, w, er, s, ea, q⟩
        rw [s.len]
        exact asgSs_len es xs env env2 hh h2 ts ea h
      | _ => cases ea
    · cases h
  | nil =>
    refine ⟨fun e h => (by cases e <;> cases h), fun ts h => ?_⟩
    cases ts with
    | nil =>
      refine PGs.imp pgs_nil ?_
      rintro v σ H Q ⟨ρ, hh, d, env, env2, h2, w, er, r, ea, q⟩
      cases d with
      | nil =>
        cases r; cases ea
        exact ⟨rfl, q _ _ _ Xt.refl w er⟩
      | cons x xs => cases ea
    | cons t ts => cases h
  | cons a b iha ihb =>
    refine ⟨fun e h => (by cases e <;> cases h), fun ts h => ?_⟩
    cases ts with
    | nil => cases h
    | cons t ts =>
      rw [ckDs_cons] at h
      simp only [Bool.and_eq_true] at h
      refine PGs.imp (pgs_cons (iha.1 t h.1.1) (ihb.2 ts h.2) (by rw [each_cons h.1.2]; rfl)) ?_
      rintro v σ H Q ⟨ρ, hh, d, env, env2, h2, w, er, r, ea, q⟩
      cases d with
      | nil => cases ea
      | cons x xs =>
        obtain ⟨u, us, rfl, r1, r2⟩ := r
        unfold asgS.asgSs at ea
        split at ea
        · rename_i env' h' e1
          refine ⟨u, us, rfl, ρ, hh, x, env, env', h', w, er, r1, e1, fun ρ2 H2 σ2 x2 w2 er2 => ?_⟩
          exact ⟨ρ2, h', xs, env', env2, h2, w2, er2, w.rvs x2 r2, ea, fun ρ3 H3 σ3 x3 w3 er3 => q ρ3 H3 σ3 (x2.trans x3) w3 er3⟩
        · cases ea
  | tsub a b _ _ =>
    refine ⟨fun e h => ?_, fun ts h => (by cases ts <;> cases h)⟩
    rw [ckD_tsub] at h
    split at h
    · rename_i a' b' p
      simp only [Bool.and_eq_true] at h
      refine PG.imp (pg_sub ((snd_all a).1.e Γ X W _ o h.1.1) ((snd_all b).1.e Γ X W _ o h.1.2) set_list (fun v => sub_assign h.2 v)) ?_
      rintro v σ H Q ⟨ρ, hh, d, env, env2, h2, w, er, r, ea, q⟩
      unfold asgS at ea
      split at ea
      · rename_i x h1 e1
        split at ea
        · rename_i y h3 e2
          split at ea
          · rename_i h4 e3
            cases ea
            refine ⟨ρ, hh, env, w, er, ?_⟩
            rw [only_ok e1]
            intro ρ1 H1 v1 x1 w1 r1
            refine ⟨ρ1, h1, env, w1, er.fwd w x1, ?_⟩
            rw [only_ok e2]
            intro ρ2 H2 v2 x2 w2 r2
            refine set_ok w2 (w1.rv x2 r1) r2 (w.rv (x1.trans x2) r) e3 fun H3 x3 w3 => ?_
            exact q ρ2 H3 σ ((x1.trans x2).trans x3) w3 (er.fwd w ((x1.trans x2).trans x3))
          · cases ea
        · cases ea
      · cases ea
    · cases h
  | _ => exact ⟨fun e h => (by cases e <;> cases h), fun ts h => (by cases ts <;> cases h)⟩
/-! ### statements -/
theorem PS.imp {X : Cx} {s : PySem.Stmt} {t t' : TS} (h : PS X s t) (k : ∀ D σ H, t' D σ H → t D σ H) : PS X s t' := ⟨fun pins s σ H D I q => h.run pins s σ H D I (k _ _ _ q)⟩
theorem PSs.imp {X : Cx} {s : List PySem.Stmt} {t t' : TS} (h : PSs X s t) (k : ∀ D σ H, t' D σ H → t D σ H) : PSs X s t' := ⟨fun pins s σ H D I q => h.run pins s σ H D I (k _ _ _ q)⟩
/-- a def's own frame -/
structure FnX (X : Cx) : Prop where
  kind : X.env.scope.kind = .function
  stk : X.stack = X.env :: X.outer
  frm : X.env.frame = some X.env.locals
structure SndS (C : List Cl) (ca : Nat → Addr) (call : Caller) (k : Nat) (ir : S) : Prop where
  s : ∀ Γ X W x, XOk C ca call k Γ X W → PassesOwn (model X.prog X.w) X.A X.env X.xe → FnX X → ckS ir Γ x = true → PS X x (tS X.K C ca call W ir)
  ss : ∀ Γ X W x, XOk C ca call k Γ X W → PassesOwn (model X.prog X.w) X.A X.env X.xe → FnX X → ckSs ir Γ x = true → PSs X x (tS X.K C ca call W ir)
theorem sw_off {v : PySem.Expr} (h : isComp v = false) (t : Option PySem.Expr) (l : Nat) (env : PySem.Env) : swapsWith v t l env = pure false := by
  cases v <;> first | rfl | cases h
theorem sw_tgt {v t : PySem.Expr} (h : isNm t = false) (l : Nat) (env : PySem.Env) : swapsWith v (some t) l env = pure false := by
  cases v <;> cases t <;> first | rfl | cases h
theorem sw_lc {y : Str} {py pos : Pos} {e : PySem.Expr} {gs : List Comprehension} {scope : Scope} {l : Nat} {env : PySem.Env} (hk : env.scope.kind = .function) :
    swapsWith (.ListComp e gs scope pos) (some (.Name y py)) l env = pure (decide (env.scope.names.lookup y = some .local) && py.line == pos.line && !(scope.names.any fun (n, k) => n == y && (k == .local || k == .cell))) := by
  have hb : env.blockKind = .function := by
    unfold PySem.Env.blockKind
    rw [hk]; rfl
  unfold swapsWith
  simp only [hb]
  have hd : (env.kindOf y == some NameKind.local) = decide (env.scope.names.lookup y = some .local) := by
    show (env.scope.names.lookup y == some NameKind.local) = _
    by_cases e : env.scope.names.lookup y = some .local
    · rw [e]; rfl
    · rw [decide_eq_false e]
      exact beq_eq_false_iff_ne.mpr e
  rw [hd]
  rfl
/-- the reading of an assignment -/
theorem asg_key {X : Cx} {W : WX} {tg e : E} {D : Ends} {σ : L2.St} {H : Hp} (q : tS X.K C ca call W (.asg tg e) D σ H) : tAsg (tE X.K C ca call W e) (tGS X.K call tg) D σ H := by
  obtain ⟨ρ, hh, env, w, er, p⟩ := q
  refine ⟨ρ, hh, env, w, er, PostS.bns Xt.refl w er p fun d h1 ρ1 H1 v1 p1 y1 z1 w1 er1 r1 => ?_⟩
  split at p1
  · rename_i env' h2 ea
    exact ⟨ρ1, h1, d, env, env', h2, w1, er1, r1, ea, fun ρ2 H2 σ2 x2 w2 er2 => p1 ρ2 H2 σ2 (z1.trans x2) w2 er2⟩
  · exact p1.elim
theorem inv_asg {Γ : Gm} {tg e : E} {x : PySem.Stmt} (h : ckS (.asg tg e) Γ x = true) : ∃ t v p, x = .Assign [t] v p ∧ (ckE e Γ v && ckD Γ tg t && plainX t && noSw Γ t v) = true := by
  cases x <;> first | (cases h; done) | skip
  rename_i ts v p
  cases ts with
  | nil => cases h
  | cons t ts =>
    cases ts with
    | nil => exact ⟨t, v, p, rfl, h⟩
    | cons _ _ => cases h
theorem fm_len {α β : Type} {f : α → Option β} : ∀ {l : List α}, (l.any fun x => (f x).isNone) = true → (l.filterMap f).length < l.length
  | [], h => by cases h
  | x :: l, h => by
    cases e : f x with
    | none =>
      rw [List.filterMap_cons_none e]
      exact Nat.lt_succ_of_le (List.length_filterMap_le _ _)
    | some y =>
      rw [List.filterMap_cons_some e]
      have h' : (l.any fun x => (f x).isNone) = true := by simpa [e] using h
      exact Nat.succ_lt_succ (fm_len h')
theorem sw_mix {ts vs : List PySem.Expr} {kt pt k2 pt2} {env : PySem.Env} (h : (ts.any fun t => !isNm t) = true) : swappedStores [.Tuple ts kt pt] (.Tuple vs k2 pt2) env = pure none := by
  have key : ∀ (g : Str → Pos → Option Str), (ts.filterMap fun t => match t with | .Name id pos => g id pos | _ => none).length ≠ ts.length := fun g => by
    refine Nat.ne_of_lt (fm_len ?_)
    rw [List.any_eq_true] at h ⊢
    obtain ⟨t, m, q⟩ := h
    refine ⟨t, m, ?_⟩
    cases t <;> first | rfl | cases q
  unfold swappedStores
  dsimp only
  by_cases c1 : (!(ts.length == 2 || ts.length == 3) || vs.length != ts.length || env.blockKind != .function) = true
  · rw [if_pos c1]
  · rw [if_neg c1]
    split
    · rfl
    · split
      · rfl
      · rename_i c3
        refine absurd ?_ c3
        rw [Bool.or_eq_true]
        exact Or.inl (bne_iff_ne.mpr (key fun id pos => if (env.kindOf id == some NameKind.local && pos.line == (Option.map (fun x => x.pos.line) ts.head?).getD 0) = true then some id else none))
theorem snd_asg {tg e : E} : SndS C ca call k (.asg tg e) := by
  refine ⟨fun Γ X W x o po hk h => ?_, fun Γ X W x _ _ _ h => ff h (by cases x <;> rfl)⟩
  obtain ⟨t, v, pos, rfl, hh⟩ := inv_asg h
  simp only [Bool.and_eq_true] at hh
  obtain ⟨⟨⟨h1, h2⟩, h3⟩, h5⟩ := hh
  have pe := (snd_all e).1.e Γ X W v o h1
  by_cases hn : isNm t = true
  · cases t <;> first | (cases hn; done) | skip
    rename_i y py
    cases tg with
    | slot i =>
      rw [ckD_slot] at h2
      simp only [Bool.and_eq_true, decide_eq_true_eq] at h2
      obtain ⟨f1, f2⟩ := o.fnx y h2.2
      have gk : ∀ {te : TE} {D : Ends} {σ : L2.St} {H : Hp}, tAsg te (tGS X.K call (.slot i)) D σ H → (∀ σ H Q Q', (∀ v H', Q v H' → Q' v H') → te σ H Q → te σ H Q') → tAsg te (gName i) D σ H := by
        intro te D σ H q mono
        refine mono σ H _ _ ?_ q
        rintro u H' ⟨ρ, h, d, env, env2, hh, w, er, r, ea, qq⟩
        unfold asgS at ea
        split at ea
        · cases ea
          exact qq _ _ _ Xt.refl w (er.set r)
        · cases ea
      have monoE : ∀ σ H Q Q', (∀ v H', Q v H' → Q' v H') → tE X.K C ca call W e σ H Q → tE X.K C ca call W e σ H Q' := fun σ H Q Q' hq ⟨ρ, hh, env, w, er, p⟩ => ⟨ρ, hh, env, w, er, p.imp hq⟩
      by_cases hc : isComp v = true
      · cases v <;> first | (cases hc; done) | skip
        · rename_i elt gs scope vp
          by_cases hb : (decide (X.env.scope.names.lookup y = some .local) && py.line == vp.line && !(scope.names.any fun (n, k) => n == y && (k == .local || k == .cell))) = true
          · -- stored within the frame
            have hl : X.env.scope.names.lookup y = some .local := by
              simp only [Bool.and_eq_true, decide_eq_true_eq] at hb
              exact hb.1.1
            cases e with
            | lc own tg' it c elt' =>
              obtain ⟨e1, t1, i1, ifs, scope', pos', ex, g1, g2, g3, g4, g5, g6, g7⟩ := lc_parts (snd_all it).1 (snd_all c).1 (snd_all elt').1 o h1
              cases ex
              refine PS.imp (ps_setLc (i := i) o.hc (by rw [o.hN]; exact o.nd) (by rw [o.hN]; exact h2.1) hl (by rw [sw_lc hk.kind, hb]) g1 g2 g3 g4 g5 (plain_set g6 _)) fun D σ H q => ?_
              exact g7 _ _ _ (gk (asg_key q) monoE)
            | _ => cases h1
          · refine PS.imp (ps_set (i := i) (by rw [o.hN]; exact o.nd) (by rw [o.hN]; exact h2.1) f1 pe (by rw [sw_lc hk.kind]; simp only [Bool.not_eq_true] at hb; rw [hb]) f2) fun D σ H q => gk (asg_key q) monoE
        · cases e <;> cases h1
        · cases e <;> cases h1
      · exact PS.imp (ps_set (i := i) (by rw [o.hN]; exact o.nd) (by rw [o.hN]; exact h2.1) f1 pe (sw_off (by simpa using hc) _ _ _) f2) fun D σ H q => gk (asg_key q) monoE
    | _ => cases h2
  · have hn' : isNm t = false := by simpa using hn
    refine PS.imp (ps_asg pe ((tgS_ok o tg).1 t h2) (sw_tgt hn' _ _) ?_ (by rw [each_cons h3]; rfl)) fun D σ H q => asg_key q
    cases t <;> first | rfl | (cases v <;> first | rfl | exact sw_mix h5 | (cases tg <;> cases h2))
end
end Mini
end

section
/-! Mini: further statements (own work). -/
namespace Mini
open PySem PySem.Spec PyProof.Rows L2
section
variable {C : List Cl} {ca : Nat → Addr} {call : Caller} {k : Nat}
/-! ### in place -/
theorem aug_ok {X : Cx} (op : Operator) : ∃ r : R2, OpR X (inplaceOp op) r ∧ ∀ {ρ : List Addr} {H : Hp} {h : List O} {Wc : Value → Option Addr → Hp → Prop} {Q : VK} {u v : V} {x y : D}, Wd X.K ρ h H → RV X.K ρ H u x → RV X.K ρ H v y →
    Post ⟨X.K, C, ca⟩ ρ H (relD X.K) Wc Q (augD op x y h) → r u v H Q := by
  have none' : (∀ x y h, augD op x y h = none) → ∃ r : R2, OpR X (inplaceOp op) r ∧ ∀ {ρ : List Addr} {H : Hp} {h : List O} {Wc : Value → Option Addr → Hp → Prop} {Q : VK} {u v : V} {x y : D}, Wd X.K ρ h H → RV X.K ρ H u x → RV X.K ρ H v y →
      Post ⟨X.K, C, ca⟩ ρ H (relD X.K) Wc Q (augD op x y h) → r u v H Q := fun hn =>
    ⟨fun _ _ _ _ => False, fun _ _ _ _ _ _ _ _ _ _ _ _ q => q.elim, fun w r1 r2 p => by rw [hn] at p; exact p⟩
  have intsOnly : ∀ {x y : D} {h : List O} {r : R D}, op ≠ .Add → augD op x y h = some r → ∃ i j, x = .int i ∧ y = .int j := by
    intro x y h r ho e
    unfold augD at e
    split at e
    · exact ⟨_, _, rfl, rfl⟩
    · split at e
      · exact absurd rfl ho
      · cases e
    · cases e
  cases op with
  | Add =>
    refine ⟨_, iop_add.or iop_ext, ?_⟩
    intro ρ H h Wc Q u v x y w r1 r2 p
    unfold augD at p
    split at p
    · cases r1; cases r2
      exact .inl ⟨_, _, rfl, rfl, post_int w p⟩
    · split at p
      · rename_i xs ys e1 e2
        split at p
        · rename_i hl
          obtain ⟨a, us, rfl, ea, eh, eH, s⟩ := is_lst w r1 e1
          obtain ⟨b, vs, rfl, eb, _, eH', s'⟩ := is_lst w r2 e2
          obtain ⟨x1, w1⟩ := w.write ea eH (s.append s')
          exact .inr ⟨a, b, us, vs, rfl, rfl, eH, eH', by rw [s.len, s'.len, ← lim_eq]; exact hl, p.ok x1 w1 ⟨a, rfl, ea⟩⟩
        · exact p.elim
      · exact p.elim
    · exact p.elim
  | Sub =>
    refine ⟨_, iop_sub, ?_⟩
    intro ρ H h Wc Q u v x y w r1 r2 p
    cases e : augD .Sub x y h with
    | none => rw [e] at p; exact p.elim
    | some r =>
      obtain ⟨i, j, rfl, rfl⟩ := intsOnly (by decide) e
      cases r1; cases r2
      exact ⟨_, _, rfl, rfl, post_int w p⟩
  | Mult =>
    refine ⟨_, iop_mul, ?_⟩
    intro ρ H h Wc Q u v x y w r1 r2 p
    cases e : augD .Mult x y h with
    | none => rw [e] at p; exact p.elim
    | some r =>
      obtain ⟨i, j, rfl, rfl⟩ := intsOnly (by decide) e
      cases r1; cases r2
      change Post _ _ _ _ _ _ (if decide (i.natAbs < 2 ^ 64) || decide (j.natAbs < 2 ^ 64) then okI (i * j) h else none) at p
      split at p
      · rename_i hb
        simp only [Bool.or_eq_true, decide_eq_true_eq] at hb
        refine ⟨_, _, rfl, rfl, ?_, post_int w p⟩
        rcases hb with hb | hb
        · exact .inl (by omega)
        · exact .inr (by omega)
      · exact p.elim
  | Mod =>
    refine ⟨_, iop_mod, ?_⟩
    intro ρ H h Wc Q u v x y w r1 r2 p
    cases e : augD .Mod x y h with
    | none => rw [e] at p; exact p.elim
    | some r =>
      obtain ⟨i, j, rfl, rfl⟩ := intsOnly (by decide) e
      cases r1; cases r2
      change Post _ _ _ _ _ _ (if 0 < j then okI (i % j) h else none) at p
      split at p
      · rename_i hb
        exact ⟨_, _, rfl, rfl, hb, post_int w p⟩
      · exact p.elim
  | _ =>
    refine none' fun x y h => ?_
    unfold augD
    split
    · rfl
    · rfl
    · rfl
theorem inv_aug {Γ : Gm} {i : Nat} {op : Operator} {e : E} {x : PySem.Stmt} (h : ckS (.aug i op e) Γ x = true) : ∃ y py v p, x = .AugAssign (.Name y py) op v p ∧ Γ.N[i]? = some y ∧ locS Γ.ts y = true ∧ ckE e Γ v = true := by
  cases x <;> first | (cases h; done) | skip
  rename_i t op' v p
  cases t <;> first | (cases h; done) | skip
  rename_i y py
  have h' : (decide (op = op') && decide (Γ.N[i]? = some y) && locS Γ.ts y && ckE e Γ v) = true := h
  simp only [Bool.and_eq_true, decide_eq_true_eq] at h'
  obtain ⟨⟨⟨rfl, h2⟩, h3⟩, h4⟩ := h'
  exact ⟨y, py, v, p, rfl, h2, h3, h4⟩
theorem snd_aug {i : Nat} {op : Operator} {e : E} : SndS C ca call k (.aug i op e) := by
  refine ⟨fun Γ X W x o po hk h => ?_, fun Γ X W x _ _ _ h => ff h (by cases x <;> rfl)⟩
  obtain ⟨y, py, v, p, rfl, h2, h3, h4⟩ := inv_aug h
  obtain ⟨f1, f2⟩ := o.fnx y h3
  obtain ⟨r, hr, hr2⟩ := aug_ok (X := X) (C := C) (ca := ca) op
  have hp : PIp X op r := hr
  refine PS.imp (ps_aug (i := i) (by rw [o.hN]; exact o.nd) (by rw [o.hN]; exact h2) f1 ((snd_all e).1.e Γ X W v o h4) hp f2) ?_
  rintro D σ H ⟨ρ, hh, env, w, er, p⟩
  unfold exec at p
  split at p
  · rename_i d ed
    obtain ⟨u, e1, ru⟩ := er.at' i d ed
    refine ⟨u, e1, ρ, hh, env, w, er, PostS.bns Xt.refl w er p fun y h1 ρ1 H1 v1 p1 y1 z1 w1 er1 r1 => ?_⟩
    refine hr2 w1 (w.rv z1 ru) r1 (PostS.bns z1 w1 er1 p1 fun z h2 ρ2 H2 v2 p2 y2 z2 w2 er2 r2 => ?_)
    exact p2 ρ2 H2 _ z2 w2 (er2.set r2)
  · exact p.elim
theorem inv_ex {Γ : Gm} {e : E} {x : PySem.Stmt} (h : ckS (.ex e) Γ x = true) : ∃ v p, x = .Expr v p ∧ ckE e Γ v = true ∧ isComp v = false := by
  cases x <;> first | (cases h; done) | skip
  rename_i v p
  have h' : (ckE e Γ v && !isComp v) = true := h
  simp only [Bool.and_eq_true, Bool.not_eq_true'] at h'
  exact ⟨v, p, rfl, h'⟩
theorem snd_ex {e : E} : SndS C ca call k (.ex e) := by
  refine ⟨fun Γ X W x o po hk h => ?_, fun Γ X W x _ _ _ h => ff h (by cases x <;> rfl)⟩
  obtain ⟨v, p, rfl, h1, h2⟩ := inv_ex h
  refine PS.imp (ps_expr ((snd_all e).1.e Γ X W v o h1) (sw_off h2 _ _ _)) ?_
  rintro D σ H ⟨ρ, hh, env, w, er, p⟩
  refine ⟨ρ, hh, env, w, er, PostS.bns Xt.refl w er p fun y h1 ρ1 H1 v1 p1 y1 z1 w1 er1 r1 => ?_⟩
  exact p1 ρ1 H1 σ z1 w1 er1
theorem inv_ret {Γ : Gm} {e : E} {x : PySem.Stmt} (h : ckS (.ret e) Γ x = true) : ∃ v p, x = .Return (some v) p ∧ ckE e Γ v = true := by
  cases x <;> first | (cases h; done) | skip
  rename_i v p
  cases v with
  | none => cases h
  | some v => exact ⟨v, p, rfl, h⟩
theorem snd_ret {e : E} : SndS C ca call k (.ret e) := by
  refine ⟨fun Γ X W x o po hk h => ?_, fun Γ X W x _ _ _ h => ff h (by cases x <;> rfl)⟩
  obtain ⟨v, p, rfl, h1⟩ := inv_ret h
  refine PS.imp (ps_ret ((snd_all e).1.e Γ X W v o h1)) ?_
  rintro D σ H ⟨ρ, hh, env, w, er, p⟩
  refine ⟨ρ, hh, env, w, er, PostS.bns Xt.refl w er p fun y h1 ρ1 H1 v1 p1 y1 z1 w1 er1 r1 => ?_⟩
  exact p1 ρ1 H1 v1 z1 w1 r1
theorem snd_retN : SndS C ca call k .retN := by
  refine ⟨fun Γ X W x o po hk h => ?_, fun Γ X W x _ _ _ h => ff h (by cases x <;> rfl)⟩
  have e : ∃ p, x = .Return none p := by
    cases x <;> first | (cases h; done) | skip
    rename_i v p
    cases v with
    | none => exact ⟨p, rfl⟩
    | some v => cases h
  obtain ⟨p, rfl⟩ := e
  refine PS.imp ps_retN ?_
  rintro D σ H ⟨ρ, hh, env, w, er, p⟩
  exact p ρ H .non Xt.refl w rfl
theorem snd_brk : SndS C ca call k .brk := by
  refine ⟨fun Γ X W x o po hk h => ?_, fun Γ X W x _ _ _ h => ff h (by cases x <;> rfl)⟩
  have e : ∃ p, x = .Break p := by
    cases x <;> first | (cases h; done) | exact ⟨_, rfl⟩
  obtain ⟨p, rfl⟩ := e
  refine PS.imp ps_break ?_
  rintro D σ H ⟨ρ, hh, env, w, er, p⟩
  exact p ρ H σ Xt.refl w er
theorem snd_cnt : SndS C ca call k .cnt := by
  refine ⟨fun Γ X W x o po hk h => ?_, fun Γ X W x _ _ _ h => ff h (by cases x <;> rfl)⟩
  have e : ∃ p, x = .Continue p := by
    cases x <;> first | (cases h; done) | exact ⟨_, rfl⟩
  obtain ⟨p, rfl⟩ := e
  refine PS.imp ps_continue ?_
  rintro D σ H ⟨ρ, hh, env, w, er, p⟩
  exact p ρ H σ Xt.refl w er
theorem snd_nilS : SndS C ca call k .nil := by
  refine ⟨fun Γ X W x o po hk h => ?_, fun Γ X W x o po hk h => ?_⟩
  · have e : ∃ p, x = .Pass p := by
      cases x <;> first | (cases h; done) | exact ⟨_, rfl⟩
    obtain ⟨p, rfl⟩ := e
    refine PS.imp ps_pass ?_
    rintro D σ H ⟨ρ, hh, env, w, er, p⟩
    exact p ρ H σ Xt.refl w er
  · cases x with
    | nil =>
      refine PSs.imp pss_nil ?_
      rintro D σ H ⟨ρ, hh, env, w, er, p⟩
      exact p ρ H σ Xt.refl w er
    | cons _ _ => cases h
theorem snd_seq {a b : S} (iha : SndS C ca call k a) (ihb : SndS C ca call k b) : SndS C ca call k (.seq a b) := by
  refine ⟨fun Γ X W x o po hk h => ff h (by cases x <;> rfl), fun Γ X W x o po hk h => ?_⟩
  cases x with
  | nil => cases h
  | cons t ts =>
    have h' : (ckS a Γ t && ckSs b Γ ts) = true := h
    simp only [Bool.and_eq_true] at h'
    refine PSs.imp (pss_cons (iha.s Γ X W t o po hk h'.1) (ihb.ss Γ X W ts o po hk h'.2)) ?_
    rintro D σ H ⟨ρ, hh, env, w, er, p⟩
    refine ⟨ρ, hh, env, w, er, ?_⟩
    unfold exec at p
    cases ea : exec call C a env hh with
    | none => rw [ea] at p; exact p.elim
    | some r =>
      rw [ea] at p
      cases r with
      | exc c fs e h' => exact p
      | fl f h' =>
        cases f with
        | nx e => exact fun ρ' H' σ' x' w' er' => ⟨ρ', h', e, w', er', PostS.fwd x' p⟩
        | bk e => exact p
        | ct e => exact p
        | rt d => exact p
theorem inv_ite {Γ : Gm} {c : E} {a b : S} {x : PySem.Stmt} (h : ckS (.ite c a b) Γ x = true) : ∃ c' a' b' p, x = .If c' a' b' p ∧ ckT c Γ c' = true ∧ ckSs a Γ a' = true ∧ ckSs b Γ b' = true := by
  cases x <;> first | (cases h; done) | skip
  rename_i c' a' b' p
  have h' : (ckT c Γ c' && ckSs a Γ a' && ckSs b Γ b') = true := h
  simp only [Bool.and_eq_true] at h'
  exact ⟨c', a', b', p, rfl, h'.1.1, h'.1.2, h'.2⟩
theorem snd_ite {c : E} {a b : S} (iha : SndS C ca call k a) (ihb : SndS C ca call k b) : SndS C ca call k (.ite c a b) := by
  refine ⟨fun Γ X W x o po hk h => ?_, fun Γ X W x _ _ _ h => ff h (by cases x <;> rfl)⟩
  obtain ⟨c', a', b', p, rfl, h1, h2, h3⟩ := inv_ite h
  refine PS.imp (ps_if ((snd_all c).1.t Γ X W c' o h1).1 (iha.ss Γ X W a' o po hk h2) (ihb.ss Γ X W b' o po hk h3)) ?_
  rintro D σ H ⟨ρ, hh, env, w, er, p⟩
  refine ⟨ρ, hh, env, w, er, PostS.bns Xt.refl w er p fun y h1 ρ1 H1 v1 p1 y1 z1 w1 er1 r1 => ?_⟩
  have r1' : v1 = y := r1
  subst r1'
  cases v1 with
  | true =>
    rw [if_pos rfl] at p1 ⊢
    exact ⟨ρ1, h1, env, w1, er1, p1.fwd z1⟩
  | false =>
    rw [if_neg (by decide)] at p1 ⊢
    exact ⟨ρ1, h1, env, w1, er1, p1.fwd z1⟩
theorem inv_for {Γ : Gm} {tg it : E} {b : S} {x : PySem.Stmt} (h : ckS (.for tg it b) Γ x = true) : ∃ t i b' p, x = .For t i b' [] p ∧ ckG Γ tg t = true ∧ ckI it Γ t i = true ∧ plainX i = true ∧ ckSs b Γ b' = true := by
  cases x <;> first | (cases h; done) | skip
  rename_i t i b' els p
  cases els with
  | cons _ _ => cases h
  | nil =>
    have h' : (ckG Γ tg t && ckI it Γ t i && plainX i && ckSs b Γ b') = true := h
    simp only [Bool.and_eq_true] at h'
    exact ⟨t, i, b', p, rfl, h'.1.1.1, h'.1.1.2, h'.1.2, h'.2⟩
theorem snd_for {tg it : E} {b : S} (ihb : SndS C ca call k b) : SndS C ca call k (.for tg it b) := by
  refine ⟨fun Γ X W x o po hk h => ?_, fun Γ X W x _ _ _ h => ff h (by cases x <;> rfl)⟩
  obtain ⟨t, i, b', p, rfl, h1, h2, h3, h4⟩ := inv_for h
  refine PS.imp (ps_for po o.hc ((snd_all it).1.i Γ X W t i o h2) ((tg_ok o tg).1 t h1) (ihb.ss Γ X W b' o po hk h4) (plain_set h3 _)) ?_
  rintro D σ H ⟨ρ, hh, env, w, er, p⟩
  refine ⟨ρ, hh, env, w, er, PostS.bns Xt.refl w er p fun pp h1 ρ1 H1 J p1 y1 z1 w1 er1 hJ => ?_⟩
  generalize hF : (fun (x : Mini.D) (env : Mini.Env) (h : List O) => match asgT tg x env with
    | some env2 => exec call C b env2 h
    | none => none) = F at p1
  refine ⟨fun i m σc Hc => m = pp.1.length - i ∧ i ≤ pp.1.length ∧ ∃ ρc hc envc, Xt ρ1 H1 ρc Hc ∧ Wd X.K ρc hc Hc ∧ EnvR X.K ρc Hc σc envc ∧ PostS X.K C ca W ρ H D (forGo pp.2 F (pp.1.drop i) envc hc),
    ⟨pp.1.length, by simp, Nat.zero_le _, ρ1, h1, env, Xt.refl, w1, er1, p1⟩, ?_⟩
  rintro i m σc Hc ⟨rfl, hi, ρc, hc, envc, xc, wc, ec, pc⟩
  have z : Xt ρ H ρc Hc := z1.trans xc
  by_cases hlt : i < pp.1.length
  · right
    have hx : pp.1[i]? = some pp.1[i] := List.getElem?_eq_getElem hlt
    rw [List.drop_eq_getElem_cons hlt] at pc
    unfold forGo at pc
    by_cases hk' : chk pp.2 hc = true
    · rw [if_pos hk'] at pc
      obtain ⟨hgo, _⟩ := hJ ρc hc Hc xc wc hk'
      obtain ⟨hgo, hy⟩ := hgo i _ hx
      refine ⟨hgo, fun σ' H' => ∃ ρc hc envc, Xt ρ1 H1 ρc H' ∧ Wd X.K ρc hc H' ∧ EnvR X.K ρc H' σ' envc ∧ PostS X.K C ca W ρ H D (forGo pp.2 F (pp.1.drop (i + 1)) envc hc), fun σ' H' q => ⟨pp.1.length - (i + 1), by omega, rfl, hlt, q⟩, fun v H' yl => ?_⟩
      obtain ⟨xy, wy, rv⟩ := hy v H' yl
      have er' := ec.fwd wc xy
      cases ea : asgT tg pp.1[i] envc with
      | none =>
        rw [← hF] at pc
        dsimp only at pc
        rw [ea] at pc
        exact pc.elim
      | some env2 =>
        refine ⟨ρc, hc, pp.1[i], envc, env2, wy, er', rv, ea, fun σ2 er2 hw => ?_⟩
        have eF : F pp.1[i] envc hc = exec call C b env2 hc := by
          rw [← hF]
          dsimp only
          rw [ea]
        rw [eF] at pc
        refine ⟨ρc, hc, env2, wy, er2, ?_⟩
        have zy : Xt ρ1 H1 ρc H' := xc.trans xy
        cases eb : exec call C b env2 hc with
        | none => rw [eb] at pc; exact pc.elim
        | some r =>
          rw [eb] at pc
          cases r with
          | exc c0 fs e h' => exact fun ρ2 H2 σ2 dd fl x2 w2 e2 q1 q2 => pc ρ2 H2 σ2 dd fl ((z.trans xy).trans x2) w2 e2 q1 q2
          | fl f h' =>
            cases f with
            | nx e => exact fun ρ2 H2 σ2 x2 w2 e2 => ⟨ρ2, h', e, zy.trans x2, w2, e2, pc⟩
            | ct e => exact fun ρ2 H2 σ2 x2 w2 e2 => ⟨ρ2, h', e, zy.trans x2, w2, e2, pc⟩
            | bk e => exact fun ρ2 H2 σ2 x2 w2 e2 => pc ρ2 H2 σ2 ((z.trans xy).trans x2) w2 e2
            | rt d => exact fun ρ2 H2 v2 x2 w2 r2 => pc ρ2 H2 v2 ((z.trans xy).trans x2) w2 r2
    · rw [if_neg hk'] at pc
      exact pc.elim
  · left
    have hi' : i = pp.1.length := by omega
    subst hi'
    rw [List.drop_length] at pc
    unfold forGo at pc
    by_cases hk' : chk pp.2 hc = true
    · rw [if_pos hk'] at pc
      exact ⟨(hJ ρc hc Hc xc wc hk').2, pc ρc Hc σc z wc ec⟩
    · rw [if_neg hk'] at pc
      exact pc.elim
theorem inv_while {Γ : Gm} {c : E} {b : S} {x : PySem.Stmt} (h : ckS (.while c b) Γ x = true) : ∃ c' b' p, x = .While c' b' [] p ∧ ckT c Γ c' = true ∧ ckSs b Γ b' = true := by
  cases x <;> first | (cases h; done) | skip
  rename_i c' b' els p
  cases els with
  | cons _ _ => cases h
  | nil =>
    have h' : (ckT c Γ c' && ckSs b Γ b') = true := h
    simp only [Bool.and_eq_true] at h'
    exact ⟨c', b', p, rfl, h'.1, h'.2⟩
theorem snd_while {c : E} {b : S} (ihb : SndS C ca call k b) : SndS C ca call k (.while c b) := by
  refine ⟨fun Γ X W x o po hk h => ?_, fun Γ X W x _ _ _ h => ff h (by cases x <;> rfl)⟩
  obtain ⟨c', b', p, rfl, h1, h2⟩ := inv_while h
  refine PS.imp (ps_while po ((snd_all c).1.t Γ X W c' o h1).1 (ihb.ss Γ X W b' o po hk h2)) ?_
  rintro D σ H ⟨ρ, hh, env, w, er, p⟩
  unfold exec at p
  generalize wFuel = N at p
  refine ⟨fun m σc Hc => ∃ ρc hc envc, Xt ρ H ρc Hc ∧ Wd X.K ρc hc Hc ∧ EnvR X.K ρc Hc σc envc ∧ PostS X.K C ca W ρ H D (whileGo (fun env h => evt call c env h) (fun env h => exec call C b env h) m envc hc), ⟨N, ρ, hh, env, Xt.refl, w, er, p⟩, ?_⟩
  rintro m σc Hc ⟨ρc, hc, envc, xc, wc, ec, pc⟩
  cases m with
  | zero => exact pc.elim
  | succ m =>
    unfold whileGo at pc
    refine ⟨ρc, hc, envc, wc, ec, PostS.bns xc wc ec pc fun y h1 ρ1 H1 v1 p1 y1 z1 w1 er1 r1 => ?_⟩
    have r1' : v1 = y := r1
    subst r1'
    cases v1 with
    | false =>
      rw [if_neg (by decide)] at p1 ⊢
      exact p1 ρ1 H1 σc z1 w1 er1
    | true =>
      rw [if_pos rfl] at p1 ⊢
      refine ⟨fun σ' H' => ∃ ρc hc envc, Xt ρ H ρc H' ∧ Wd X.K ρc hc H' ∧ EnvR X.K ρc H' σ' envc ∧ PostS X.K C ca W ρ H D (whileGo (fun env h => evt call c env h) (fun env h => exec call C b env h) m envc hc), fun σ' H' q => ⟨m, Nat.lt_succ_self m, q⟩, ρ1, h1, envc, w1, er1, ?_⟩
      cases eb : exec call C b envc h1 with
      | none => rw [eb] at p1; exact p1.elim
      | some r =>
        rw [eb] at p1
        cases r with
        | exc c0 fs e h' => exact fun ρ2 H2 σ2 dd fl x2 w2 e2 q1 q2 => p1 ρ2 H2 σ2 dd fl (z1.trans x2) w2 e2 q1 q2
        | fl f h' =>
          cases f with
          | nx e => exact fun ρ2 H2 σ2 x2 w2 e2 => ⟨ρ2, h', e, z1.trans x2, w2, e2, p1⟩
          | ct e => exact fun ρ2 H2 σ2 x2 w2 e2 => ⟨ρ2, h', e, z1.trans x2, w2, e2, p1⟩
          | bk e => exact fun ρ2 H2 σ2 x2 w2 e2 => p1 ρ2 H2 σ2 (z1.trans x2) w2 e2
          | rt d => exact fun ρ2 H2 v2 x2 w2 r2 => p1 ρ2 H2 v2 (z1.trans x2) w2 r2
end
end Mini
end

section
/-! Mini: an own exception whose __init__ says super().__init__(..) and stores its arguments (own work). -/
namespace Mini
open PySem PySem.Spec PyProof.Rows L2

section
variable {X : Cx} {σ : L2.St} {H : Hp} {s : Shared} {f cc D cda a C : Addr} {qual x0 : Str} {scope : Scope} {L : Addr} {body : List PySem.Stmt} {e : PySem.Expr} {es : List PySem.Expr} {ta : TA} {p0 p1 p2 p3 p4 : Pos} {of : Obj} {fd : FuncData} {ar : Arg} {E : Value → Shared → Prop}
/-- super().__init__(..), nothing raised -/
theorem super_stmt {pl : Sem Bool} (T : InitIn X.prog X.K f cc D cda qual) (TC : InitC X.K C D) (he : X.env = PySem.W.envX qual scope L f (.ref cda) [("__class__", cc)]) (hks : scope.names.lookup ("super" : Str) = some .globalImplicit) (hkc : scope.names.lookup ("__class__" : Str) = some .free)
    (hf : X.K.lookup f = some of) (hfd : of.data = .func fd) (hp : (fd.params.posonlyargs ++ fd.params.args).head? = some ar) (hN : X.N[0]? = some ar.arg) (hka : scope.names.lookup ar.arg = some .local) (hσ : σ[0]? = some (some (.ref a)))
    (I : Inv X [] σ H s) (ea : H a = some (exo a C none)) (ha : PA X (e :: es) ta) (hta : ta σ H fun vs H1 => H1 = H ∧ vs.length ≤ 1000) (hst : starEach (e :: es) X.env = (false, eval e X.env) :: starEach es X.env) (hpl : (backTo p3 (starEach es X.env)).any (·.1) = false)
    (hev : eval (.Call (.Attribute (.Call (.Name "super" p0) [] [] p1) "__init__" p2) (e :: es) [] p3) X.env = (do
      let ov ← attributeBase (.Call (.Name "super" p0) [] [] p1) "__init__" X.env (eval (.Call (.Name "super" p0) [] [] p1) X.env)
      standAt p2.atName
      let (f, first) ← holding [ov] (getMethod ov "__init__" pl)
      callWith p3 f first (backTo p3 (starEach (e :: es) X.env)) [])) :
    PySem.wpAt (model X.prog X.w) X.A (.func body X.env) (PySem.exec (PySem.Stmt.Expr (.Call (.Attribute (.Call (.Name "super" p0) [] [] p1) "__init__" p2) (e :: es) [] p3) p4) X.env) (fun fl s' => fl = PySem.Flow.next ∧ Inv X [] σ H s') X.xe s := by
  obtain ⟨occ, odc, slc, hcell⟩ := T.cell
  obtain ⟨cdD, hD⟩ := T.dcls
  obtain ⟨ccl, ccd, ccs, vs, file, tf, hcode, hvs, hfile⟩ := T.code
  have KX := I.kIn
  have hkind : ∀ y, X.env.kindOf y = scope.names.lookup y := fun y => by rw [he]; rfl
  refine PySem.ks_wpAt_Expr_any ?_ I.quiet rfl
  refine PySem.ks_wpAt_MethodCall (pl := pl) ?_ hev
  -- the super object
  obtain ⟨oD, hD1, hD2⟩ : ∃ oD, s.heap.get? D = some oD ∧ oD.data = .cls cdD := by
    unfold PySem.W.clsIn at hD
    split at hD
    · rename_i c d cd' sl ho
      cases hD
      exact ⟨_, KX _ _ ho, rfl⟩
    · cases hD
  obtain ⟨t1, hx⟩ := exo_at I.hok ea
  obtain ⟨mb, hmb, hbt⟩ := I.mod.blt
  obtain ⟨m, hm, hl⟩ := I.loc
  obtain ⟨u, ru, lu⟩ := hl 0 ar.arg _ hN hσ (.inl (by rw [he]; exact hka))
  have ru' : u = .ref a := ru
  subst ru'
  have hma : m ar.arg = some (.ref a) := by
    rcases lu with ⟨_, e1⟩ | ⟨e1, _⟩
    · exact e1
    · rw [hkind, hka] at e1
      rcases e1 with e1 | e1 <;> cases e1
  have hlc : X.env.cells.lookup ("__class__" : Str) = some cc := by rw [he]; rfl
  refine PySem.ks_wpAt_super_base (by rw [hkind]; exact hks) (by rw [hkind]; exact hkc) (by decide) (by rw [he]) (KX _ _ hf) hfd hp (by rw [he]) (KX _ _ hcode) rfl hvs hfile T.top ?_
  refine PySem.W.ks_loadName_global I.ok.kind (by rw [hkind]; exact hks) (Calls.loadGlobal_builtin (by rw [I.ok.glob]; exact I.mod.glob.keeps I.bk) (PySem.W.mg_none_of KX (I.mod.glob.keeps I.bk) T.sup) (by rw [I.ok.blt]; exact hmb.keeps I.bk) ((hbt _ (by decide +kernel)).trans (by decide +kernel : bootBuiltins "super" = some (.type "super"))) ⟨rfl, ?_⟩)
  refine wpAny_loadName_free I.ok.kind (by rw [hkind]; exact hkc) hlc ⟨_, KX _ _ hcell, rfl⟩ ?_
  refine wpAny_loadName_local I.ok.kind (by rw [hkind]; exact hka) hm hma ?_
  obtain ⟨hh, g, d, t, os⟩ := s
  refine PySem.ks_wpAny_isType_cls hD1 hD2 ⟨rfl, ?_⟩
  have hsub : PySem.W.Looks (model X.prog X.w) hh (isSubtype (.ref C) (.ref D)) true := PySem.W.looks_mroIn KX TC.sub
  refine PySem.ks_wpAny_call_super hD1 hD2 hx rfl (fun c z => by cases z) hsub (fun h1 e1 k1 => ?_)
  -- its __init__, bound
  have I1 : Inv X [] σ H ⟨h1, g, d, t, os⟩ := I.kept (t' := t) (h' := h1) k1
  have KX1 : X.K.In h1 := I1.kIn
  obtain ⟨t2, hx1⟩ := exo_at I1.hok ea
  have Ia : PySem.W.InstAt h1 a { cls := .ref C, dict := none, data := .fields #[.ref t2, .none, .none, .none, .bool false, .none] } C none := ⟨hx1, rfl, rfl, trivial⟩
  have hI : PySem.W.Looks (model X.prog X.w) h1 (isInstance (.ref a) (.type "ValueError")) true := Ia.type.andThen (PySem.W.looks_subIn KX1 TC.ve)
  obtain ⟨cdC, hC, hchain⟩ : ∃ cd, PySem.W.clsIn X.K C = some cd ∧ PySem.W.alongIn X.K "__init__" ((cd.mro.dropWhile (· != .ref D)).drop 1) = some (some (.builtin "ValueError.__init__")) := by
    have q := TC.chain
    unfold PySem.W.ks_superIn at q
    cases z : PySem.W.clsIn X.K C with
    | none => rw [z] at q; cases q
    | some cd => rw [z] at q; exact ⟨cd, rfl, q⟩
  have hmro : PySem.W.Looks (model X.prog X.w) h1 (mroOf (.ref C)) cdC.mro := fun A Q E s k q => wpAny_bind ((PySem.W.looks_clsIn KX1 hC) A _ E s k (wpAny_pure q))
  refine PySem.W.kxs_getMethod PySem.W.kxs_ValueError e1 (PySem.W.looks_opaque KX1 T.third) hmro rfl KX1 hchain hI (PySem.W.ks_ne KX1 Ia hC) (by decide) ?_
  -- the call
  have hmw : (h1.push (PySem.W.kxs_mw "ValueError.__init__" a)).get? h1.objs.size = some (PySem.W.kxs_mw "ValueError.__init__" a) := Heap.get?_push_at rfl rfl
  have I2 : Inv X [] σ H ⟨h1.push (PySem.W.kxs_mw "ValueError.__init__" a), g, d, t + 1, os⟩ := I1.kept (t' := t + 1) fun b o z => Heap.get?_push_of_some _ z
  have nh : H h1.objs.size = none := I1.hok.fresh (Nat.le_refl _)
  have hns : ∀ s', Inv X [(h1.objs.size, PySem.W.kxs_mw "ValueError.__init__" a)] σ H s' → s'.heap.get? h1.objs.size = some (PySem.W.kxs_mw "ValueError.__init__" a) := fun s' J => (J.pin _ (List.mem_append_right _ List.mem_cons_self)).1
  have I3 : Inv X [(h1.objs.size, PySem.W.kxs_mw "ValueError.__init__" a)] σ H ⟨h1.push (PySem.W.kxs_mw "ValueError.__init__" a), g, d, t + 1, os⟩ := I2.pins_of fun p hp => by
    have ep : p = (h1.objs.size, PySem.W.kxs_mw "ValueError.__init__" a) := by simpa using hp
    subst ep
    refine ⟨hmw, nh, ?_, I1.nofs (Nat.le_refl _), fun v z => by cases z⟩
    have := I1.lt
    exact fun z => absurd (show h1.objs.size < h1.objs.size from by rw [← z] at this; exact this) (Nat.lt_irrefl _)
  show wpAny _ _ (callWith p3 (.ref h1.objs.size) [] (backTo p3 (starEach (e :: es) X.env)) []) _ _ _
  rw [hst]
  refine PySem.W.kxs_callWith (i := "ValueError.__init__") (x := a) (by show (false || (backTo p3 (starEach es X.env)).any (·.1)) = false; rw [hpl]; rfl) ?_
  refine Calls.evalArgs_plain ?_
  have hA := ha.run p3 [(h1.objs.size, PySem.W.kxs_mw "ValueError.__init__" a)] _ σ H _ I3 hta
  rw [hst] at hA
  refine thn hA fun us s4 hq => ?_
  obtain ⟨ws, H4, I4, rv, rfl, hlen⟩ := hq
  refine ⟨hns s4 I4, ?_⟩
  show wpAny _ _ (call (.ref h1.objs.size) us) _ _ _
  have hu := hns s4 I4
  obtain ⟨t4, hx4⟩ := exo_at I4.hok ea
  obtain ⟨nm, q, N, bs, bm, sn, sub, ab, col, dd, k0, k1', k2, k3, k5, hCl, hbm⟩ := TC.T.cls
  have KX4 : X.K.In s4.heap := I4.kIn
  obtain ⟨h4, g4, d4, tk4, os4⟩ := s4
  have hz : us.length ≤ sizeLine := by
    rw [← Paired.length rv, sizeLine_eq]; omega
  refine wpAny_call (codeAny_of_tree ?_)
  show wpAny _ X.A.in1 (callAny (.ref h1.objs.size) ⟨us, []⟩) _ _ _
  simp only [callAny]
  refine wpAny_bind (wpAny_load hu ?_)
  simp only [PySem.W.kxs_mw, show (Value.type "method-wrapper" == Value.type "method" || Value.type "method-wrapper" == Value.type "builtin_function_or_method" || Value.type "method-wrapper" == Value.type "method-wrapper") = true by decide, if_true]
  refine PySem.W.KFB.if_so (by decide) ?_
  refine wpAny_bind (PySem.W.check_bound_init PySem.F.excBase_ValueError.toExcCallFacts (KX4 _ _ hCl) hx4 rfl ?_)
  refine wpAny_bind (wpAny_pure (wpAny_pure ?_))
  refine ⟨plainId_quiet PySem.F.excBase_ValueError.init.plain _, codeAny_builtin PySem.F.excBase_ValueError.initEntry ?_⟩
  refine PySem.W.exc_init_tree (cls := .ref C) (t0 := t4) (dv := none) (c2 := .none) (c3 := .none) (b4 := .bool false) hx4 hz fun h5 k5' e5 _ => ?_
  have J := I4.write (t' := tk4) (x := a) (e := a) (o := exo a C none) (by rw [ea]; exact True.intro) (.inl rfl) k5' ⟨_, e5⟩ (exo_ok e5)
  have eu : L2.upd H4 a (exo a C none) = H4 := by
    funext b
    by_cases hb : b = a
    · rw [hb, upd_same, ea]
    · rw [upd_ne hb]
  rw [eu] at J
  exact ⟨trivial, J.pins_of fun p hp => by cases hp⟩
end
end Mini
end

section
/-! Mini: the __init__ of an own exception as a promise; what is made of it (own work). -/
namespace Mini
open PySem PySem.Spec PyProof.Rows L2

/-- the context of the body of an __init__ -/
def cxI (P : Program) (w : World) (K : PySem.W.Frag) (mg : Str → Option Value) (base : Heap) (N : List Str) (qual : Str) (scope : Scope) (f cda cc : Addr) (A : Around) (outer : List PySem.Env) (s : Shared) (H : Hp) (E : XK) : Cx where
  prog := P
  w := w
  K := K
  mg := mg
  base := base
  A := A.deeper (PySem.W.envX qual scope s.heap.objs.size f (.ref cda) [("__class__", cc)])
  N := N
  s_0 := s
  H_0 := H
  env := PySem.W.envX qual scope s.heap.objs.size f (.ref cda) [("__class__", cc)]
  outer := outer
  stack := PySem.W.envX qual scope s.heap.objs.size f (.ref cda) [("__class__", cc)] :: outer
  ex := []
  calm := true
  fn := fun _ => false
  pn := []
  xe := fun e s' => wpAny (model P w) (A.deeper (PySem.W.envX qual scope s.heap.objs.size f (.ref cda) [("__class__", cc)])) (leaving (PySem.W.envX qual scope s.heap.objs.size f (.ref cda) [("__class__", cc)]) e) (fun _ s'' => L2.CX P w outer H s E e s'') (fun e' s'' => L2.CX P w outer H s E e' s'') s'

/-- the names of an __init__ -/
structure IScope (N : List Str) (sc : Scope) : Prop where
  kind : sc.kind = .function
  co : sc.isCoroutine = false
  gen : sc.isGenerator = false
  nd : N.Nodup
  loc : ∀ x ∈ N, sc.names.lookup x = some .local
  cell : ∀ y ∈ sc.names, y.2 ≠ .cell
  free : ∀ y ∈ sc.names, y.2 = .free → y.1 = "__class__"
  sup : sc.names.lookup ("super" : Str) = some .globalImplicit
  cls : sc.names.lookup ("__class__" : Str) = some .free

section
variable {P : Program} {w : World} {K : PySem.W.Frag} {mg : Str → Option Value} {base : Heap} {N : List Str} {qual : Str} {scope : Scope} {f cda cc D : Addr} {A : Around} {outer : List PySem.Env} {s : Shared} {H : Hp} {E : XK} {us : List Value} {vs : List V}
theorem zip_look : ∀ {N : List Str} {us : List Value} {i : Nat} {x : Str} {u : Value}, N.Nodup → N[i]? = some x → us[i]? = some u → us.length = N.length → (N.zip us).reverse.lookup x = some u := by
  have key : ∀ {l : List (Str × Value)} {x : Str} {u : Value}, (x, u) ∈ l → (l.map (·.1)).Nodup → l.lookup x = some u := by
    intro l
    induction l with
    | nil => intro x u h; cases h
    | cons p l ih =>
      intro x u h nd
      obtain ⟨y, v⟩ := p
      rw [List.map_cons, List.nodup_cons] at nd
      rcases List.mem_cons.mp h with e | e
      · cases e; simp [List.lookup]
      · have : x ≠ y := by rintro rfl; exact nd.1 (List.mem_map.mpr ⟨_, e, rfl⟩)
        have hb : (x == y) = false := by simpa using this
        simp [List.lookup, hb, ih e nd.2]
  intro N us i x u nd h1 h2 hl
  refine key (List.mem_reverse.mpr ?_) ?_
  · refine List.mem_iff_getElem?.mpr ⟨i, ?_⟩
    rw [List.getElem?_zip_eq_some]
    exact ⟨h1, h2⟩
  · rw [List.map_reverse]; refine List.pairwise_reverse.mpr (List.Pairwise.imp (fun h => Ne.symm h) ?_)
    have : (N.zip us).map (·.1) = N := List.map_fst_zip (by omega)
    rw [this]; exact nd
theorem inv_init (S : IScope N scope) (T : InitIn P K f cc D cda qual) (hd : A.handled = none) (e0 : Env0 P w K mg base A outer s H) (hl : vs.length = N.length) (r : Vals vs us) {h₀ : Heap} {t : Nat}
    (hn : h₀.Ns s.heap.objs.size (fun x => (N.zip us).reverse.lookup x)) (hk : ∀ b o, s.heap.get? b = some o → h₀.get? b = some o) :
    Inv (cxI P w K mg base N qual scope f cda cc A outer s H E) [] (vs.map some) H { s with heap := h₀, toks := t } := by
  obtain ⟨occ, odc, slc, hcell⟩ := T.cell
  have KX : K.In base := e0.mod.kin
  have hcc : base.get? cc = some ⟨occ, odc, .cell (some (.ref D)), slc⟩ := KX _ _ hcell
  have hcs := e0.bs _ _ hcc
  have one : ∀ {x : Str} {c : Addr}, (cxI P w K mg base N qual scope f cda cc A outer s H E).env.cells.lookup x = some c → x = "__class__" ∧ c = cc := by
    intro x c h
    have h' : ([(("__class__" : Str), cc)] : List (Str × Addr)).lookup x = some c := h
    by_cases hx : x = "__class__"
    · subst hx
      simp [List.lookup] at h'
      exact ⟨rfl, h'.symm⟩
    · have hb : (x == ("__class__" : Str)) = false := by simpa using hx
      simp [List.lookup, hb] at h'
  have noA : ∀ b : Addr, b ∉ (cxI P w K mg base N qual scope f cda cc A outer s H E).ex := fun b z => absurd (show b ∈ ([] : List Addr) from z) (by simp)
  have hlu : us.length = N.length := by rw [← r.length]; exact hl
  refine ⟨⟨e0.mod, S.kind, rfl, rfl, Nat.le_refl _, fun y z c h1 h2 => (one h1).1.trans (one h2).1.symm, fun y hy => ?_, fun y c hf _ => ?_, fun _ => hd, Around.frames_deeper e0.frames, .inr ⟨rfl, rfl⟩, fun b z => absurd z (noA b), e0.bs, e0.bsz, fun b _ _ => noA b, fun b z => absurd z (noA b), e0.funs, e0.frf⟩,
    rfl, e0.bare, Un.kept hk, ⟨_, hn, fun i y v h1 h2 h3 => ?_⟩, fun y c h => ?_, e0.hok.fresh (Nat.le_refl _), fun y c h => ?_, fun p hp => absurd (show p ∈ ([] : List (Addr × Obj)) from hp) (by simp), e0.hok.kept hk, ?_⟩
  · have hy : scope.names.lookup y = some .cell ∨ scope.names.lookup y = some .free := hy
    rcases hy with hy | hy
    · exact absurd rfl (S.cell _ (PySem.mem_of_lookup hy))
    · have : y = "__class__" := S.free _ (PySem.mem_of_lookup hy) rfl
      subst this
      exact ⟨cc, rfl⟩
  · cases hf
  · have ha : vs[i]? = some v := by
      rw [List.getElem?_map] at h2
      cases e : vs[i]? with
      | none => rw [e] at h2; cases h2
      | some a => rw [e] at h2; cases h2; rfl
    obtain ⟨u, hu, rv⟩ := r.get ha
    have hi : N[i]? = some y := h1
    exact ⟨u, rv, .inl ⟨S.loc y (List.mem_of_getElem? hi), zip_look S.nd hi hu hlu⟩⟩
  · obtain ⟨_, e⟩ := one h
    subst e
    exact ⟨_, _, hk _ _ hcs.1, rfl⟩
  · obtain ⟨_, e⟩ := one h
    subst e
    exact hcs.2
  · show (vs.map some).length = N.length
    rw [List.length_map]; exact hl
theorem call_form {o : PySem.Expr} {nm : Str} {ap pos : Pos} {es : List PySem.Expr} {env : PySem.Env} (hf : methodCallForm (es.length + ([] : List Keyword).length) (backTo pos (starEach es env)) (backToKw pos (keywordEach [] env)) = true) (hl : (ap.endLine == pos.line) = true) :
    eval (.Call (.Attribute o nm ap) es [] pos) env = (do
      let ov ← attributeBase o nm env (eval o env)
      standAt ap.atName
      let (f, first) ← holding [ov] (getMethod ov nm (do return (← importBound o env).getD true))
      callWith pos f first (backTo pos (starEach es env)) []) := by
  rw [arm_eval_Call]
  unfold methodCall
  have h2 : methodCallPos true o env ap pos = pure pos := by unfold methodCallPos; simp [hl]
  rw [hf, h2]
  rfl
variable {name : Str} {params : Arguments} {dV kV doc pm ct oc : Value} {an od : Option Addr} {osl : Array (Option Value)} {k : Nat} {self x fl : Str} {p0 p1 p2 p3 p4 p5 p6 p7 p8 p9 : Pos} {ar : Arg}
theorem init_fn1 (lk : K.lookup f = some ⟨oc, od, .func (PySem.W.fnX name qual params [.Expr (.Call (.Attribute (.Call (.Name "super" p0) [] [] p1) "__init__" p2) [.Name x p5] [] p3) p4, .Assign [.Attribute (.Name self p6) fl p7] (.Name x p8) p9] scope [("__class__", cc)] dV kV doc pm an (.ref cda) ct), osl⟩)
    (hcd : PySem.W.codeIn K (.ref cda) qual = true) (S : IScope [self, x] scope) (T : InitIn P K f cc D cda qual) (hp : (params.posonlyargs ++ params.args).head? = some ar) (hs : ar.arg = self)
    (hline : (p2.endLine == p3.line) = true) (d1 : (self == ("__debug__" : Str)) = false) (d2 : (x == ("__debug__" : Str)) = false) (d3 : (self == ("__classdict__" : Str)) = false) (d4 : (x == ("__classdict__" : Str)) = false) :
    FnOk P w K mg base (L2.CX P w) (k + 1) f (PySem.W.fnX name qual params [.Expr (.Call (.Attribute (.Call (.Name "super" p0) [] [] p1) "__init__" p2) [.Name x p5] [] p3) p4, .Assign [.Attribute (.Name self p6) fl p7] (.Name x p8) p9] scope [("__class__", cc)] dV kV doc pm an (.ref cda) ct) [self, x] (spN K D [fl]) := by
  refine ⟨fun vs H Q E ⟨a, C, ys, e, l, _⟩ => by rw [e, List.length_cons, l]; rfl, fun A outer s H args us vs Q E hr e0 hb r hsp => ?_⟩
  obtain ⟨a, C, ys, rfl, hly, TC, hnos, ea, hq⟩ := hsp
  obtain ⟨y, rfl⟩ : ∃ y, ys = [y] := by
    match ys, hly with
    | [y], _ => exact ⟨y, rfl⟩
  have hno := hnos fl List.mem_cons_self
  have KX : K.In s.heap := e0.mod.kin.keeps fun b o e => (e0.bs b o e).1
  have lim : s.heap.NoLimit := e0.mod.nolimit.keeps fun b o e => (e0.bs b o e).1
  refine PySem.ks_codeAny_call_defAt hr.depth (KX _ _ lk) rfl lim (PySem.W.codeRec_of KX hcd) rfl hb S.cell (fun z hz => S.loc z.1 (List.of_mem_zip (a := z.1) (b := z.2) hz).1) (fun h₀ hn hk => ?_) S.co S.gen S.kind
  have I : Inv (cxI P w K mg base [self, x] qual scope f cda cc A outer s H E) [] ([V.ref a, y].map some) H { s with heap := h₀, toks := s.toks + ([self, x].zip us).length } := inv_init S T hr.hd e0 rfl r hn hk
  have ls : scope.names.lookup self = some .local := S.loc self List.mem_cons_self
  have lx : scope.names.lookup x = some .local := S.loc x (List.mem_cons_of_mem _ List.mem_cons_self)
  have hself : PE (cxI P w K mg base [self, x] qual scope f cda cc A outer s H E) (.Name self p6) (tVar 0) := pe_var rfl (.inl ls) d1 d3
  have hx : ∀ p, PE (cxI P w K mg base [self, x] qual scope f cda cc A outer s H E) (.Name x p) (tVar 1) := fun p => pe_var rfl (.inl lx) d2 d4
  refine PySem.ks_wpAt_execs_cons ?_
  refine PySem.ks_wpAt_mono (super_stmt (X := cxI P w K mg base [self, x] qual scope f cda cc A outer s H E) (a := a) (C := C) (p0 := p0) (p1 := p1) (p2 := p2) (p3 := p3) (e := .Name x p5) (es := []) T TC rfl S.sup S.cls lk rfl hp (by rw [hs]; rfl) (by rw [hs]; exact ls) rfl I ea (pa_cons (hx p5) pa_nil) ?_ (plain_star rfl _ _) rfl (call_form rfl hline)) (fun fl' s' hf => ?_) fun e s' z => z
  · exact ⟨y, rfl, rfl, by simp⟩
  · obtain ⟨rfl, J⟩ := hf
    refine wpAt_of_wpAny ?_
    have hst := pss_cons (ps_ost (f := fl) (p' := p7) (pos := p9) hself (hx p8)) pss_nil
    refine wpAny_mono (hst.run [] s' _ H { nx := fun _ H' => Q .non H', rt := Q } J ?_) (fun fl s' hs => ?_) fun e s' hs => hs
    · exact ⟨y, rfl, .ref a, rfl, a, C, rfl, TC.T, hno, .inl ⟨ea, hq⟩⟩
    · have fin : ∀ {σ' : L2.St} {H' : Hp} {v : V} {u : Value}, Inv (cxI P w K mg base [self, x] qual scope f cda cc A outer s H E) [] σ' H' s' → RelV v u → Q v H' → CE outer P w H s Q u s' :=
        fun {σ' H' v u} J rv q => ⟨v, H', J.os, J.bare, J.base, J.hok, rv, q⟩
      cases fl with
      | ret u =>
        obtain ⟨v, σ', H', J, rv, q⟩ := hs
        exact fin J rv q
      | next =>
        obtain ⟨σ', H', J, q⟩ := hs
        exact fin (v := V.non) (u := Value.none) J rfl q
      | brk =>
        obtain ⟨_, _, _, q⟩ := hs
        exact False.elim q
      | cont =>
        obtain ⟨_, _, _, q⟩ := hs
        exact False.elim q
theorem init_fn2 {z gl : Str} {q5 q6 q7 q8 q9 : Pos} (lk : K.lookup f = some ⟨oc, od, .func (PySem.W.fnX name qual params [.Expr (.Call (.Attribute (.Call (.Name "super" p0) [] [] p1) "__init__" p2) [.Name x p5, .Name z q5] [] p3) p4, .Assign [.Attribute (.Name self p6) fl p7] (.Name x p8) p9, .Assign [.Attribute (.Name self q6) gl q7] (.Name z q8) q9] scope [("__class__", cc)] dV kV doc pm an (.ref cda) ct), osl⟩)
    (hcd : PySem.W.codeIn K (.ref cda) qual = true) (S : IScope [self, x, z] scope) (T : InitIn P K f cc D cda qual) (hp : (params.posonlyargs ++ params.args).head? = some ar) (hs : ar.arg = self)
    (hline : (p2.endLine == p3.line) = true) (d1 : (self == ("__debug__" : Str)) = false) (d2 : (x == ("__debug__" : Str)) = false) (d3 : (self == ("__classdict__" : Str)) = false) (d4 : (x == ("__classdict__" : Str)) = false) (d5 : (z == ("__debug__" : Str)) = false) (d6 : (z == ("__classdict__" : Str)) = false) :
    FnOk P w K mg base (L2.CX P w) (k + 1) f (PySem.W.fnX name qual params [.Expr (.Call (.Attribute (.Call (.Name "super" p0) [] [] p1) "__init__" p2) [.Name x p5, .Name z q5] [] p3) p4, .Assign [.Attribute (.Name self p6) fl p7] (.Name x p8) p9, .Assign [.Attribute (.Name self q6) gl q7] (.Name z q8) q9] scope [("__class__", cc)] dV kV doc pm an (.ref cda) ct) [self, x, z] (spN K D [fl, gl]) := by
  refine ⟨fun vs H Q E ⟨a, C, ys, e, l, _⟩ => by rw [e, List.length_cons, l]; rfl, fun A outer s H args us vs Q E hr e0 hb r hsp => ?_⟩
  obtain ⟨a, C, ys, rfl, hly, TC, hnos, ea, hq⟩ := hsp
  obtain ⟨y, y2, rfl⟩ : ∃ y y2, ys = [y, y2] := by
    match ys, hly with
    | [y, y2], _ => exact ⟨y, y2, rfl⟩
  have hno := hnos fl List.mem_cons_self
  have hno2 := hnos gl (List.mem_cons_of_mem _ List.mem_cons_self)
  have KX : K.In s.heap := e0.mod.kin.keeps fun b o e => (e0.bs b o e).1
  have lim : s.heap.NoLimit := e0.mod.nolimit.keeps fun b o e => (e0.bs b o e).1
  refine PySem.ks_codeAny_call_defAt hr.depth (KX _ _ lk) rfl lim (PySem.W.codeRec_of KX hcd) rfl hb S.cell (fun zz hz => S.loc zz.1 (List.of_mem_zip (a := zz.1) (b := zz.2) hz).1) (fun h₀ hn hk => ?_) S.co S.gen S.kind
  have I : Inv (cxI P w K mg base [self, x, z] qual scope f cda cc A outer s H E) [] ([V.ref a, y, y2].map some) H { s with heap := h₀, toks := s.toks + ([self, x, z].zip us).length } := inv_init S T hr.hd e0 rfl r hn hk
  have ls : scope.names.lookup self = some .local := S.loc self List.mem_cons_self
  have lx : scope.names.lookup x = some .local := S.loc x (List.mem_cons_of_mem _ List.mem_cons_self)
  have lz : scope.names.lookup z = some .local := S.loc z (List.mem_cons_of_mem _ (List.mem_cons_of_mem _ List.mem_cons_self))
  have hself : ∀ p, PE (cxI P w K mg base [self, x, z] qual scope f cda cc A outer s H E) (.Name self p) (tVar 0) := fun p => pe_var rfl (.inl ls) d1 d3
  have hz : ∀ p, PE (cxI P w K mg base [self, x, z] qual scope f cda cc A outer s H E) (.Name z p) (tVar 2) := fun p => pe_var rfl (.inl lz) d5 d6
  have hx : ∀ p, PE (cxI P w K mg base [self, x, z] qual scope f cda cc A outer s H E) (.Name x p) (tVar 1) := fun p => pe_var rfl (.inl lx) d2 d4
  refine PySem.ks_wpAt_execs_cons ?_
  refine PySem.ks_wpAt_mono (super_stmt (X := cxI P w K mg base [self, x, z] qual scope f cda cc A outer s H E) (a := a) (C := C) (p0 := p0) (p1 := p1) (p2 := p2) (p3 := p3) (e := .Name x p5) (es := [.Name z q5]) T TC rfl S.sup S.cls lk rfl hp (by rw [hs]; rfl) (by rw [hs]; exact ls) rfl I ea (pa_cons (hx p5) (pa_cons (hz q5) pa_nil)) ?_ (plain_star rfl _ _) rfl (call_form rfl hline)) (fun fl' s' hf => ?_) fun e s' zz => zz
  · exact ⟨y, rfl, y2, rfl, rfl, by simp⟩
  · obtain ⟨rfl, J⟩ := hf
    refine wpAt_of_wpAny ?_
    have hst := pss_cons (ps_ost (f := fl) (p' := p7) (pos := p9) (hself p6) (hx p8)) (pss_cons (ps_ost (f := gl) (p' := q7) (pos := q9) (hself q6) (hz q8)) pss_nil)
    refine wpAny_mono (hst.run [] s' _ H { nx := fun _ H' => Q .non H', rt := Q } J ?_) (fun fl s' hs => ?_) fun e s' hs => hs
    · refine ⟨y, rfl, .ref a, rfl, a, C, rfl, TC.T, hno, .inl ⟨ea, fun dx nx ne => ⟨y2, rfl, .ref a, rfl, a, C, rfl, TC.T, hno2, .inr ⟨dx, _, upd_same, by rw [upd_ne ne, upd_same], by simp, ?_⟩⟩⟩⟩
      have eH : L2.upd (L2.upd (L2.upd H dx (exd dx [(fl, y)])) a (exo a C (some dx))) dx (exd dx [(gl, y2), (fl, y)]) = L2.upd (L2.upd H dx (exd dx [(gl, y2), (fl, y)])) a (exo a C (some dx)) := by
        funext b
        by_cases hb : b = dx
        · subst hb; rw [upd_same, upd_ne ne, upd_same]
        · rw [upd_ne hb]
          by_cases hba : b = a
          · subst hba; rw [upd_same, upd_same]
          · rw [upd_ne hba, upd_ne hba, upd_ne hb, upd_ne hb]
      rw [eH]
      exact hq dx nx ne
    · have fin : ∀ {σ' : L2.St} {H' : Hp} {v : V} {u : Value}, Inv (cxI P w K mg base [self, x, z] qual scope f cda cc A outer s H E) [] σ' H' s' → RelV v u → Q v H' → CE outer P w H s Q u s' :=
        fun {σ' H' v u} J rv q => ⟨v, H', J.os, J.bare, J.base, J.hok, rv, q⟩
      cases fl with
      | ret u =>
        obtain ⟨v, σ', H', J, rv, q⟩ := hs
        exact fin J rv q
      | next =>
        obtain ⟨σ', H', J, q⟩ := hs
        exact fin (v := V.non) (u := Value.none) J rfl q
      | brk =>
        obtain ⟨_, _, _, q⟩ := hs
        exact False.elim q
      | cont =>
        obtain ⟨_, _, _, q⟩ := hs
        exact False.elim q
end
end Mini
end

section
/-! Mini: raise, try, two stores at once, in-place items; every statement (own work). -/
namespace Mini
open PySem PySem.Spec PyProof.Rows L2

/-! ### raise -/
section
variable {β : Type}
theorem zip_lookB : ∀ {N : List Str} {us : List β} {i : Nat} {x : Str} {u : β}, N.Nodup → N[i]? = some x → us[i]? = some u → us.length = N.length → (N.zip us).reverse.lookup x = some u := by
  have key : ∀ {l : List (Str × β)} {x : Str} {u : β}, (x, u) ∈ l → (l.map (·.1)).Nodup → l.lookup x = some u := by
    intro l
    induction l with
    | nil => intro x u h; cases h
    | cons p l ih =>
      intro x u h nd
      obtain ⟨y, v⟩ := p
      rw [List.map_cons, List.nodup_cons] at nd
      rcases List.mem_cons.mp h with e | e
      · cases e; simp [List.lookup]
      · have : x ≠ y := by rintro rfl; exact nd.1 (List.mem_map.mpr ⟨_, e, rfl⟩)
        have hb : (x == y) = false := by simpa using this
        simp [List.lookup, hb, ih e nd.2]
  intro N us i x u nd h1 h2 hl
  refine key (List.mem_reverse.mpr ?_) ?_
  · refine List.mem_iff_getElem?.mpr ⟨i, ?_⟩
    rw [List.getElem?_zip_eq_some]
    exact ⟨h1, h2⟩
  · rw [List.map_reverse]; refine List.pairwise_reverse.mpr (List.Pairwise.imp (fun h => Ne.symm h) ?_)
    have : (N.zip us).map (·.1) = N := List.map_fst_zip (by omega)
    rw [this]; exact nd
theorem zip_ix : ∀ {N : List Str} {us : List β} {x : Str} {u : β}, (N.zip us).lookup x = some u → ∃ i : Nat, N[i]? = some x ∧ us[i]? = some u
  | [], us, x, u, h => by cases h
  | n :: N, [], x, u, h => by cases h
  | n :: N, v :: us, x, u, h => by
    rw [List.zip_cons_cons] at h
    by_cases e : x = n
    · subst e
      simp [List.lookup] at h
      exact ⟨0, rfl, by rw [← h]; rfl⟩
    · have hb : (x == n) = false := by simpa using e
      simp [List.lookup, hb] at h
      obtain ⟨i, a, b⟩ := zip_ix h
      exact ⟨i + 1, a, b⟩
end
section
variable {C : List Cl} {ca : Nat → Addr} {call : Caller} {k : Nat}
theorem xf_zip {K : PySem.W.Frag} {ρ : List Addr} {H : Hp} {c : Nat} {k0 : Cl} {fs : List D} {ys : List V} (hk : C[c]? = some k0) (nd : k0.flds.Nodup) (r : RVs K ρ H ys fs) (hl : ys.length = k0.flds.length) : XF K C ρ H c fs (k0.flds.zip ys).reverse := by
  refine ⟨k0, hk, fun x d e => ?_⟩
  obtain ⟨i, e1, e2⟩ := zip_ix e
  obtain ⟨v, e3, e4⟩ := r.get e2
  exact ⟨v, zip_lookB nd e1 e3 hl, e4⟩
theorem pass_no {X : Cx} : Passes (L2.CX X.prog X.w) X (fun _ _ _ => False) := fun pins σ H s e s' _ ⟨_, _, _, _, _, _, _, _, _, _, _, _, q⟩ => q.elim
theorem inv_raise {Γ : Gm} {c : Nat} {es : E} {x : PySem.Stmt} (h : ckS (.raise c es) Γ x = true) : ∃ y py t ts q p, x = .Raise (some (.Call (.Name y py) (t :: ts) [] q)) none p ∧ glb Γ.sc y = true ∧ dbg y = false ∧ (y, c, 0) ∈ Γ.cls ∧ ckEs es Γ (t :: ts) = true := by
  cases x <;> first | (cases h; done) | skip
  rename_i e cs p
  cases e with
  | none => cases h
  | some e =>
    cases e <;> first | (cases h; done) | skip
    rename_i f ts ks q
    cases f <;> first | (cases h; done) | skip
    rename_i y py
    cases ks with
    | cons _ _ => cases h
    | nil =>
      cases cs with
      | some _ => cases h
      | none =>
        have h' : (glb Γ.sc y && !dbg y && (Γ.cls.any fun p => p.1 == y && p.2.1 == c && p.2.2 == 0) && !ts.isEmpty && ckEs es Γ ts) = true := h
        simp only [Bool.and_eq_true, Bool.not_eq_true'] at h'
        obtain ⟨⟨⟨⟨h1, h2⟩, h3⟩, h4⟩, h5⟩ := h'
        cases ts with
        | nil => cases h4
        | cons t ts =>
          refine ⟨y, py, t, ts, q, p, rfl, h1, h2, ?_, h5⟩
          rw [List.any_eq_true] at h3
          obtain ⟨⟨a, b, m⟩, mm, q⟩ := h3
          simp only [Bool.and_eq_true, beq_iff_eq] at q
          obtain ⟨⟨rfl, rfl⟩, rfl⟩ := q
          exact mm
theorem snd_raise {c : Nat} {es : E} : SndS C ca call k (.raise c es) := by
  refine ⟨fun Γ X W x o po hk h => ?_, fun Γ X W x _ _ _ h => ff h (by cases x <;> rfl)⟩
  obtain ⟨y, py, t, ts, q, p, rfl, h1, h2, h3, h5⟩ := inv_raise h
  by_cases hc : canR C c = true
  case neg =>
    refine ⟨fun pins s σ H D I hh => ?_⟩
    exfalso
    obtain ⟨ρ, hh, env, w, er, p⟩ := hh
    unfold exec at p
    rw [if_neg hc] at p
    exact p
  case pos =>
    obtain ⟨k0, e0, hne⟩ : ∃ k0, C[c]? = some k0 ∧ k0.flds ≠ [] := by
      unfold canR at hc
      split at hc
      · rename_i k0 e0
        refine ⟨k0, e0, fun z => ?_⟩
        rw [z] at hc
        cases hc
      · cases hc
    have e9 : ∀ env h, exec call C (.raise c es) env h = bns (evs call es env h) env fun vs h1 => if okFl C c vs then some (.exc c vs env h1) else none := fun env h => by
      show (if canR C c then _ else none) = _
      rw [if_pos hc]
    obtain ⟨nd, D0, fI, fd, ps, m1, TC, m3, m4, F, B⟩ := o.clf.rs y c h3 k0 e0 hne
    have pl := ckEs_plain h5
    have pl' : plainX t = true ∧ ts.all plainX = true := by simpa using pl
    refine PS.imp (ps_raise o.hc o.tk (pmk_oex TC.T m3 m4 F (o.rm.mono (by omega)) B .nil pass_no (glb_of o h1) m1 ((snd_all es).1.s Γ X W _ o h5) h2 (plain_star pl'.1 _ _) (plain_any pl'.2))) ?_
    rintro D σ H ⟨ρ, hh, env, w, er, p⟩
    rw [e9] at p
    refine ⟨ρ, hh, env, w, er, PostS.bns Xt.refl w er p fun fs h1 ρ1 H1 ys p1 y1 z1 w1 er1 r1 => ?_⟩
    have r1' : RVs X.K ρ1 H1 ys fs := r1
    by_cases hok : okFl C c fs = true
    · rw [if_pos hok] at p1
      unfold okFl at hok
      rw [e0] at hok
      simp only [Bool.and_eq_true, decide_eq_true_eq] at hok
      have hl : ys.length = k0.flds.length := by rw [r1'.len]; exact hok.1.1
      refine ⟨by rw [r1'.len]; exact hok.2, fun a na => ⟨a, ca c, ys, by simp, hl, TC, (o.clf.ex c k0 e0).2, upd_same, fun dx nx ne => ⟨rfl, ?_⟩⟩⟩
      have nx' : H1 dx = none := by rw [upd_ne ne] at nx; exact nx
      have eH : L2.upd (del (L2.upd (L2.upd (L2.upd H1 a (exo a (ca c) none)) dx (exd dx (k0.flds.zip ys).reverse)) a (exo a (ca c) (some dx))) a) dx (.xd (k0.flds.zip ys).reverse) = L2.upd H1 dx (.xd (k0.flds.zip ys).reverse) := by
        funext b
        by_cases hb : b = dx
        · subst hb; rw [upd_same, upd_same]
        · rw [upd_ne hb, upd_ne hb]
          by_cases hba : b = a
          · subst hba; rw [del_same]; exact na.symm
          · rw [del_ne hba, upd_ne hba, upd_ne hb, upd_ne hba]
      refine ⟨dx, _, upd_same, by rw [upd_ne ne, upd_same], nx', ?_⟩
      rw [eH]
      have x2 : Xt ρ1 H1 ρ1 (L2.upd H1 dx (.xd (k0.flds.zip ys).reverse)) := xt_new nx'
      exact p1 ρ1 _ σ dx _ (z1.trans x2) (w1.new nx') (er1.fwd w1 x2) upd_same (xf_zip e0 nd (w1.rvs x2 r1') hl)
    · rw [if_neg hok] at p1
      exact p1.elim
end
end Mini
end

section
/-! Mini: the suites of except clauses; a try with several clauses (own work). -/
namespace Mini
open PySem PySem.Spec PyProof.Rows L2

/-! ### isinstance of the caught exception -/
theorem call_isX {X : Cx} {a Dc dd : Addr} {oe : Obj} (hp : (a, oe) ∈ X.pn) (T : ExcC X.K Dc) (hz : Zc (.ref Dc) (some dd) oe) (hf : ∃ vs, oe.data = .fields vs) :
    CallR X (.builtin "isinstance") (fun xs H Q => ∃ (c : V) (cv : Value) (b : Bool) (fl : List (Str × V)), xs = [.ref a, c] ∧ (∀ u, RelV c u → u = cv) ∧ PySem.W.kitOne X.K (.ref Dc) cv = some b ∧ H dd = some (.xd fl) ∧ Q (.bl b) H) := by
  intro pins s σ H xs us Q I r h
  obtain ⟨c, cv, b, fl, rfl, hcv, e, hx, q⟩ := h
  match us, r with
  | [u1, u2], .cons rx (.cons rt .nil) =>
    obtain rfl : u1 = Value.ref a := rx
    obtain rfl := hcv _ rt
    obtain ⟨he, _⟩ := I.pin (a, oe) (List.mem_append_left _ hp)
    obtain ⟨vs, hv⟩ := hf
    have ho : ObjOk X.prog X.w H s.heap dd (.xd fl) := I.hok dd _ hx
    obtain ⟨mA, hns, _⟩ := ho
    obtain ⟨od, hod, _⟩ := lookIn_ns hns
    have J : PySem.W.InstAt s.heap a oe Dc (some od) := ⟨he, hz.1, by unfold PySem.W.notCls; rw [hv] <;> rfl, by rw [hz.2]; exact hod⟩
    have hcl : (PySem.W.clsIn X.K Dc).isSome = true := by
      obtain ⟨cd, hc, _⟩ := PySem.W.any_some T.hd
      rw [hc]; rfl
    exact PySem.W.kia_one (PySem.W.kitx_exc hcl T.hg T.hk T.hs T.ha T.hn T.ht T.hm) I.kIn J e (fun z => nomatch z) fun tk => ⟨.bl b, H, I.kept (t' := tk) fun _ _ z => z, rfl, q⟩

section
variable {C : List Cl} {ca : Nat → Addr} {call : Caller} {k : Nat}
theorem Wd.noxd {K : PySem.W.Frag} {ρ : List Addr} {h : List O} {H : Hp} (w : Wd K ρ h H) {a : Addr} {fl : List (Str × V)} (e : H a = some (.xd fl)) : a ∉ ρ := fun m => by
  obtain ⟨n, hn, ea⟩ := List.getElem_of_mem m
  obtain ⟨o, _, r⟩ := w.get (n := n) (a := a) (by rw [List.getElem?_eq_getElem hn, ea])
  cases o with
  | lst xs => obtain ⟨ws, e1, _⟩ := r; rw [e] at e1; cases e1
  | ro xs => obtain ⟨o', ws, e1, _⟩ := r; rw [e] at e1; cases e1
  | dct kvs => exact r
theorem XF.fwd {K : PySem.W.Frag} {ρ ρ' : List Addr} {h : List O} {H H' : Hp} {c : Nat} {fs : List D} {fl : List (Str × V)} (w : Wd K ρ h H) (x : Xt ρ H ρ' H') (f : XF K C ρ H c fs fl) : XF K C ρ' H' c fs fl := by
  obtain ⟨k0, e, q⟩ := f
  exact ⟨k0, e, fun y d l => let ⟨v, a, b⟩ := q y d l; ⟨v, a, w.rv x b⟩⟩
/-- within a suite: the name's slot i holds the exception at a, of class c, its fields fs in dd -/
structure SuX (K : PySem.W.Frag) (C : List Cl) (i : Nat) (a dd : Addr) (c : Nat) (fs : List D) (ρ : List Addr) (h : List O) (σ : L2.St) (H : Hp) : Prop where
  sl : σ[i]? = some (some (.ref a))
  w : Wd K ρ h H
  f : ∃ fl, H dd = some (.xd fl) ∧ XF K C ρ H c fs fl
theorem SuX.fwd {K : PySem.W.Frag} {i c : Nat} {a dd : Addr} {fs : List D} {ρ ρ' : List Addr} {h h' : List O} {σ : L2.St} {H H' : Hp} (s : SuX K C i a dd c fs ρ h σ H) (x : Xt ρ H ρ' H') (w' : Wd K ρ' h' H') : SuX K C i a dd c fs ρ' h' σ H' := by
  obtain ⟨fl, e, f⟩ := s.f
  exact ⟨s.sl, w', fl, x.frame dd _ e (s.w.noxd e), XF.fwd s.w x f⟩
section
variable (K : PySem.W.Frag) (C : List Cl) (i : Nat) (a dd : Addr) (c : Nat) (fs : List D)
def tX (ir : E) : TE := fun σ H Q => ∃ ρ h d h', SuX K C i a dd c fs ρ h σ H ∧ evX C c fs ir h = some (d, h') ∧ ∀ ρ' H' v, Xt ρ H ρ' H' → Wd K ρ' h' H' → RV K ρ' H' v d → Q v H'
def tXs (ir : E) : TA := fun σ H Q => ∃ ρ h ds h', SuX K C i a dd c fs ρ h σ H ∧ evX.evXs C c fs ir h = some (ds, h') ∧ ∀ ρ' H' v, Xt ρ H ρ' H' → Wd K ρ' h' H' → RVs K ρ' H' v ds → Q v H'
def tXT (ir : E) : TT := fun σ H Q => ∃ ρ h b h', SuX K C i a dd c fs ρ h σ H ∧ evX C c fs ir h = some (.bl b, h') ∧ ∀ ρ' H', Xt ρ H ρ' H' → Wd K ρ' h' H' → Q b H'
end
section
variable {Γ : Gm} {X : Cx} {W : WX} {en : Str} {i c : Nat} {a dd : Addr} {oe : Obj} {pn : List (Addr × Obj)} {fs : List D}
theorem en_pe (o : XOk C ca call k Γ X W) (hi : Γ.N[i]? = some en) (hl : Γ.sc.names.lookup en = some .local) (h1 : dbg en = false) (h2 : (en == ("__classdict__" : Str)) = false) {e : PySem.Expr} (h : isEn en e = true) : PE (X.suite a ((a, oe) :: pn)) e (tVar i) := by
  cases e <;> first | (cases h; done) | skip
  rename_i y p
  have : y = en := beq_iff_eq.mp h
  subst this
  exact pe_var (by show X.N[i]? = _; rw [o.hN]; exact hi) (.inl (by show X.env.scope.names.lookup y = _; rw [o.sc]; exact hl)) h1 h2
theorem nm_pe (o : XOk C ca call k Γ X W) {y : Str} {m : Nat} {v : Value} (hn : Nm X.mg y m v) (hg : glb Γ.sc y = true) (hd : dbg y = false) {p : Pos} : ∃ z : V, (∀ u, RelV z u → u = v) ∧ PE (X.suite a ((a, oe) :: pn)) (.Name y p) (tC z) := by
  have g0 : Gl X y := glb_of o hg
  have g : Gl (X.suite a ((a, oe) :: pn)) y := g0
  rcases hn with ⟨_, m1, b, rfl⟩ | ⟨_, m1, m2, m3, T, rfl⟩
  · exact ⟨.ref b, fun u r => r, pe_glob g m1 rfl hd⟩
  · exact ⟨.ty T, fun u r => r, pe_bltn g m1 m2 rfl m3 hd⟩
theorem isx_ev {ir : Nat} {h : List O} : evX C c fs (.isx ir) h = some (.bl (isAnc C c ir), h) := rfl
theorem isx_pe (o : XOk C ca call k Γ X W) (hi : Γ.N[i]? = some en) (hl : Γ.sc.names.lookup en = some .local) (h1 : dbg en = false) (h2 : (en == ("__classdict__" : Str)) = false) {k0 : Cl} (hc : C[c]? = some k0) (hz : Zc (.ref (ca c)) (some dd) oe) (hf : ∃ vs, oe.data = .fields vs)
    {t : Nat} {e : PySem.Expr} (h : ckIs Γ en t e = true) : PE (X.suite a ((a, oe) :: pn)) e (tX X.K C i a dd c fs (.isx t)) ∧ plainT e = true := by
  cases e <;> first | (cases h; done) | skip
  rename_i f as ks p
  cases f <;> first | (cases h; done) | skip
  rename_i x px
  match as, ks, h with
  | [ob, .Name y py], [], h =>
    have h' : (x == ("isinstance" : Str) && isEn en ob && glb Γ.sc x && glb Γ.sc y && !dbg y && Γ.cls.any fun p => p.1 == y && p.2.1 == t) = true := h
    simp only [Bool.and_eq_true, Bool.not_eq_true', beq_iff_eq] at h'
    obtain ⟨⟨⟨⟨⟨rfl, e2⟩, e3⟩, e4⟩, e5⟩, e6⟩ := h'
    rw [List.any_eq_true] at e6
    obtain ⟨⟨y', t', m⟩, mm, q⟩ := e6
    simp only [Bool.and_eq_true, beq_iff_eq] at q
    obtain ⟨rfl, rfl⟩ := q
    obtain ⟨v, hn, hv⟩ := o.clf.cls _ _ _ mm
    obtain ⟨z, hz1, hz2⟩ := nm_pe (a := a) (oe := oe) (pn := pn) (p := py) o hn e4 e5
    have g0 : Gl X "isinstance" := glb_of o e3
    have pob : plainX ob = true := by cases ob <;> first | rfl | cases e2
    refine ⟨PE.imp (pe_callB (call_isX (X := X.suite a ((a, oe) :: pn)) List.mem_cons_self (o.clf.ex c k0 hc).1 hz hf) g0 (o.blt _ (by decide)) (by decide +kernel) (pa_cons (en_pe o hi hl h1 h2 e2) (pa_cons hz2 pa_nil rfl) (plain_star pob _ _)) (by decide) (by decide) (plain_star pob _ _) rfl) ?_, rfl⟩
    rintro σ H Q ⟨ρ, hh, d, h2, su, ed, q⟩
    rw [isx_ev] at ed
    cases ed
    obtain ⟨fl, ef, _⟩ := su.f
    exact ⟨_, su.sl, z, v, _, fl, rfl, hz1, (hv c k0 hc).1, ef, q ρ H _ Xt.refl su.w rfl⟩
theorem evXs_cons {p q : E} {h : List O} : evX.evXs C c fs (.cons p q) h = match evX C c fs p h with | some (x, h1) => (match evX.evXs C c fs q h1 with | some (xs, h2) => some (x :: xs, h2) | none => none) | none => none := rfl
theorem ckXs_cons {p q : E} {es : List PySem.Expr} : ckXs Γ en (.cons p q) es = match es with | t :: ts => ckX Γ en p t && plainX t && ckXs Γ en q ts | [] => false := by cases es <;> rfl
theorem ckXs_plain : ∀ {p : E} {es : List PySem.Expr}, ckXs Γ en p es = true → es.all plainX = true
  | p, [], _ => rfl
  | p, t :: ts, h => by
    cases p with
    | cons a b =>
      rw [ckXs_cons] at h
      simp only [Bool.and_eq_true] at h
      simp only [List.all_cons, Bool.and_eq_true]
      exact ⟨h.1.2, ckXs_plain h.2⟩
    | _ => cases h
def SuOk (C : List Cl) (Γ : Gm) (X : Cx) (en : Str) (i : Nat) (a dd : Addr) (oe : Obj) (pn : List (Addr × Obj)) (c : Nat) (fs : List D) (ir : E) : Prop :=
  (∀ e, ckX Γ en ir e = true → PE (X.suite a ((a, oe) :: pn)) e (tX X.K C i a dd c fs ir)) ∧ (∀ es, ckXs Γ en ir es = true → PA (X.suite a ((a, oe) :: pn)) es (tXs X.K C i a dd c fs ir)) ∧
      (∀ e, ckXT Γ en ir e = true → PT (X.suite a ((a, oe) :: pn)) e (tXT X.K C i a dd c fs ir))
theorem kin_inv {f : Str} {cs : List Nat} {e : PySem.Expr} (h : ckX Γ en (.kin f cs) e = true) : ∃ p1 : Pos, glb Γ.sc f = true ∧ dbg f = false ∧ True ∧ (f, cs) ∈ Γ.kin ∧ ∃ ob pos, isEn en ob = true ∧ e = .Call (.Name f p1) [ob] [] pos := by
  cases e <;> first | (cases h; done) | skip
  rename_i fn as ks p
  cases fn <;> first | (cases h; done) | skip
  rename_i x px
  cases ks with
  | cons _ _ => cases as <;> first | (cases h; done) | (rename_i t ts; cases ts <;> cases h)
  | nil =>
    cases as with
    | nil => cases h
    | cons ob as =>
      cases as with
      | cons _ _ => cases h
      | nil =>
        have h' : (x == f && glb Γ.sc x && !dbg x && isEn en ob && Γ.kin.any fun p => p.1 == x && p.2 == cs) = true := h
        simp only [Bool.and_eq_true, Bool.not_eq_true', beq_iff_eq, List.any_eq_true] at h'
        obtain ⟨⟨⟨⟨rfl, h2⟩, h3⟩, h4⟩, ⟨y, cs'⟩, mm, q1, q2⟩ := h'
        dsimp only at q1 q2
        subst q1; subst q2
        exact ⟨px, h2, h3, trivial, mm, ob, p, h4, rfl⟩
theorem su_all (o : XOk C ca call k Γ X W) (hi : Γ.N[i]? = some en) (hl : Γ.sc.names.lookup en = some .local) (h1 : dbg en = false) (h2' : (en == ("__classdict__" : Str)) = false) {k0 : Cl} (hc : C[c]? = some k0) (hz : Zc (.ref (ca c)) (some dd) oe) (hf : ∃ vs, oe.data = .fields vs) :
    ∀ ir : E, SuOk C Γ X en i a dd oe pn c fs ir := by
  have no : ∀ {ir : E}, (∀ e, ckX Γ en ir e = false) → (∀ e, ckXs Γ en ir e = false) → (∀ e, ckXT Γ en ir e = false) → SuOk C Γ X en i a dd oe pn c fs ir := fun {ir} p1 p2 p3 => ⟨fun e h => (by rw [p1] at h; cases h), fun e h => (by rw [p2] at h; cases h), fun e h => (by rw [p3] at h; cases h)⟩
  have one : ∀ {ir : E}, (∀ e, ckX Γ en ir e = true → PE (X.suite a ((a, oe) :: pn)) e (tX X.K C i a dd c fs ir)) → (∀ e, ckXs Γ en ir e = false) → (∀ e, ckXT Γ en ir e = false) → SuOk C Γ X en i a dd oe pn c fs ir := fun {ir} p1 p2 p3 => ⟨p1, fun e h => (by rw [p2] at h; cases h), fun e h => (by rw [p3] at h; cases h)⟩
  have conc : ∀ {e : PySem.Expr} {v : V} {d : D} {ir : E}, PE (X.suite a ((a, oe) :: pn)) e (tC v) → (∀ h, evX C c fs ir h = some (d, h)) → (∀ ρ H, RV X.K ρ H v d) → PE (X.suite a ((a, oe) :: pn)) e (tX X.K C i a dd c fs ir) := fun {e v d ir} p ed r => by
    refine PE.imp p ?_
    rintro σ H Q ⟨ρ, hh, d', h2, su, ed', q⟩
    rw [ed] at ed'
    cases ed'
    exact q ρ H v Xt.refl su.w (r _ _)
  intro ir
  induction ir with
  | non =>
    refine one (fun e h => ?_) (fun e => by cases e <;> rfl) (fun e => by cases e <;> rfl)
    cases e <;> first | (cases h; done) | skip
    rename_i c1 c2 c3
    cases c1 <;> first | (cases h; done) | exact conc pe_non (fun _ => rfl) fun _ _ => rfl
  | bl b =>
    refine one (fun e h => ?_) (fun e => by cases e <;> rfl) (fun e => by cases e <;> rfl)
    cases e <;> first | (cases h; done) | skip
    rename_i c1 c2 c3
    cases c1 <;> first | (cases h; done) | skip
    rename_i b'
    have h' : (b == b') = true := h
    have e1 := eq_of_beq h'
    subst e1
    exact conc pe_bl (fun _ => rfl) fun _ _ => rfl
  | int j =>
    refine one (fun e h => ?_) (fun e => by cases e <;> rfl) (fun e => by cases e <;> rfl)
    cases e <;> first | (cases h; done) | skip
    rename_i c1 c2 c3
    cases c1 <;> first | (cases h; done) | skip
    rename_i b'
    have h' : (j == b') = true := h
    have e1 := eq_of_beq h'
    subst e1
    exact conc pe_int (fun _ => rfl) fun _ _ => rfl
  | str s =>
    refine one (fun e h => ?_) (fun e => by cases e <;> rfl) (fun e => by cases e <;> rfl)
    cases e <;> first | (cases h; done) | skip
    rename_i c1 c2 c3
    cases c1 <;> first | (cases h; done) | skip
    rename_i b'
    have h' : (s == b') = true := h
    have e1 := eq_of_beq h'
    subst e1
    exact conc pe_str (fun _ => rfl) fun _ _ => rfl
  | fld x =>
    refine one (fun e h => ?_) (fun e => by cases e <;> rfl) (fun e => by cases e <;> rfl)
    cases e <;> first | (cases h; done) | skip
    rename_i ob y p
    have h' : (isEn en ob && x == y) = true := h
    simp only [Bool.and_eq_true, beq_iff_eq] at h'
    obtain ⟨h3, rfl⟩ := h'
    have T := (o.clf.ex c k0 hc).1
    by_cases hx : x ∈ k0.flds
    · have hb : attributeBase ob x (X.suite a ((a, oe) :: pn)).env (eval ob (X.suite a ((a, oe) :: pn)).env) = eval ob (X.suite a ((a, oe) :: pn)).env := by
        cases ob <;> first | rfl | cases h3
      refine PE.imp (pe_xf (cls := .ref (ca c)) (d := some dd) ⟨T.hg, T.hk, T.hs, T.hd⟩ ((o.clf.ex c k0 hc).2 x hx) hz hf (en_pe o hi hl h1 h2' h3) hb) ?_
      rintro σ H Q ⟨ρ, hh, d, h2, su, ed, q⟩
      obtain ⟨fl, ef, k1, ek, xf⟩ := su.f
      rw [hc] at ek
      cases ek
      have ed2 : (match fldOf C c fs x with | some d => some (d, hh) | none => none) = some (d, h2) := ed
      cases e9 : fldOf C c fs x with
      | none => rw [e9] at ed2; cases ed2
      | some d9 =>
      rw [e9] at ed2
      cases ed2
      have ed' : (k0.flds.zip fs).lookup x = some d := by
        have : fldOf C c fs x = some d := e9
        unfold fldOf at this
        rw [hc] at this
        exact this
      obtain ⟨v, e1, e2⟩ := xf x d ed'
      exact ⟨_, su.sl, rfl, rfl, dd, fl, v, rfl, ef, e1, q ρ H v Xt.refl su.w e2⟩
    · refine ⟨fun pins s σ H Q I hh => ?_⟩
      exfalso
      obtain ⟨ρ, hh, d, h2, su, ed, q⟩ := hh
      have ed2 : (match fldOf C c fs x with | some d => some (d, hh) | none => none) = some (d, h2) := ed
      cases e9 : fldOf C c fs x with
      | none => rw [e9] at ed2; cases ed2
      | some d9 =>
      have : fldOf C c fs x = some d9 := e9
      unfold fldOf at this
      rw [hc] at this
      obtain ⟨j, e1, _⟩ := zip_ix this
      exact hx (List.mem_of_getElem? e1)
  | isx t =>
    refine ⟨fun e h => (isx_pe o hi hl h1 h2' hc hz hf h).1, fun es h => (by cases es <;> cases h), fun e h => ?_⟩
    obtain ⟨p1, p2⟩ := isx_pe o hi hl h1 h2' hc hz hf h (a := a) (pn := pn) (fs := fs)
    refine PT.imp (pt_truth p1 (fun whole => by cases e <;> first | rfl | cases h)) ?_
    rintro σ H Q ⟨ρ, hh, b, h2, su, eb, q⟩
    refine ⟨ρ, hh, .bl b, h2, su, eb, fun ρ' H' v x' w' r' => ?_⟩
    have r2 : v = .bl b := r'
    subst r2
    exact ⟨b, truth_ok (h := h2) (d := .bl b) w' r' rfl, q ρ' H' x' w'⟩
  | tup es ih =>
    refine one (fun e h => ?_) (fun e => by cases e <;> rfl) (fun e => by cases e <;> rfl)
    cases e <;> first | (cases h; done) | skip
    rename_i ts k1 p
    have h' : ckXs Γ en es ts = true := h
    refine PE.imp (pe_tup (ih.2.1 ts h')) ?_
    rintro σ H Q ⟨ρ, hh, d, h2, su, ed, q⟩
    have ed' : (match evX.evXs C c fs es hh with | some (xs, h1) => if xs.length ≤ lim then some (D.tup xs, h1) else none | none => none) = some (d, h2) := ed
    split at ed'
    · rename_i xs h3 e1
      split at ed'
      · rename_i hle
        cases ed'
        refine ⟨ρ, hh, xs, h2, su, e1, fun ρ1 H1 vs x1 w1 r1 => ⟨by rw [r1.len, ← lim_eq]; exact hle, fun b n => ?_⟩⟩
        exact q ρ1 _ _ (x1.trans (xt_new n)) (w1.new n) ⟨b, vs, rfl, .inl (.inl upd_same), RVs.mono (TS'.upd n) (fun _ _ e => e) _ _ r1⟩
      · cases ed'
    · cases ed'
  | cons p q ihp ihq =>
    refine ⟨fun e h => (by cases e <;> cases h), fun es h => ?_, fun e h => (by cases e <;> cases h)⟩
    rw [ckXs_cons] at h
    cases es with
    | nil => cases h
    | cons t ts =>
      simp only [Bool.and_eq_true] at h
      refine PA.imp (pa_cons (ihp.1 t h.1.1) (ihq.2.1 ts h.2) (plain_star h.1.2 _ _)) ?_
      rintro σ H Q ⟨ρ, hh, ds, h9, su, ed, qq⟩
      rw [evXs_cons] at ed
      cases e1 : evX C c fs p hh with
      | none => rw [e1] at ed; cases ed
      | some x =>
        obtain ⟨x, h1⟩ := x
        rw [e1] at ed
        dsimp only at ed
        cases e2 : evX.evXs C c fs q h1 with
        | none => rw [e2] at ed; cases ed
        | some xs =>
          obtain ⟨xs, h2⟩ := xs
          rw [e2] at ed
          cases ed
          refine ⟨ρ, hh, x, h1, su, e1, fun ρ1 H1 v x1 w1 r1 => ⟨ρ1, h1, xs, h9, su.fwd x1 w1, e2, fun ρ2 H2 vs x2 w2 r2 => ?_⟩⟩
          exact qq ρ2 H2 _ (x1.trans x2) w2 ⟨v, vs, rfl, w1.rv x2 r1, r2⟩
  | nil =>
    refine ⟨fun e h => (by cases e <;> cases h), fun es h => ?_, fun e h => (by cases e <;> cases h)⟩
    cases es with
    | cons _ _ => cases h
    | nil =>
      refine PA.imp pa_nil ?_
      rintro σ H Q ⟨ρ, hh, ds, h2, su, ed, qq⟩
      cases ed
      exact qq ρ H [] Xt.refl su.w rfl
  | ifx t p q iht ihp ihq =>
    refine one (fun e h => ?_) (fun e => by cases e <;> rfl) (fun e => by cases e <;> rfl)
    cases e <;> first | (cases h; done) | skip
    rename_i t' p' q' ps
    have h' : (ckXT Γ en t t' && ckX Γ en p p' && ckX Γ en q q') = true := h
    simp only [Bool.and_eq_true] at h'
    refine PE.imp (pe_ifExp (iht.2.2 t' h'.1.1) (ihp.1 p' h'.1.2) (ihq.1 q' h'.2)) ?_
    rintro σ H Q ⟨ρ, hh, d, h9, su, ed, qq⟩
    have ed' : (match evX C c fs t hh with | some (.bl true, h1) => evX C c fs p h1 | some (.bl false, h1) => evX C c fs q h1 | _ => none) = some (d, h9) := ed
    split at ed'
    · rename_i h1 e1
      exact ⟨ρ, hh, true, h1, su, e1, fun ρ1 H1 x1 w1 => ⟨ρ1, h1, d, h9, su.fwd x1 w1, ed', fun ρ2 H2 v x2 => qq ρ2 H2 v (x1.trans x2)⟩⟩
    · rename_i h1 e1
      exact ⟨ρ, hh, false, h1, su, e1, fun ρ1 H1 x1 w1 => ⟨ρ1, h1, d, h9, su.fwd x1 w1, ed', fun ρ2 H2 v x2 => qq ρ2 H2 v (x1.trans x2)⟩⟩
    · cases ed'
  | and p q ihp ihq =>
    refine ⟨fun e h => (by cases e <;> cases h), fun es h => (by cases es <;> cases h), fun e h => ?_⟩
    cases e <;> first | (cases h; done) | skip
    rename_i op as ps
    cases op <;> first | (cases h; done) | skip
    match as, h with
    | [p', q'], h =>
      have h' : (ckXT Γ en p p' && ckXT Γ en q q') = true := h
      simp only [Bool.and_eq_true] at h'
      refine PT.imp (pw_and (ihp.2.2 p' h'.1) (pw_and1 (ihq.2.2 q' h'.2))).pt ?_
      rintro σ H Q ⟨ρ, hh, b, h9, su, ed, qq⟩
      have ed' : (match evX C c fs p hh with | some (.bl true, h1) => evX C c fs q h1 | some (.bl false, h1) => some (.bl false, h1) | _ => none) = some (.bl b, h9) := ed
      split at ed'
      · rename_i h1 e1
        exact ⟨ρ, hh, true, h1, su, e1, fun ρ1 H1 x1 w1 => ⟨ρ1, h1, b, h9, su.fwd x1 w1, ed', fun ρ2 H2 x2 => qq ρ2 H2 (x1.trans x2)⟩⟩
      · rename_i h1 e1
        cases ed'
        exact ⟨ρ, hh, false, _, su, e1, qq⟩
      · cases ed'
  | lst es ih =>
    refine one (fun e h => ?_) (fun e => by cases e <;> rfl) (fun e => by cases e <;> rfl)
    cases es <;> first | (cases h; done) | (cases e <;> cases h; done) | skip
    cases e <;> first | (cases h; done) | skip
    rename_i es p
    cases es with
    | cons _ _ => cases h
    | nil =>
      refine PE.imp (pe_lst pa_nil) ?_
      rintro σ H Q ⟨ρ, hh, d, h2, su, ed, q⟩
      cases ed
      refine ⟨Nat.zero_le _, fun b n => ?_⟩
      obtain ⟨x1, w1, r1⟩ := su.w.alloc n (vs := []) (xs := []) rfl
      exact q _ _ _ x1 w1 r1
  | kin f cs =>
    refine one (fun e h => ?_) (fun e => by cases e <;> rfl) (fun e => by cases e <;> rfl)
    obtain ⟨p1, h3, h4, _, h6, ob, pos, h5, rfl⟩ := kin_inv h
    obtain ⟨ad, fd, ps, m1, m2, F, B⟩ := o.kin _ _ h6
    have pob : plainX ob = true := by cases ob <;> first | rfl | cases h5
    refine ⟨fun pins s σ H Q I hh => ?_⟩
    obtain ⟨ρ, hh, d, h2, su, ed, q⟩ := hh
    cases ed
    have g0 : Gl X f := glb_of o h3
    refine wpAny_Call_Name_kw (ld_glob I (show Gl (X.suite a ((a, oe) :: pn)) f from g0) m1 ?_ h4)
    refine PySem.W.callWith_K (h₀ := X.base) I.ok.mod.kin m2 (thn ((pa_cons (en_pe o hi hl h1 h2' h5) pa_nil (plain_star pob _ _)).run _ pins s σ H (fun vs H1 => vs = [.ref a] ∧ H1 = H) I ⟨_, su.sl, rfl, rfl⟩) fun us s1 hq => ?_) (plain_star pob _ _) rfl
    obtain ⟨vs, H1, I1, rv, rfl, rfl⟩ := hq
    refine ⟨I1.kIn, ?_⟩
    obtain ⟨u, rfl⟩ : ∃ u, us = [u] := by
      cases rv with
      | cons r1 r2 => cases r2; exact ⟨_, rfl⟩
    obtain rfl : u = Value.ref a := by
      cases rv with
      | cons r1 r2 => exact r1
    obtain ⟨fl, ef, _⟩ := su.f
    have P1 := I1.pin (a, oe) (List.mem_append_left _ List.mem_cons_self)
    have pin : L2H.PinOk X.stack H1 s1 (a, oe) := ⟨P1.1, P1.2.1, fun hm => (List.mem_cons.mp (I1.stkSub a hm)).elim P1.2.2.1 P1.2.2.2.1, P1.2.2.2.2⟩
    have hb := B s1 [Value.ref a] I1.kIn (by rw [F.one]; rfl)
    have room : L2H.RoomH 1 (X.A.mark (some (.ref a))) := ⟨by have := o.rm.dp; show X.A.depth + 3 * 1 + 5 < recursionLimit; omega, by have := o.rm.un; show X.A.units + 16 * 1 + 200 < cLine; omega⟩
    refine wpAny_call (codeAny_mono (F.run (X.A.mark (some (.ref a))) X.stack s1 H1 ⟨[.ref a], []⟩ a dd oe c k0 fl Q hc room I1.env0 hb pin hz hf ef fun p1 p2 p3 xs1 xs2 n1 n2 n3 => ?_) fun z s' hz' => ?_)
    · have x1 : Xt ρ H1 ρ (L2.upd H1 p1 (.lst xs1)) := xt_new n1
      have w1 := su.w.new (o := .lst xs1) n1
      have x2 := x1.trans (xt_new (o := .lst xs2) n2)
      have w2 := w1.new (o := .lst xs2) n2
      have rb : ∀ cs : List Nat, RVs X.K ρ (L2.upd (L2.upd H1 p1 (.lst xs1)) p2 (.lst xs2)) (cs.map fun a => V.bl (isAnc C c a)) (cs.map fun a => D.bl (isAnc C c a)) := by
        intro cs
        induction cs with
        | nil => rfl
        | cons a l ih => exact ⟨_, _, rfl, rfl, ih⟩
      obtain ⟨x3, w3, r3⟩ := w2.alloc n3 (rb cs)
      exact q _ _ _ (x2.trans x3) w3 r3
    · cases z with
      | error er =>
        obtain ⟨_, _, _, _, _, _, _, _, _, _, _, _, z⟩ := hz'
        exact z.elim
      | ok fl2 =>
        cases fl2 with
        | ret u => exact I1.after hz'
        | next => exact hz'.elim
        | brk => exact hz'.elim
        | cont => exact hz'.elim
  | «omit» => exact no (fun e => by cases e <;> rfl) (fun e => by cases e <;> rfl) (fun e => by cases e <;> rfl)
  | _ => exact no (fun e => by cases e <;> rfl) (fun e => by cases e <;> rfl) (fun e => by cases e <;> rfl)
end
end
end Mini
end

section
/-! Mini: a try with several clauses 'except C as e' (own work). -/
namespace Mini
open PySem PySem.Spec PyProof.Rows L2

abbrev ClT := Value × Nat × (Addr → Value → Option Addr → TS)
/-- what clauses, each with its own name, wish of an exception -/
def wM (K : PySem.W.Frag) (Wout : WX) (D : Ends) : List ClT → WX
  | [] => Wout
  | q :: r => wAs K q.1 q.2.1 q.2.2 (wM K Wout D r) D
structure ClOk (X : Cx) (hd : ExceptHandler) (q : ClT) : Prop where
  is : ∃ x n b₀ su np ps, hd = .ExceptHandler (some (.Name x np)) (some n) (b₀ :: su) ps ∧ X.N[q.2.1]? = some n ∧ X.env.kindOf n = some .local ∧ Names X x q.1 ∧
    ∀ (a : Addr) (oe : Obj) (cls : Value) (d : Option Addr) (pn : List (Addr × Obj)), Zc cls d oe → (∃ vs, oe.data = .fields vs) → PSs (X.suite a ((a, oe) :: pn)) (b₀ :: su) (q.2.2 a cls d)
inductive ClsOk (X : Cx) : List ExceptHandler → List ClT → Prop
  | nil : ClsOk X [] []
  | cons {hd : ExceptHandler} {q : ClT} {hds : List ExceptHandler} {l : List ClT} (c : ClOk X hd q) (r : ClsOk X hds l) : ClsOk X (hd :: hds) (q :: l)
section
variable {X : Cx} {pins : List (Addr × Obj)} {σ : L2.St} {H : Hp} {a : Addr} {cls : Value} {d : Option Addr} {s : Shared}
/-- the exception at a lies caught in the frame of X -/
structure Lies (X : Cx) (pins : List (Addr × Obj)) (σ : L2.St) (H : Hp) (a : Addr) (cls : Value) (d : Option Addr) (s : Shared) : Prop where
  ex : ∃ (B : Heap) (z : Shared), Inv X pins σ H z ∧ (∀ b o, z.heap.get? b = some o → b ∉ frs X.stack → B.get? b = some o) ∧ z.heap.UpToSlots s.heap ∧ HandSPX.FlyingZ B (X.env :: X.outer) a (Zc cls d) s.heap ∧ s.os = z.os ∧ AllBare s.gens
  na : H a = none
theorem Lies.inv (y : Lies X pins σ H a cls d s) : Inv X pins σ H s := by
  obtain ⟨B, z, I, nb, up, fl, os, ag⟩ := y.ex
  exact I.landed nb fl.1 up os ag
theorem Lies.obj (y : Lies X pins σ H a cls d s) : ∃ oe vs, s.heap.get? a = some oe ∧ Zc cls d oe ∧ oe.data = .fields vs := by
  obtain ⟨B, z, I, nb, up, fl, os, ag⟩ := y.ex
  obtain ⟨oe, vs, h1, h2, h3⟩ := fl.there
  exact ⟨oe, vs, h1, h2, h3⟩
theorem Lies.apart (hf : X.env.frame = some X.env.locals) (y : Lies X pins σ H a cls d s) : a ≠ X.env.locals ∧ a ∉ X.fs := by
  obtain ⟨oe, vs, he, _, hd⟩ := y.obj
  obtain ⟨B, z, I, nb, up, fl, os, ag⟩ := y.ex
  have no : a ∉ frs (X.env :: X.outer) := fun hm => by
    obtain ⟨_, o', e', hnf⟩ := fl.2.2.1.mem hm
    rw [he] at e'
    cases e'
    exact hnf _ hd
  exact ⟨fun q => no (by unfold frs; rw [List.filterMap_cons_some hf]; exact q ▸ List.mem_cons_self), fun hm => no (by unfold frs; rw [List.filterMap_cons_some hf]; exact List.mem_cons_of_mem _ hm)⟩
theorem Lies.again {M : Model} {A : Around} {E : Value → Shared → Prop} {Q : Unit → Shared → Prop} (y : Lies X pins σ H a cls d s) (h : ∀ s', Lies X pins σ H a cls d s' → Q () s') : wpAny M A (setFlight (.ref a) none) Q E s := by
  obtain ⟨B, z, I, nb, up, fl, os, ag⟩ := y.ex
  exact HandSPX.lands_againZ fl fun h' fl' up' => h _ ⟨⟨B, z, I, nb, up.trans up', fl', os, ag⟩, y.na⟩
/-- no clause was it -/
theorem Lies.on (hs : X.stack = X.env :: X.outer) (hf : X.env.frame = some X.env.locals) {W : WX} (tk : Takes X W) (y : Lies X pins σ H a cls d s) (w : W cls d σ H) {Q : Flow → Shared → Prop} : wpAny (model X.prog X.w) X.A (handleBy (.ref a) X.env []) Q X.xe s := by
  obtain ⟨B, z, I, nb, up, fl, os, ag⟩ := y.ex
  refine wpAny_handleBy_nil ?_
  obtain ⟨_, _, _, oe, vs, T, _, _, he, _, hd, h1, _⟩ := id fl
  unfold PySem.passOn
  refine wpAny_bind (wpAny_field he hd h1 ?_)
  have hT : ¬ ((Value.ref T == Value.none) = true) := by simp
  rw [if_neg hT]
  have go : wpAny (model X.prog X.w) X.A (setFlight (.ref a) X.env.frame) (fun _ t => wpAny (model X.prog X.w) X.A (throw (.ref a) : Sem Flow) Q X.xe t) X.xe s := by
    rw [hf]
    refine HandSPX.setFlight_upZ fl fun h4 held up4 => wpAny_throw (tk _ _ ⟨a, B, z, pins, σ, H, cls, d, rfl, I, nb, up.trans up4, ?_, y.na, os, ag, w⟩)
    rw [hs]
    exact .inr (.inr held)
  first
    | exact wpAny_bind (wpAny_pure (wpAny_bind go))
    | exact wpAny_bind go
/-- the clauses are asked in a row -/
theorem asks (hs : X.stack = X.env :: X.outer) (hf : X.env.frame = some X.env.locals) (hN : X.N.Nodup) {W : WX} (tk : Takes X W) {D : Ends} {hds : List ExceptHandler} {l : List ClT} (ok : ClsOk X hds l) (y : Lies X pins σ H a cls d s) (w : wM X.K W D l cls d σ H) :
    wpAny (model X.prog X.w) X.A (handleBy (.ref a) X.env hds) (SP X pins D) X.xe s := by
  induction ok with
  | nil => exact y.on hs hf tk w
  | @cons hd q hds l c r ih =>
    obtain ⟨x, n, b₀, su, np, ps, rfl, hi, hln, hc, hsu⟩ := c.is
    obtain ⟨b, hb, hyes, hno⟩ := w
    obtain ⟨oe, vs, he, hz, hd⟩ := y.obj
    obtain ⟨nL, nF⟩ := y.apart hf
    have I3 := y.inv
    have S3 := I3.suite he hd y.na nL nF
    refine wpAny_handleBy_cons (codeAny_handlers_test ?_) (by intro q; cases q)
    have LT : PySem.W.Looks (model X.prog X.w) s.heap (typeOf (.ref a)) cls := fun _ _ _ _ kk qq => wpAny_typeOf_ref (kk _ _ he) (by rw [hz.1]; exact qq)
    have LM := PySem.W.exm_one (M := model X.prog X.w) I3.kIn LT hb
    have named : ∀ {Q : Value → Shared → Prop} {E : Value → Shared → Prop}, Q q.1 s → wpAny (model X.prog X.w) (X.A.mark (some (.ref a))) (eval (.Name x np) X.env) Q E s := fun {Q E} qq => by
      obtain ⟨hg, hdbg, hm | ⟨hm, hv, hnn⟩⟩ := hc
      · exact ld_glob S3 hg hm qq hdbg
      · exact ld_blt S3 hg hm hv qq hnn hdbg
    refine named (LM.here ?_)
    cases b with
    | false =>
      show wpAny _ X.A (handleBy (.ref a) X.env hds) _ _ _
      exact ih (hno rfl)
    | true =>
      refine codeAny_handlers_suite_as (y.again fun s4 y4 => ?_)
      obtain ⟨oe4, vs4, he4, hz4, hd4⟩ := y4.obj
      have S4 := y4.inv.suite he4 hd4 y4.na nL nF
      refine store_ok (v := .ref a) (X := X.suite a ((a, oe4) :: (X.pn ++ pins))) S4 hN hi (.inl hln) rfl (fun s5 S5 => ?_) (.inr hln)
      have run := (hsu a oe4 cls d (X.pn ++ pins) hz4 ⟨_, hd4⟩).run [] s5 _ H _ S5 (hyes rfl a y.na)
      refine wpAny_mono run (fun f s6 hsp => ?_) (fun _ _ z => False.elim z)
      have gone : ∀ {τ : L2.St} {G : Hp} {Q : Shared → Prop}, Inv (X.suite a ((a, oe4) :: (X.pn ++ pins))) [] τ G s6 → (∀ s7, Inv X pins (τ.set q.2.1 none) G s7 → Q s7) →
          wpAny (model X.prog X.w) X.A (do bindName X.env n .none; unbindBehindTheSuite X.env n ps) (fun _ s7 => Q s7) X.xe s6 := fun {τ G Q} S6 hq => gone_ok (S6.unsuite I3.ok) hN hi hln hq
      cases f with
      | ret u =>
        obtain ⟨v6, τ, G, S6, r6, q6⟩ := hsp
        exact gone S6 fun s7 J7 => ⟨_, _, _, J7, r6, q6⟩
      | next =>
        obtain ⟨τ, G, S6, q6⟩ := hsp
        exact gone S6 fun s7 J7 => ⟨_, _, J7, q6⟩
      | brk =>
        obtain ⟨τ, G, S6, q6⟩ := hsp
        exact gone S6 fun s7 J7 => ⟨_, _, J7, q6⟩
      | cont =>
        obtain ⟨τ, G, S6, q6⟩ := hsp
        exact gone S6 fun s7 J7 => ⟨_, _, J7, q6⟩
theorem ps_tryM {body : List PySem.Stmt} {hds : List ExceptHandler} {l : List ClT} {pos : Pos} {tb : WX → TS} {W : WX} (hs : X.stack = X.env :: X.outer) (hf : X.env.frame = some X.env.locals) (hN : X.N.Nodup) (tk : Takes X W) (hne : hds ≠ [])
    (hb : ∀ (W : WX) (pn : List (Addr × Obj)) (xe : Value → Shared → Prop), Takes (X.tr pn xe) W → PassesOwn (model X.prog X.w) X.A X.env xe → PSs (X.tr pn xe) body (tb W)) (ok : ClsOk X hds l) :
    PS X (.Try body hds [] [] pos) (fun D σ H => tb (wM X.K W D l) D σ H) := by
  refine ⟨fun pins s σ H D I h => ?_⟩
  have xok := I.ok
  obtain ⟨hd0, hds0, rfl⟩ : ∃ hd0 hds0, hds = hd0 :: hds0 := by
    cases hds with
    | nil => exact absurd rfl hne
    | cons a b => exact ⟨a, b, rfl⟩
  refine wpAny_Try_except ?_
  have hbody := hb (wM X.K W D l) (X.pn ++ pins) (fun e t => wpAny (model X.prog X.w) X.A (noteFrame e X.env) (fun _ t2 => wpAny (model X.prog X.w) X.A (setFlight e none) (fun _ t3 => wpAny (model X.prog X.w) X.A (handleBy e X.env (hd0 :: hds0)) (SP X pins D) X.xe t3) X.xe t2) X.xe t)
    (fun u s' xx => ?_) PassesOwn.looking
  · refine wpAny_mono (hbody.run [] s σ H D (I.toTry _) h) (fun f s1 hsp => ?_) (fun e s1 he => he)
    cases f with
    | ret u =>
      obtain ⟨v, τ, G, J', r, q⟩ := hsp
      exact ⟨v, τ, G, J'.ofTry xok, r, q⟩
    | next =>
      obtain ⟨τ, G, J', q⟩ := hsp
      exact wpAny_execs_nil ⟨τ, G, J'.ofTry xok, q⟩
    | brk =>
      obtain ⟨τ, G, J', q⟩ := hsp
      exact ⟨τ, G, J'.ofTry xok, q⟩
    | cont =>
      obtain ⟨τ, G, J', q⟩ := hsp
      exact ⟨τ, G, J'.ofTry xok, q⟩
  · obtain ⟨a, B, sI, pins', τ, G, cls, d, rfl, J', nb, up, sky, na, os, ag, w⟩ := xx
    have J : Inv X pins τ G sI := J'.ofTry xok
    have fr : X.A.frames = some (X.env :: X.outer) := by rw [xok.frames, hs]
    have sky' : Sky B (X.env :: X.outer) a (Zc cls d) X.env.locals s'.heap := by rw [← hs]; exact sky
    refine Sky.land Zc.steady fr hf sky' fun h3 fl3 up3 => ?_
    exact asks hs hf hN tk ok ⟨⟨B, sI, J, nb, up.trans up3, fl3, os, ag⟩, na⟩ w
end
end Mini
end

section
/-! Mini: try, two stores at once, items in place; every statement (own work). -/
namespace Mini
open PySem PySem.Spec PyProof.Rows L2
section
variable {C : List Cl} {ca : Nat → Addr} {call : Caller} {k : Nat}
/-- the reading of a clause's suite -/
def tCl (K : PySem.W.Frag) (C : List Cl) (ca : Nat → Addr) (i : Nat) (e : E) (a : Addr) (cls : Value) (d : Option Addr) : TS := fun D σ H => ∃ c k0 dd fs, C[c]? = some k0 ∧ cls = .ref (ca c) ∧ d = some dd ∧ tX K C i a dd c fs e σ H D.rt
def clsL (K : PySem.W.Frag) (C : List Cl) (ca : Nat → Addr) (vs : Nat → Value) : S → List ClT
  | .hcons a i e hs => (vs a, i, tCl K C ca i e) :: clsL K C ca vs hs
  | _ => []
theorem Nm.names {Γ : Gm} {X : Cx} {W : WX} (o : XOk C ca call k Γ X W) {x : Str} {v : Value} (hg : glb Γ.sc x = true) (hd : dbg x = false) (hn : Nm X.mg x 0 v) : Names X x v := by
  rcases hn with ⟨_, m1, _⟩ | ⟨z, _⟩
  · exact ⟨glb_of o hg, hd, .inl m1⟩
  · cases z
theorem inv_hd {Γ : Gm} {a i : Nat} {e : E} {hd : ExceptHandler} (h : ckHd Γ a i e hd = true) : ∃ x n v px pr ph, hd = .ExceptHandler (some (.Name x px)) (some n) [.Return (some v) pr] ph ∧ glb Γ.sc x = true ∧ dbg x = false ∧ (x, a, 0) ∈ Γ.cls ∧ Γ.N[i]? = some n ∧ Γ.sc.names.lookup n = some .local ∧
    dbg n = false ∧ (n == ("__classdict__" : Str)) = false ∧ ckX Γ n e v = true := by
  obtain ⟨ty, nm, body, ph⟩ := hd
  cases ty with
  | none => cases h
  | some t =>
    cases nm with
    | none => cases h
    | some n =>
      match body, h with
      | [s], h =>
        have h' : (ckHt Γ a t && decide (Γ.N[i]? = some n) && decide (Γ.sc.names.lookup n = some .local) && !dbg n && !(n == ("__classdict__" : Str)) && ckHs Γ n e s) = true := h
        simp only [Bool.and_eq_true, decide_eq_true_eq, Bool.not_eq_true'] at h'
        obtain ⟨⟨⟨⟨⟨g1, g2⟩, g3⟩, g4⟩, g5⟩, g6⟩ := h'
        cases t with
        | Name x px =>
          cases s with
          | Return w pr =>
            cases w with
            | none => cases g6
            | some v =>
              have g1' : (glb Γ.sc x && !dbg x && Γ.cls.any fun p => p.1 == x && p.2.1 == a && p.2.2 == 0) = true := g1
              simp only [Bool.and_eq_true, Bool.not_eq_true', List.any_eq_true, beq_iff_eq] at g1'
              obtain ⟨⟨k1, k2⟩, ⟨x', a', m⟩, mm, ⟨q1, q2⟩, q3⟩ := g1'
              subst q1; subst q2; subst q3
              exact ⟨x', n, v, px, pr, ph, rfl, k1, k2, mm, g2, g3, g4, g5, g6⟩
          | _ => cases g6
        | _ => cases g1
theorem cls_ok {Γ : Gm} {X : Cx} {W : WX} (o : XOk C ca call k Γ X W) : ∀ (hs : S) (hds : List ExceptHandler), ckH Γ hs hds = true →
    ∃ l : List ClT, ClsOk X hds l ∧ ∀ (Dn : Ends) (ρ : List Addr) (H : Hp) (c : Nat) (fs : List D) (env : Env) (h : List O) (σ' : L2.St) (ρ' : List Addr) (H' : Hp) (dd : Addr) (fl : List (Str × V)),
      PostS X.K C ca W ρ H Dn (handle C c fs env h hs) → Xt ρ H ρ' H' → Wd X.K ρ' h H' → EnvR X.K ρ' H' σ' env → H' dd = some (.xd fl) → XF X.K C ρ' H' c fs fl → wM X.K W Dn l (.ref (ca c)) (some dd) σ' H' := by
  intro hs
  induction hs with
  | hnil =>
    intro hds h
    cases hds with
    | cons _ _ => cases h
    | nil =>
      exact ⟨[], .nil, fun Dn ρ H c fs env h σ' ρ' H' dd fl p x w er e1 e2 => p ρ' H' σ' dd fl x w er e1 e2⟩
  | hcons a i e hs ih =>
    intro hds h
    cases hds with
    | nil => cases h
    | cons hd r =>
      have h0 : (ckHd Γ a i e hd && ckH Γ hs r) = true := h
      simp only [Bool.and_eq_true] at h0
      obtain ⟨h0, g9⟩ := h0
      obtain ⟨x, n, v, px, pr, ph, rfl, g1, g2, g3, g4, g5, g6, g7, g8⟩ := inv_hd h0
      obtain ⟨l, hl, hw⟩ := ih r g9
      obtain ⟨vc, hn, hv⟩ := o.clf.cls _ _ _ g3
      refine ⟨(vc, i, tCl X.K C ca i e) :: l, .cons ⟨x, n, .Return (some v) pr, [], px, ph, rfl, by rw [o.hN]; exact g4, by show X.env.scope.names.lookup n = _; rw [o.sc]; exact g5, hn.names o g1 g2, fun b oe cls d pn hz hf => ?_⟩ hl, ?_⟩
      · refine ⟨fun pins s σ H D I hh => ?_⟩
        obtain ⟨c, k0, dd, fs, hc, rfl, rfl, hh⟩ := hh
        have su := (su_all (a := b) (pn := pn) (fs := fs) o g4 g5 g6 g7 hc hz hf e).1 v g8
        exact (pss_cons (ps_ret su) pss_nil).run pins s σ H D I hh
      · intro Dn ρ H c fs env h σ' ρ' H' dd fl p x w er e1 e2
        obtain ⟨k0, hc, _⟩ := id e2
        refine ⟨isAnc C c a, (hv c k0 hc).2 rfl, fun hb b nb => ?_, fun hb => ?_⟩
        · unfold handle at p
          rw [if_pos hb] at p
          cases ed : evX C c fs e h with
          | none => rw [ed] at p; exact p.elim
          | some dv =>
            obtain ⟨dv, h9⟩ := dv
            rw [ed] at p
            dsimp only at p
            by_cases hi : i < env.length
            case neg => rw [if_neg hi] at p; exact p.elim
            rw [if_pos hi] at p
            refine ⟨c, k0, dd, fs, hc, rfl, rfl, ρ', h, dv, h9, ⟨?_, w, fl, e1, e2⟩, ed, fun ρ2 H2 v2 x2 w2 r2 => p ρ2 H2 v2 (x.trans x2) w2 r2⟩
            rw [List.getElem?_set_self (by rw [er.len]; exact hi)]
        · unfold handle at p
          rw [if_neg (by rw [hb]; decide)] at p
          exact hw Dn ρ H c fs env h σ' ρ' H' dd fl p x w er e1 e2
  | _ =>
    intro hds h
    cases hds <;> cases h
theorem snd_try {b hs : S} (ihb : SndS C ca call k b) : SndS C ca call k (.try b hs) := by
  refine ⟨fun Γ X W x o po hk h => ?_, fun Γ X W x _ _ _ h => ff h (by cases x <;> rfl)⟩
  cases x with
  | Try b' hds oe fe p =>
    cases oe with
    | cons _ _ => cases h
    | nil =>
      cases fe with
      | cons _ _ => cases h
      | nil =>
        have h' : (ckSs b Γ b' && ckH Γ hs hds && !hds.isEmpty) = true := h
        simp only [Bool.and_eq_true, Bool.not_eq_true'] at h'
        obtain ⟨⟨h1, h2⟩, h3⟩ := h'
        obtain ⟨l, hl, hw⟩ := cls_ok o hs hds h2
        refine PS.imp (ps_tryM hk.stk hk.frm (by rw [o.hN]; exact o.nd) o.tk (fun z => by rw [z] at h3; cases h3) (tb := fun W => tS X.K C ca call W b) (fun W' pn xe tk po' => ?_) hl) ?_
        · exact ihb.ss Γ (X.tr pn xe) W' b' ⟨o.hc, o.hN, o.nd, o.sc, o.rm, o.gd, tk, o.fns, o.blt, o.con, o.kin, o.clf, o.fnx⟩ po' ⟨hk.kind, hk.stk, hk.frm⟩ h1
        · rintro D σ H ⟨ρ, hh, env, w, er, p⟩
          refine ⟨ρ, hh, env, w, er, ?_⟩
          unfold exec at p
          cases eb : exec call C b env hh with
          | none => rw [eb] at p; exact p
          | some r =>
            rw [eb] at p
            cases r with
            | fl f h2 => cases f <;> exact p
            | exc c fs e h2 => exact fun ρ' H' σ' dd fl x' w' er' e1 e2 => hw D ρ H c fs e h2 σ' ρ' H' dd fl p x' w' er' e1 e2
  | _ => cases h
theorem sw_two {x y : Str} {px py pt pt2 : Pos} {kt k2 : Nat} {a b : PySem.Expr} {env : PySem.Env} (hk : env.scope.kind = .function) (hx : env.scope.names.lookup x = some .local) (hy : env.scope.names.lookup y = some .local) (hxy : x ≠ y) (hl : (px.line == py.line) = true)
    (ha : plainX a = true) (hb : plainX b = true) (h1 : (foldedForSure 8 a && foldedForSure 8 b) = false) (h2 : (constantsAlone 8 a && constantsAlone 8 b) = false) : swappedStores [.Tuple [.Name x px, .Name y py] kt pt] (.Tuple [a, b] k2 pt2) env = pure (some [x, y]) := by
  have hbk : env.blockKind = .function := by
    unfold PySem.Env.blockKind
    rw [hk]; rfl
  have kx : env.kindOf x = some .local := hx
  have ky : env.kindOf y = some .local := hy
  have hl' : (py.line == px.line) = true := by rw [beq_iff_eq] at hl ⊢; exact hl.symm
  have sa : ∀ e : PySem.Expr, plainX e = true → (match e with | .Starred .. => true | _ => false) = false := fun e h => by cases e <;> first | rfl | cases h
  have fm : ∀ g : Str → Pos → Option Str, g x px = some x → g y py = some y → ([PySem.Expr.Name x px, PySem.Expr.Name y py].filterMap fun t => match t with | .Name id pos => g id pos | _ => none) = [x, y] := fun g e1 e2 => by simp [e1, e2]
  have fm' := fm (fun id pos => if (env.kindOf id == some NameKind.local && pos.line == px.line) = true then some id else none) (by simp [kx]) (by simp only [ky, hl']; rfl)
  have dup : [x, y].eraseDups = [x, y] := by
    have : (y == x) = false := by simpa using hxy.symm
    simp [List.eraseDups, List.eraseDupsBy, List.eraseDupsBy.loop, this]
  unfold swappedStores
  dsimp only
  rw [if_neg (by simp [hbk])]
  rw [if_neg (by
    rw [List.any_cons, List.any_cons, List.any_nil, Bool.or_false, Bool.or_eq_true]
    rintro (z | z)
    · exact Bool.false_ne_true ((sa a ha).symm.trans z)
    · exact Bool.false_ne_true ((sa b hb).symm.trans z))]
  rw [if_neg (by
    refine fun z => ?_
    have z' : ((([PySem.Expr.Name x px, PySem.Expr.Name y py].filterMap fun t => match t with | .Name id pos => (if (env.kindOf id == some NameKind.local && pos.line == px.line) = true then some id else none) | _ => none).length != 2) || (([PySem.Expr.Name x px, PySem.Expr.Name y py].filterMap fun t => match t with | .Name id pos => (if (env.kindOf id == some NameKind.local && pos.line == px.line) = true then some id else none) | _ => none).eraseDups.length != ([PySem.Expr.Name x px, PySem.Expr.Name y py].filterMap fun t => match t with | .Name id pos => (if (env.kindOf id == some NameKind.local && pos.line == px.line) = true then some id else none) | _ => none).length)) = true := z
    rw [fm', dup] at z'
    cases z')]
  rw [if_neg (by simp [h1] <;> simpa using h1), if_neg (by simpa using h2)]
  exact congrArg (fun l => pure (some l)) fm'
end
end Mini
end

section
/-! Mini: two stores at once, items in place; every statement (own work). -/
namespace Mini
open PySem PySem.Spec PyProof.Rows L2
section
variable {C : List Cl} {ca : Nat → Addr} {call : Caller} {k : Nat}
theorem inv_two {Γ : Gm} {i j : Nat} {ts : List PySem.Expr} (h : ckPar Γ i j ts = true) : ∃ n m pn pm, ts = [.Name n pn, .Name m pm] ∧ Γ.N[i]? = some n ∧ Γ.N[j]? = some m ∧ i ≠ j ∧ Γ.sc.names.lookup n = some .local ∧ Γ.sc.names.lookup m = some .local ∧ n ≠ m ∧ (pn.line == pm.line) = true := by
  unfold ckPar at h
  split at h
  · rename_i n pn m pm
    simp only [Bool.and_eq_true, decide_eq_true_eq] at h
    obtain ⟨⟨⟨⟨⟨⟨a1, a2⟩, a3⟩, a4⟩, a5⟩, a6⟩, a7⟩ := h
    exact ⟨n, m, pn, pm, rfl, a1, a2, a3, a4, a5, a6, a7⟩
  · cases h
theorem inv_par {Γ : Gm} {i j : Nat} {es : E} {x : PySem.Stmt} (h : ckS (.par i j es) Γ x = true) : ∃ n m pn pm kt pt a b k2 pt2 p, x = .Assign [.Tuple [.Name n pn, .Name m pm] kt pt] (.Tuple [a, b] k2 pt2) p ∧ plainX a = true ∧ plainX b = true ∧ (foldedForSure 8 a && foldedForSure 8 b) = false ∧ (constantsAlone 8 a && constantsAlone 8 b) = false ∧
    Γ.N[i]? = some n ∧ Γ.N[j]? = some m ∧ i ≠ j ∧ Γ.sc.names.lookup n = some .local ∧ Γ.sc.names.lookup m = some .local ∧ n ≠ m ∧ (pn.line == pm.line) = true ∧ ckEs es Γ [a, b] = true := by
  cases x with
  | Assign tg v p =>
    cases tg with
    | nil => cases h
    | cons t tg =>
      cases tg with
      | cons _ _ => cases t <;> cases h
      | nil =>
        cases t with
        | Tuple ts kt pt =>
          cases v with
          | Tuple vs k2 pt2 =>
            cases vs with
            | nil => cases h
            | cons a vs =>
              cases vs with
              | nil => cases h
              | cons b vs =>
                cases vs with
                | cons _ _ => cases h
                | nil =>
                  have h' : ((plainX a && plainX b && !(foldedForSure 8 a && foldedForSure 8 b) && !(constantsAlone 8 a && constantsAlone 8 b)) && ckPar Γ i j ts && ckEs es Γ [a, b]) = true := h
                  simp only [Bool.and_eq_true, Bool.not_eq_true'] at h'
                  obtain ⟨⟨⟨⟨⟨h1, h2⟩, h3⟩, h4⟩, h5⟩, h6⟩ := h'
                  obtain ⟨n, m, pn, pm, rfl, a1, a2, a3, a4, a5, a6, a7⟩ := inv_two h5
                  exact ⟨n, m, pn, pm, kt, pt, a, b, k2, pt2, p, rfl, h1, h2, h3, h4, a1, a2, a3, a4, a5, a6, a7, h6⟩
          | _ => cases h
        | _ => cases h
  | _ => cases h
theorem snd_par {i j : Nat} {es : E} : SndS C ca call k (.par i j es) := by
  refine ⟨fun Γ X W x o po hk h => ?_, fun Γ X W x _ _ _ h => ff h (by cases x <;> rfl)⟩
  obtain ⟨n, m, pn, pm, kt, pt, a, b, k2, pt2, p, rfl, h1, h2, h3, h4, a1, a2, a3, a4, a5, a6, a7, h6⟩ := inv_par h
  have lx : X.env.scope.names.lookup n = some .local := by rw [o.sc]; exact a4
  have ly : X.env.scope.names.lookup m = some .local := by rw [o.sc]; exact a5
  refine PS.imp (ps_par o.hc (by rw [o.hN]; exact o.nd) (by rw [o.hN]; exact a1) (by rw [o.hN]; exact a2) a3 lx ly ((snd_all es).1.s Γ X W _ o h6) (sw_two hk.kind lx ly a6 a7 h1 h2 h3 h4)) ?_
  rintro D σ H ⟨ρ, hh, env, w, er, p⟩
  refine ⟨ρ, hh, env, w, er, PostS.bns Xt.refl w er p fun vs h1 ρ1 H1 us p1 y1 z1 w1 er1 r1 => ?_⟩
  have r1' : RVs X.K ρ1 H1 us vs := r1
  match vs, p1, r1' with
  | [x, y], p1, ⟨u, r, e1, q1, v, r', e2, q2, e3⟩ =>
    subst e3; subst e2; subst e1
    dsimp only at p1
    by_cases hl : i < env.length ∧ j < env.length
    · rw [if_pos hl] at p1
      exact ⟨u, v, rfl, p1 ρ1 H1 _ z1 w1 ((er1.set q1).set q2)⟩
    · rw [if_neg hl] at p1
      exact p1.elim
  | [], p1, _ => exact p1.elim
  | [_], p1, _ => exact p1.elim
  | _ :: _ :: _ :: _, p1, _ => exact p1.elim
/-- o[i] of a list, by values -/
theorem get_list {X : Cx} : PGet X (rIxL X.K) := by
  intro pins s σ H o i ov iv Q I ro ri h
  obtain ⟨p, xs, n, z, rfl, rfl, hq, he, q⟩ := h
  cases ro
  obtain ⟨t, rfl⟩ := ri
  obtain ⟨its, r, pl, hz⟩ := I.list hq
  obtain ⟨j, h1, h2, h3, h4, h5⟩ := atI_get he
  obtain ⟨w, ew, rw'⟩ := r.get h2
  have hl := r.length
  have hn := line63
  by_cases h0 : 0 ≤ n
  · have hj : n.toNat = j := by
      rw [seqIndex_of h0 h5] at h1
      exact Option.some.inj h1
    exact wpAny_getItem_list pl.isList h0 (by omega) (by rw [hj]; simpa using ew) ⟨z, H, I, rw', q⟩
  · have hj : (n + (its.toArray.size : Int)).toNat = j := by
      rw [seqIndex_neg (by omega) h4] at h1
      rw [List.size_toArray, ← hl]
      exact Option.some.inj h1
    exact wpAny_getItem_list_neg pl.isList (by omega) (by rw [List.size_toArray] <;> omega) (by omega) (by rw [hj]; simpa using ew) ⟨z, H, I, rw', q⟩
theorem get_ok {X : Cx} {ρ : List Addr} {H : Hp} {h : List O} {Wc : Value → Option Addr → Hp → Prop} {Q : VK} {u v : V} {x y : D} (w : Wd X.K ρ h H) (r1 : RV X.K ρ H u x) (r2 : RV X.K ρ H v y) (hb : lstB h x = true)
    (p : Post ⟨X.K, C, ca⟩ ρ H (relD X.K) Wc Q (ixG x y h)) : rIxL X.K u v H Q := by
  unfold lstB at hb
  split at hb
  · rename_i n
    unfold ixG at p
    split at p
    · rename_i xs i e
      cases r2
      split at p
      · rename_i d e1
        cases e2 : isLst h n with
        | none => rw [e2] at hb; cases hb
        | some ys =>
          obtain ⟨a, us, rfl, q1, q2, q3, s⟩ := is_lst w r1 e2
          have e3 : xs = ys := by
            have e4 : rdLst h n = some xs := e
            unfold rdLst at e4
            rw [q2] at e4
            cases e4
            rfl
          subst e3
          obtain ⟨z, e2, e3⟩ := at_rv s e1
          exact ⟨a, us, i, z, rfl, rfl, .inl (.inl q3), e2, p.ok Xt.refl w e3⟩
      · exact p.elim
    · exact p.elim
  · cases hb
theorem snd_augS {a i e : E} {op : Operator} : SndS C ca call k (.augS a i op e) := by
  refine ⟨fun Γ X W x o po hk h => ?_, fun Γ X W x _ _ _ h => ff h (by cases x <;> rfl)⟩
  cases x with
  | AugAssign t op' v p =>
    have h' : (decide (op = op') && ckA Γ a i t && ckE e Γ v) = true := by
      cases t <;> exact h
    simp only [Bool.and_eq_true, decide_eq_true_eq] at h'
    obtain ⟨⟨rfl, h2⟩, h3⟩ := h'
    cases t with
    | Subscript a' i' pt =>
      have h2' : (ckE a Γ a' && ckE i Γ i' && plainX i') = true := h2
      simp only [Bool.and_eq_true] at h2'
      obtain ⟨⟨g1, g2⟩, g3⟩ := h2'
      obtain ⟨r, hr, hr2⟩ := aug_ok (X := X) (C := C) (ca := ca) op
      have hp : PIp X op r := hr
      refine PS.imp (ps_augS ((snd_all a).1.e Γ X W _ o g1) ((snd_all i).1.e Γ X W _ o g2) get_list ((snd_all e).1.e Γ X W _ o h3) hp set_list (fun ov iv new => ?_)) ?_
      · cases i' <;> first | rfl | cases g3
      · rintro D σ H ⟨ρ, hh, env, w, er, p⟩
        refine ⟨ρ, hh, env, w, er, PostS.bns Xt.refl w er p fun x1 h1 ρ1 H1 v1 p1 y1 z1 w1 er1 r1 => ?_⟩
        refine ⟨ρ1, h1, env, w1, er1, PostS.bns z1 w1 er1 p1 fun x2 h2 ρ2 H2 v2 p2 y2 z2 w2 er2 r2 => ?_⟩
        by_cases hb : lstB h2 x1 = true
        · rw [if_pos hb] at p2
          refine get_ok w2 (w1.rv y2 r1) r2 hb (PostS.bns z2 w2 er2 p2 fun x3 h3 ρ3 H3 v3 p3 y3 z3 w3 er3 r3 => ?_)
          refine ⟨ρ3, h3, env, w3, er3, PostS.bns z3 w3 er3 p3 fun x4 h4 ρ4 H4 v4 p4 y4 z4 w4 er4 r4 => ?_⟩
          refine hr2 w4 (w3.rv y4 r3) r4 (PostS.bns z4 w4 er4 p4 fun x5 h5 ρ5 H5 v5 p5 y5 z5 w5 er5 r5 => ?_)
          have s1 : Xt ρ1 H1 ρ5 H5 := ((y2.trans y3).trans y4).trans y5
          have s2 : Xt ρ2 H2 ρ5 H5 := (y3.trans y4).trans y5
          cases es : setI x1 x2 x5 h5 with
          | none => rw [es] at p5; exact p5.elim
          | some h6 =>
            rw [es] at p5
            exact set_ok w5 (w1.rv s1 r1) (w2.rv s2 r2) r5 es fun H' x' w' => p5 _ _ σ (z5.trans x') w' (er5.fwd w5 x')
        · rw [if_neg hb] at p2
          exact p2.elim
    | _ => cases h2
  | _ => cases h
theorem snd_S : ∀ ir : S, SndS C ca call k ir := by
  have none' : ∀ {ir : S}, (∀ Γ x, ckS ir Γ x = false) → (∀ Γ x, ckSs ir Γ x = false) → SndS C ca call k ir := fun {ir} h1 h2 => ⟨fun Γ X W x _ _ _ h => ff h (h1 Γ x), fun Γ X W x _ _ _ h => ff h (h2 Γ x)⟩
  intro ir
  induction ir with
  | nil => exact snd_nilS
  | seq a b iha ihb => exact snd_seq iha ihb
  | asg tg e => exact snd_asg
  | par i j es => exact snd_par
  | aug i op e => exact snd_aug
  | augS a i op e => exact snd_augS
  | ex e => exact snd_ex
  | ite c a b iha ihb => exact snd_ite iha ihb
  | «for» tg it b ihb => exact snd_for ihb
  | «while» c b ihb => exact snd_while ihb
  | brk => exact snd_brk
  | cnt => exact snd_cnt
  | ret e => exact snd_ret
  | retN => exact snd_retN
  | raise c es => exact snd_raise
  | «try» b hs ihb _ => exact snd_try ihb
  | hnil => exact none' (fun Γ x => by cases x <;> rfl) (fun Γ x => by cases x <;> rfl)
  | hcons a i e hs _ => exact none' (fun Γ x => by cases x <;> rfl) (fun Γ x => by cases x <;> rfl)
  | bad => exact ⟨fun Γ X W x _ _ _ _ => ⟨fun pins s σ H D I h => (by obtain ⟨ρ, hh, env, w, er, p⟩ := h; exact p.elim)⟩, fun Γ X W x _ _ _ h => ff h (by cases x <;> rfl)⟩
end
end Mini
end

section
/-! Mini: every def of the text keeps what callF says (own work). -/
namespace Mini
open PySem PySem.Spec PyProof.Rows L2

/-! ### a def by its body, no repr's guard above -/
theorem fnG_of {P : Program} {w : World} {K : PySem.W.Frag} {mg : Str → Option Value} {base : Heap} {k : Nat} {f : Addr} {name qual : Str} {params : Arguments} {body : List PySem.Stmt} {scope : Scope} {dV kV doc pm cdv ct oc : Value} {an od : Option Addr}
    {osl : Array (Option Value)} {N ps : List Str} {sp : Sp} (lk : K.lookup f = some ⟨oc, od, .func (PySem.W.fnOf name qual params body scope dV kV doc pm an cdv ct), osl⟩) (hcd : PySem.W.codeIn K cdv qual = true) (S : FnScope N ps scope)
    (len : ∀ vs H Q E, sp vs H Q E → vs.length = ps.length)
    (hbody : ∀ (A : Around) (outer : List PySem.Env) (s : Shared) (H : Hp) (vs : List V) (Q : VK) (E : XK), Room (k + 3) (A.deeper (envOfC qual scope s.heap.objs.size f cdv)) → (A.deeper (envOfC qual scope s.heap.objs.size f cdv)).guards = some [] → sp vs H Q E →
      ∃ t, PSs (cxOf (L2.CX P w) P w K mg base N qual scope f cdv A outer s H E) body t ∧ t { nx := fun _ H' => Q .non H', rt := Q } (start N vs) H) :
    FnG P w K mg base (k + 1) f (PySem.W.fnOf name qual params body scope dV kV doc pm an cdv ct) ps sp := by
  refine ⟨len, fun A outer s H args us vs Q E room gd e0 hb r hsp => ?_⟩
  have hl := len _ _ _ _ hsp
  have kin : K.In s.heap := e0.mod.kin.keeps fun b o e => (e0.bs b o e).1
  have nolim : s.heap.NoLimit := e0.mod.nolimit.keeps fun b o e => (e0.bs b o e).1
  have kinds : ∀ y ∈ ps.zip us, scope.names.lookup y.1 = some .local ∨ (scope.names.lookup y.1 = some .cell ∧ ((cellsFrom (s.heap.objs.size + 1) scope.names []).lookup y.1).isSome = true) := by
    rintro ⟨n, v⟩ hy
    rcases S.par n (List.of_mem_zip hy).1 with q | q
    · exact .inl q
    · exact .inr ⟨q, PySem.W.cellsFrom_some _ _ _ (.inl q)⟩
  refine codeAny_call_function room.depth (kin _ _ lk) rfl S.co S.gen rfl (PySem.W.codeRec_of kin hcd) (hb _ _ _ _ ?_)
  refine wpAny_newFunctionEnv_cells S.kind kinds fun env he s1 x => ?_
  subst he
  refine ⟨nolim.keeps x.toInCall.keep, codeAny_func ?_⟩
  obtain ⟨t, ht, hq⟩ := hbody A outer s H vs Q E (room.deeper _) (by first | exact gd | (show (A.deeper _).guards = _; simpa [Around.deeper] using gd)) hsp
  have I : Inv (cxOf (L2.CX P w) P w K mg base N qual scope f cdv A outer s H E) [] (start N vs) H s1 := inv_start S room.hd e0 hl r x
  refine wpAny_mono (ht.run [] s1 (start N vs) H _ I hq) (fun fl s' ends => ?_) fun e s' ends => ends
  have done : ∀ {τ : L2.St} {G : Hp} {v : V} {u : Value}, Inv (cxOf (L2.CX P w) P w K mg base N qual scope f cdv A outer s H E) [] τ G s' → RelV v u → Q v G → CE outer P w H s Q u s' :=
    fun {τ G v u} J rv q => ⟨v, G, J.os, J.bare, J.base, J.hok, rv, q⟩
  cases fl with
  | next =>
    obtain ⟨τ, G, J, q⟩ := ends
    exact done (v := V.non) (u := Value.none) J rfl q
  | ret u =>
    obtain ⟨v, τ, G, J, rv, q⟩ := ends
    exact done J rv q
  | brk =>
    obtain ⟨_, _, _, q⟩ := ends
    exact q.elim
  | cont =>
    obtain ⟨_, _, _, q⟩ := ends
    exact q.elim

/-! ### callF -/
theorem Wd.nil0 {K : PySem.W.Frag} {H : Hp} : Wd K [] [] H := ⟨rfl, List.nodup_nil, fun i o a e => by simp at e⟩
theorem start_env {K : PySem.W.Frag} {ρ : List Addr} {H : Hp} {vs : List V} {ds : List D} {N : List Str} (r : RVs K ρ H vs ds) : EnvR K ρ H (start N vs) (startD N.length ds) := by
  refine ⟨?_, fun i d e => ?_⟩
  · unfold L2.start startD
    simp [r.len]
  · unfold startD at e
    by_cases hi : i < ds.length
    · rw [List.getElem?_append_left (by simpa using hi), List.getElem?_map] at e
      cases e1 : ds[i]? with
      | none => rw [e1] at e; cases e
      | some d' =>
        rw [e1] at e
        cases e
        obtain ⟨v, e2, e3⟩ := r.get e1
        refine ⟨v, ?_, e3⟩
        unfold L2.start
        rw [List.getElem?_append_left (by simpa [r.len] using hi), List.getElem?_map, e2]
        rfl
    · rw [List.getElem?_append_right (by simpa using hi), List.getElem?_replicate] at e
      split at e <;> cases e
section
variable {K : PySem.W.Frag} {C : List Cl} {ca : Nat → Addr} {ρ ρ' : List Addr} {h g : List O} {H H' : Hp}
theorem OR.shifted {α : List Addr} (t : TS' K H H') {a : Addr} {o : O} (e : H' a = H a) (r : OR K ρ H a o) : OR K (α ++ ρ) H' a (o.shift α.length) := by
  cases o with
  | lst xs => obtain ⟨vs, e1, r⟩ := r; exact ⟨vs, by rw [e]; exact e1, RVs.shifted t _ _ r⟩
  | ro xs => obtain ⟨u, vs, e1, r⟩ := r; exact ⟨u, vs, by rw [e]; exact e1, RVs.shifted t _ _ r⟩
  | dct _ => exact r.elim
theorem shiftH_map (k : Nat) : ∀ g : List O, shiftH k g = g.map (O.shift k)
  | [] => rfl
  | x :: xs => by rw [shiftH, shiftH_map k xs]; rfl
/-- what a call of pure arguments made is put beside what was -/
theorem Wd.beside (w : Wd K ρ h H) (x : Xt [] H ρ' H') (w' : Wd K ρ' g H') : Xt ρ H (ρ ++ ρ') H' ∧ Wd K (ρ ++ ρ') (h ++ shiftH h.length g) H' := by
  obtain ⟨⟨τ, e1, n1⟩, fr, kp⟩ := x
  rw [List.nil_append] at e1
  subst e1
  have same : ∀ a, H a ≠ none → H' a = H a := fun a ha => by
    cases e : H a with
    | none => exact absurd e ha
    | some o => rw [fr a o e (by simp)]
  have ts : TS' K H H' := by
    intro a vs q
    rcases q with (q | ⟨u, q⟩) | q
    · exact .inl (.inl (fr a _ q (by simp)))
    · exact .inl (.inr ⟨u, fr a _ q (by simp)⟩)
    · exact .inr q
  refine ⟨⟨⟨ρ', rfl, n1⟩, fun a o e _ => fr a o e (by simp), kp⟩, ⟨by rw [List.length_append, List.length_append, shiftH_map, List.length_map, w.len, w'.len], ?_, fun i o a e2 e3 => ?_⟩⟩
  · exact List.nodup_append.mpr ⟨w.nd, w'.nd, fun a m b mb e => w.there m (by rw [e]; exact n1 b mb)⟩
  · by_cases hi : i < ρ.length
    · rw [List.getElem?_append_left (by rw [← w.len]; exact hi)] at e2
      rw [List.getElem?_append_left hi] at e3
      exact OR.mono ts (fun n a e => by rw [List.getElem?_append_left (List.getElem?_eq_some_iff.mp e).1]; exact e) (same a (w.there (mem_of_get e3))) (w.obj i o a e2 e3)
    · rw [List.getElem?_append_right (by rw [← w.len]; omega), shiftH_map, List.getElem?_map] at e2
      rw [List.getElem?_append_right (by omega)] at e3
      rw [w.len] at e3
      cases e4 : g[i - h.length]? with
      | none => rw [e4] at e2; cases e2
      | some o' =>
        rw [e4] at e2
        cases e2
        rw [← w.len]
        exact OR.shifted TS'.refl rfl (w'.obj _ o' a e4 e3)
theorem RV.pure_shift : ∀ (d : D), d.pure = true → ∀ k, d.shift k = d := by
  intro d
  exact D.rec (motive_1 := fun d => d.pure = true → ∀ k, d.shift k = d) (motive_2 := fun xs => D.pureL xs = true → ∀ k, D.shiftL k xs = xs)
    (fun _ _ => rfl) (fun _ _ _ => rfl) (fun _ _ _ => rfl) (fun _ _ _ => rfl) (fun xs ih h k => by rw [D.shift, ih (by simpa [D.pure] using h)]) (fun n h => by simp [D.pure] at h)
    (fun _ _ => rfl) (fun x xs ih1 ih2 h k => by
      have h' : x.pure = true ∧ D.pureL xs = true := by simpa [D.pureL] using h
      rw [D.shiftL, ih1 h'.1, ih2 h'.2]) d
theorem tidy_ok (w' : Wd K ρ' g H') {v : V} {d : D} (r : RV K ρ' H' v d) : ∃ ρt, Wd K ρt (tidy d g).2 H' ∧ RV K ρt H' v (tidy d g).1 ∧ ∀ a ∈ ρt, a ∈ ρ' := by
  unfold tidy
  split
  · rename_i hp
    exact ⟨[], Wd.nil0, RV.any TS'.refl d v hp r, fun a m => by simp at m⟩
  · split
    · rename_i m hp
      obtain ⟨a, ev, ea⟩ := r
      split
      · rename_i o eo
        split
        · rename_i po
          have r0 := w'.obj m o a eo ea
          refine ⟨[a], ⟨rfl, by simp, fun i o' b e1 e2 => ?_⟩, ⟨a, ev, rfl⟩, fun b mb => by simp at mb; rw [mb]; exact mem_of_get ea⟩
          have hi : i = 0 := by
            have := (List.getElem?_eq_some_iff.mp e1).1
            simpa using this
          subst hi
          simp at e1 e2
          subst e1; subst e2
          cases o with
          | lst xs =>
            obtain ⟨vs, q1, q2⟩ := r0
            exact ⟨vs, q1, RVs.any TS'.refl xs vs (by simpa [O.pure] using po) q2⟩
          | ro xs => cases po
          | dct _ => exact r0.elim
        · exact ⟨ρ', w', ⟨a, ev, ea⟩, fun b mb => mb⟩
      · exact ⟨ρ', w', ⟨a, ev, ea⟩, fun b mb => mb⟩
    · exact ⟨ρ', w', r, fun b mb => mb⟩
end
end Mini
end

section
/-! Mini: calls of the text's defs (own work). -/
namespace Mini
open PySem PySem.Spec PyProof.Rows L2

structure Tb where
  fns : List (Str × Nat × List D)
  cls : List (Str × Nat × Nat)
  con : List (Str × D)
  kin : List (Str × List Nat)
/-- the def at a is f of the table -/
structure FnS (K : PySem.W.Frag) (T : Tb) (f : Fn) (a : Addr) (fd : FuncData) (ps : List Str) : Prop where
  is : ∃ (Γ : Gm) (oc : Value) (od : Option Addr) (name qual : Str) (params : Arguments) (body : List PySem.Stmt) (scope : Scope) (dV kV doc pm cdv ct : Value) (an : Option Addr) (osl : Array (Option Value)),
    fd = PySem.W.fnOf name qual params body scope dV kV doc pm an cdv ct ∧ K.lookup a = some ⟨oc, od, .func fd, osl⟩ ∧ PySem.W.codeIn K cdv qual = true ∧ FnScope Γ.N ps scope ∧ Γ.sc = scope ∧ Γ.ts = scope ∧ Γ.fns = T.fns ∧ Γ.cls = T.cls ∧ Γ.con = T.con ∧ Γ.kin = T.kin ∧
      ckSs f.body Γ body = true ∧ f.np = ps.length ∧ f.nl = Γ.N.length
/-- the whole text -/
structure Whole (P : Program) (w : World) (K : PySem.W.Frag) (mg : Str → Option Value) (base : Heap) (C : List Cl) (ca : Nat → Addr) (T : Tb) (PF : List Fn) : Prop where
  fns : ∀ x i ds, (x, i, ds) ∈ T.fns → ∃ f a fd ps us dvs, PF[i]? = some f ∧ FnS K T f a fd ps ∧ mg x = some (.ref a) ∧ PySem.W.keepIn K (.ref a) = true ∧ Binds K fd ps us ∧ Vals dvs us ∧ ∀ ρ H, RVs K ρ H dvs ds
  blt : ∀ x ∈ blts, mg x = none
  con : ∀ x d, (x, d) ∈ T.con → ∃ v u, mg x = some u ∧ RelV v u ∧ ∀ ρ H, RV K ρ H v d
  kin : ∀ x cs, (x, cs) ∈ T.kin → ∃ a fd ps, mg x = some (.ref a) ∧ PySem.W.keepIn K (.ref a) = true ∧ KinF P w K mg base C ca a fd ps cs ∧ Binds K fd ps []
  clf : ClF C ca T.cls P w K mg base
section
variable {P : Program} {w : World} {K : PySem.W.Frag} {mg : Str → Option Value} {base : Heap} {C : List Cl} {ca : Nat → Addr} {T : Tb} {PF : List Fn}
theorem locS_loc {sc : Scope} {x : Str} (h : locS sc x = true) : Loc sc x := by
  unfold locS at h
  split at h
  · rename_i e; exact .inl e
  · rename_i e; exact .inr e
  · cases h
/-- the ends of a body are the call's -/
theorem ends_pure {call : Caller} {ρ : List Addr} {h : List O} {H : Hp} {E : XK} {Q : VK} {f : Fn} {ds : List D} (w0 : Wd K ρ h H)
    (p : Post ⟨K, C, ca⟩ ρ H (relD K) E Q (match runB call C f ds [] with
          | some (.ok d g) => some (.ok ((tidy d g).1.shift h.length) (h ++ shiftH h.length (tidy d g).2))
          | some (.exc c fs g) => if D.pureL fs then some (.exc c fs h) else none
          | none => none)) :
    PostS K C ca (fun cls d _ H => E cls d H) [] H { nx := fun _ H' => Q .non H', rt := Q } (exec call C f.body (startD f.nl ds) []) := by
  have okk : ∀ (d : D) (g : List O), Post ⟨K, C, ca⟩ ρ H (relD K) E Q (some (.ok ((tidy d g).1.shift h.length) (h ++ shiftH h.length (tidy d g).2))) → ∀ ρ' H' v, Xt [] H ρ' H' → Wd K ρ' g H' → RV K ρ' H' v d → Q v H' := by
    intro d g p ρ' H' v x w' r
    obtain ⟨ρt, wt, rt, sub⟩ := tidy_ok w' r
    have xt : Xt [] H ρt H' := by
      obtain ⟨⟨τ, e1, n1⟩, fr, kp⟩ := x
      rw [List.nil_append] at e1
      subst e1
      exact ⟨⟨ρt, rfl, fun a m => n1 a (sub a m)⟩, fr, kp⟩
    obtain ⟨x2, w2⟩ := w0.beside xt wt
    refine p (ρ ++ ρt) H' v x2 w2 ?_
    show RV K (ρ ++ ρt) H' v _
    rw [← w0.len]
    exact RV.shifted TS'.refl _ _ rt
  unfold runB at p
  cases ee : exec call C f.body (startD f.nl ds) [] with
  | none => rw [ee] at p; exact p
  | some r =>
    rw [ee] at p
    cases r with
    | fl fl g =>
      cases fl with
      | rt d => exact okk d g p
      | nx e => exact fun ρ' H' σ' x w' er => okk .non g p ρ' H' .non x w' rfl
      | bk e => exact p.elim
      | ct e => exact p.elim
    | exc c fs e g =>
      dsimp only at p
      by_cases hp : D.pureL fs = true
      · rw [if_pos hp] at p
        intro ρ' H' σ' dd fl x w' er e1 e2
        obtain ⟨⟨τ, e3, n1⟩, fr, kp⟩ := x
        have x2 : Xt ρ H ρ H' := ⟨⟨[], by simp, by simp⟩, fun a o q _ => fr a o q (by simp), kp⟩
        have w2 : Wd K ρ h H' := by
          have := (w0.beside ⟨⟨τ, e3, n1⟩, fr, kp⟩ w').2
          refine w0.back ⟨⟨τ, rfl, n1⟩, fun a o q _ => fr a o q (by simp), kp⟩ (ρ' := ρ ++ τ) (h' := h ++ shiftH h.length g) ?_ (by rw [List.take_left])
          rw [List.nil_append] at e3
          rw [← e3]; exact this
        obtain ⟨k0, q1, q2⟩ := e2
        refine p ρ H' dd fl x2 w2 e1 ⟨k0, q1, fun y d l => ?_⟩
        obtain ⟨v, a, b⟩ := q2 y d l
        refine ⟨v, a, RV.any TS'.refl d v ?_ b⟩
        obtain ⟨i, _, e5⟩ := zip_ix l
        have key : ∀ (xs : List D) (i : Nat) (d : D), D.pureL xs = true → xs[i]? = some d → d.pure = true := by
          intro xs
          induction xs with
          | nil => intro i d _ e; simp at e
          | cons x xs ih =>
            intro i d hp e
            have h' : x.pure = true ∧ D.pureL xs = true := by simpa [D.pureL] using hp
            cases i with
            | zero => simp at e; rw [← e]; exact h'.1
            | succ i => exact ih i d h'.2 (by simpa using e)
        exact key fs i d hp e5
      · rw [if_neg hp] at p
        exact p.elim
theorem ends_heap {call : Caller} {ρ : List Addr} {h : List O} {H : Hp} {E : XK} {Q : VK} {f : Fn} {ds : List D} (w0 : Wd K ρ h H)
    (p : Post ⟨K, C, ca⟩ ρ H (relD K) E Q (match runB call C f ds h with
          | some (.ok d h') => some (.ok d (gc h d h'))
          | r => r)) :
    PostS K C ca (fun cls d _ H => E cls d H) ρ H { nx := fun _ H' => Q .non H', rt := Q } (exec call C f.body (startD f.nl ds) h) := by
  have okk : ∀ (d : D) (g : List O), Post ⟨K, C, ca⟩ ρ H (relD K) E Q (some (.ok d (gc h d g))) → ∀ ρ' H' v, Xt ρ H ρ' H' → Wd K ρ' g H' → RV K ρ' H' v d → Q v H' := by
    intro d g p ρ' H' v x w' r
    obtain ⟨ρ'', x2, w2, r2⟩ := gc_ok w0 x w' r
    exact p ρ'' H' v x2 w2 r2
  unfold runB at p
  cases ee : exec call C f.body (startD f.nl ds) h with
  | none => rw [ee] at p; exact p
  | some r =>
    rw [ee] at p
    cases r with
    | fl fl g =>
      cases fl with
      | rt d => exact okk d g p
      | nx e => exact fun ρ' H' σ' x w' er => okk .non g p ρ' H' .non x w' rfl
      | bk e => exact p.elim
      | ct e => exact p.elim
    | exc c fs e g => exact fun ρ' H' σ' dd fl x w' er e1 e2 => p ρ' H' dd fl x w' e1 e2
/-- THE CALLS -/
theorem call_ok (Wh : Whole P w K mg base C ca T PF) : ∀ (n i : Nat) (f : Fn) (a : Addr) (fd : FuncData) (ps : List Str), PF[i]? = some f → FnS K T f a fd ps → FnG P w K mg base n a fd ps (spI ⟨K, C, ca⟩ (callF PF C n) i) := by
  intro n
  induction n with
  | zero =>
    intro i f a fd ps hf hs
    exact ⟨fun vs H Q E ⟨ρ, h, ds, _, _, p⟩ => p.elim, fun A outer s H args us vs Q E _ _ _ _ _ ⟨ρ, h, ds, _, _, p⟩ => p.elim⟩
  | succ n ih =>
    intro i f a fd ps hf hs
    obtain ⟨Γ, oc, od, name, qual, params, body, scope, dV, kV, doc, pm, cdv, ct, an, osl, rfl, lk, hcd, S, e1, e2, e3, e4, e5, e6, hck, hnp, hnl⟩ := hs.is
    have step : ∀ ds h, callF PF C (n + 1) i ds h = if ds.length = f.np then (if D.pureL ds then match runB (callF PF C n) C f ds [] with
          | some (.ok d g) => some (.ok ((tidy d g).1.shift h.length) (h ++ shiftH h.length (tidy d g).2))
          | some (.exc c fs g) => if D.pureL fs then some (.exc c fs h) else none
          | none => none
        else match runB (callF PF C n) C f ds h with
          | some (.ok d h') => some (.ok d (gc h d h'))
          | r => r) else none := fun ds h => by
      rw [callF, hf]
      all_goals rfl
    refine fnG_of lk hcd S (fun vs H Q E ⟨ρ, h, ds, _, r, p⟩ => ?_) fun A outer s H vs Q E room gd hsp => ?_
    · rw [step] at p
      by_cases hl : ds.length = f.np
      · rw [r.len, hl, hnp]
      · rw [if_neg hl] at p; exact p.elim
    · obtain ⟨ρ, h, ds, w0, r, p⟩ := hsp
      have xok : XOk C ca (callF PF C n) n Γ (cxOf (L2.CX P w) P w K mg base Γ.N qual scope a cdv A outer s H E) (fun cls d _ H => E cls d H) := by
        refine ⟨rfl, rfl, S.nd, e1.symm, room, gd, takes_of rfl rfl rfl rfl, fun x j ds' m => ?_, Wh.blt, fun x d m => Wh.con x d (e5 ▸ m), fun x cs m => Wh.kin x cs (e6 ▸ m), ?_, fun x hx => ⟨?_, .inl rfl⟩⟩
        · obtain ⟨f', a', fd', ps', us, dvs, g1, g2, g3, g4, g5, g6, g7⟩ := Wh.fns x j ds' (e3 ▸ m)
          exact ⟨a', fd', ps', us, dvs, g3, g4, ih j f' a' fd' ps' g1 g2, g5, g6, g7⟩
        · rw [e4]; exact Wh.clf
        · rw [e2] at hx; exact locS_loc hx
      refine ⟨_, (snd_S f.body).ss Γ _ _ body xok (passes_of rfl) ⟨S.kind, rfl, rfl⟩ hck, ?_⟩
      rw [step] at p
      by_cases hl : ds.length = f.np
      · rw [if_pos hl] at p
        by_cases hp : D.pureL ds = true
        · rw [if_pos hp] at p
          refine ⟨[], [], startD f.nl ds, Wd.nil0, ?_, ends_pure w0 p⟩
          rw [hnl]
          exact start_env (RVs.any TS'.refl ds vs hp r)
        · rw [if_neg hp] at p
          refine ⟨ρ, h, startD f.nl ds, w0, ?_, ends_heap w0 p⟩
          rw [hnl]
          exact start_env r
      · rw [if_neg hl] at p
        exact p.elim
end
end Mini
end

section
/-! Mini: from the evaluator to the row's promise (own work). -/
namespace Mini
open PySem PySem.Spec PyProof.Rows L2

/-- the heap in which the script alone is told -/
def soloH (a : Addr) (vs : List Value) (ns : List Int) : Hp := fun b => if b = a then some (.frz { cls := .type "list", data := .seq vs.toArray } (.lst (ns.map V.int))) else none
theorem solo_at {a : Addr} {vs : List Value} {ns : List Int} : soloH a vs ns a = some (.frz { cls := .type "list", data := .seq vs.toArray } (.lst (ns.map V.int))) := if_pos rfl
theorem solo_off {a b : Addr} {vs : List Value} {ns : List Int} (h : b ≠ a) : soloH a vs ns b = none := if_neg h
theorem solo_wd {K : PySem.W.Frag} {a : Addr} {vs : List Value} {ns : List Int} : Wd K [a] [.ro (ns.map D.int)] (soloH a vs ns) := by
  refine ⟨rfl, by simp, fun i o b e1 e2 => ?_⟩
  have hi : i = 0 := by
    have := (List.getElem?_eq_some_iff.mp e1).1
    simpa using this
  subst hi
  simp at e1 e2
  subst e1; subst e2
  exact ⟨_, _, solo_at, RVs.of_ints ns⟩
theorem call_true {P : Program} {w : World} {K : PySem.W.Frag} {mg mb : Str → Option Value} {C : List Cl} {ca : Nat → Addr} {PF : List Fn} {k i : Nat} {fa a : Addr} {fd : FuncData} {x : Str} {s₁ : Shared} {vs : List Value} {ns : List Int} {h' : List O}
    (kin : K.In s₁.heap) (hns : s₁.heap.Ns mainGlobals mg) (hb : s₁.heap.Ns builtinsNs mb) (hbb : ∀ x : Str, x ≠ "__name__" → mb x = bootBuiltins x) (nolim : s₁.heap.NoLimit) (hg : s₁.gens = #[])
    (ha : s₁.heap.get? a = some { cls := .type "list", data := .seq vs.toArray }) (hi : IntsAre vs ns) (hl : ns.length ≤ sizeLine) (hK : K.lookup a = none) (room : Room (k + 3) callerA)
    (F : ∀ base : Heap, K.In base → base.Ns mainGlobals mg → FnG P w K mg base k fa fd [x] (spI ⟨K, C, ca⟩ (callF PF C k) i)) (bind : Binds K fd [x] [])
    (run : callF PF C k i [.ref 0] [.ro (ns.map D.int)] = some (.ok (.bl true) h')) :
    codeAny (model P w) callerA (.call (.ref fa) ⟨[.ref a], []⟩) (fun r s' => r = .ok (.ret (.bool true)) ∧ OldK s₁.heap s'.heap ∧ s'.os = s₁.os ∧ AllBare s'.gens) s₁ := by
  have rv := vals_ints hi
  have none_of : ∀ {b : Addr}, b ≠ a → soloH a vs ns b = none := fun h => solo_off h
  have grd : ∀ {b : Addr} {o : Obj}, s₁.heap.get? b = some o → b ≠ a → (hidT s₁.heap (soloH a vs ns)).get? b = some o := fun e n => hidT_get e (none_of n)
  have nsG : ∀ {b : Addr} {m : Str → Option Value}, s₁.heap.Ns b m → (hidT s₁.heap (soloH a vs ns)).Ns b m := by
    rintro b m ⟨o, es, ep, e, d, r⟩
    refine ⟨o, es, ep, grd e fun z => ?_, d, r⟩
    rw [z, ha] at e
    cases e
    have d' : Data.seq vs.toArray _ = Data.dict es ep := d
    cases d'
  have kinG : K.In (hidT s₁.heap (soloH a vs ns)) := fun b o e => grd (kin b o e) fun z => by rw [z, hK] at e; cases e
  have md : Mod K mg (hidT s₁.heap (soloH a vs ns)) := ⟨kinG, nsG hns, ⟨mb, nsG hb, hbb⟩, let ⟨mc, h1, h2⟩ := nolim; ⟨mc, nsG h1, h2⟩⟩
  have hok : HOk P w (soloH a vs ns) s₁.heap := fun b o z => by
    by_cases hba : b = a
    · subst hba
      have z' := solo_at.symm.trans z
      cases z'
      exact ⟨ha, by rw [List.length_map]; exact hl, vs, _, rv, ha⟩
    · rw [solo_off hba] at z
      cases z
  have e0 : Env0 P w K mg (hidT s₁.heap (soloH a vs ns)) callerA [] s₁ (soloH a vs ns) :=
    ⟨rfl, md, fun b o e => of_hidT e, Nat.le_of_eq (hidT_size _ _), trivial, fun b hb => absurd (show b ∈ ([] : List Addr) from hb) (by simp), hok, .of_eq hg⟩
  have sp : spI ⟨K, C, ca⟩ (callF PF C k) i [.ref a] (soloH a vs ns) (fun v _ => v = .bl true) (fun _ _ _ => False) := by
    refine ⟨[a], [.ro (ns.map D.int)], [.ref 0], solo_wd, ⟨.ref a, [], rfl, ⟨a, rfl, rfl⟩, rfl⟩, ?_⟩
    rw [run]
    exact fun ρ' H' b _ _ r => r
  refine codeAny_mono ((F _ kinG (nsG hns)).run callerA [] s₁ (soloH a vs ns) ⟨[.ref a], []⟩ [.ref a] [.ref a] _ _ room rfl e0 (bind s₁ [.ref a] kin rfl) (.cons rfl .nil) sp) fun r s' h => ?_
  cases r with
  | error e =>
    obtain ⟨_, _, _, _, _, _, _, _, _, _, _, _, q⟩ := h
    exact q.elim
  | ok fl =>
    cases fl with
    | next => exact False.elim h
    | brk => exact False.elim h
    | cont => exact False.elim h
    | ret u =>
      obtain ⟨v, H', os, bare, un, hok', r', q⟩ := h
      have q' : v = .bl true := q
      subst q'
      obtain rfl : u = Value.bool true := r'
      refine ⟨rfl, OldK.of_keep fun b o e => ?_, os, bare⟩
      by_cases hba : b = a
      · subst hba
        have z2 := un.frzs b _ _ solo_at
        obtain ⟨e2, _⟩ := hok' b _ z2
        rw [ha] at e
        cases e
        exact e2
      · exact un.keep b o e (solo_off hba) (by intro z; exact absurd (show b ∈ ([] : List Addr) from z) (by simp)) (by simp)
/-- THE LAW by the evaluator -/
theorem law_by {l : PySem.W.OpenLaw} {n k : Nat} {q : Program} {loose : List Str} {XP : (Str → Option Value) → Heap → Prop} {YP : World → Heap → Prop} {d : DefRec} {K : Params → PySem.W.Frag}
    (hn : l.most = some n) (hn2 : n ≤ sizeLine) (hdf : d.params.defaults = []) (room : Room (k + 3) callerA) (hY : ∀ (w : World) (h : Heap), YP w h → (K w.params).In h)
    (hl : ∀ (p : Params) (a : Addr) (o : Obj), (K p).lookup a = some o → o.cls ≠ .type "list")
    (hW : ∀ (w : World) (mg : Str → Option Value) (fa : Addr) (h : Heap), (K w.params).In h → h.Ns mainGlobals mg → mg d.name = some (.ref fa) → ∃ (C : List Cl) (ca : Nat → Addr) (T : Tb) (PF : List Fn) (i : Nat) (f : Fn) (fd : FuncData) (x : Str),
      (∀ base : Heap, (K w.params).In base → base.Ns mainGlobals mg → Whole l.prog w (K w.params) mg base C ca T PF) ∧ PF[i]? = some f ∧ FnS (K w.params) T f fa fd [x] ∧ Binds (K w.params) fd [x] [] ∧
        ∀ ns : List Int, ns.length ≤ n → ∃ h', callF PF C k i [.ref 0] [.ro (ns.map D.int)] = some (.ok (.bl true) h')) :
    PySem.W.WalkO q loose XP YP l.row.toRowW d [] (fun f vs => PySem.call f vs) := by
  refine Att.attach_call hn hdf fun w s₀ s₁ mg mb fa o pm cd doc a vs ns G Y ho hd hcd hmg hobj hints hlen hg => ?_
  have kin := hY w _ Y
  obtain ⟨C, ca, T, PF, i, f, fd, x, wh, hf, hs, hb, hc⟩ := hW w mg fa _ kin G.T.g hmg
  obtain ⟨h', run⟩ := hc ns hlen
  have hK : (K w.params).lookup a = none := by
    cases e : (K w.params).lookup a with
    | none => rfl
    | some ob =>
      have e2 := kin a ob e
      rw [hobj] at e2
      cases e2
      exact absurd rfl (hl w.params a _ e)
  exact call_true kin G.T.g G.T.b G.T.builtins G.T.nolimit hg hobj hints (Nat.le_trans hlen hn2) hK room (fun base kb nb => call_ok (wh base kb nb) k i f fa fd [x] hf hs) hb run
end Mini
end

section
/-! Mini: from the written part to the tables (own work). -/
namespace Mini
open PySem PySem.Spec PyProof.Rows L2

/-! ### how arguments bind -/
theorem zip_some {ps : List Str} : ∀ {us : List Value} {x : Str}, x ∈ ps → us.length = ps.length → ((ps.zip us).lookup x).isSome = true := by
  induction ps with
  | nil => intro us x h; cases h
  | cons p ps ih =>
    intro us x h hl
    cases us with
    | nil => cases hl
    | cons u us =>
      rw [List.zip_cons_cons]
      by_cases e : x = p
      · subst e; simp [List.lookup]
      · have hb : (x == p) = false := by simpa using e
        simp only [List.lookup, hb]
        exact ih ((List.mem_cons.mp h).resolve_left e) (by simpa using hl)
theorem zip_map {ps : List Str} : ∀ {us : List Value}, ps.Nodup → us.length = ps.length → ps.filterMap (fun n => ((ps.zip us).lookup n).map (n, ·)) = ps.zip us := by
  induction ps with
  | nil => intro us _ _; rfl
  | cons p ps ih =>
    intro us nd hl
    cases us with
    | nil => cases hl
    | cons u us =>
      rw [List.zip_cons_cons]
      have hp : p ∉ ps := (List.nodup_cons.mp nd).1
      rw [List.filterMap_cons]
      have e0 : ((p, u) :: ps.zip us).lookup p = some u := by simp [List.lookup]
      rw [e0]
      show (p, u) :: _ = _
      congr 1
      have key : ∀ l : List Str, (∀ n ∈ l, n ∈ ps) → l.filterMap (fun n => (((p, u) :: ps.zip us).lookup n).map (n, ·)) = l.filterMap (fun n => ((ps.zip us).lookup n).map (n, ·)) := by
        intro l
        induction l with
        | nil => intro _; rfl
        | cons n l ihl =>
          intro hm
          have hb : (n == p) = false := by
            have : n ≠ p := fun e => hp (e ▸ hm n List.mem_cons_self)
            simpa using this
          have e1 : ((p, u) :: ps.zip us).lookup n = (ps.zip us).lookup n := by simp only [List.lookup, hb]
          rw [List.filterMap_cons, List.filterMap_cons, e1, ihl fun m hm' => hm m (List.mem_cons_of_mem _ hm')]
      rw [key ps fun _ h => h, ih (List.nodup_cons.mp nd).2 (by simpa using hl)]
theorem zip_someT {ps : List Str} : ∀ {us : List Value} {x : Str}, x ∈ ps.take us.length → ((ps.zip us).lookup x).isSome = true := by
  induction ps with
  | nil => intro us x h; simp at h
  | cons p ps ih =>
    intro us x h
    cases us with
    | nil => simp at h
    | cons u us =>
      rw [List.zip_cons_cons]
      by_cases e : x = p
      · subst e; simp [List.lookup]
      · have hb : (x == p) = false := by simpa using e
        simp only [List.lookup, hb]
        exact ih ((List.mem_cons.mp (by simpa using h)).resolve_left e)
theorem zip_off {ps : List Str} : ∀ {us : List Value} {x : Str}, x ∉ ps.take us.length → (ps.zip us).lookup x = none := by
  induction ps with
  | nil => intro us x h; rfl
  | cons p ps ih =>
    intro us x h
    cases us with
    | nil => rfl
    | cons u us =>
      rw [List.zip_cons_cons]
      have h' : x ≠ p ∧ x ∉ ps.take us.length := by simpa using h
      have hb : (x == p) = false := by simpa using h'.1
      simp only [List.lookup, hb]
      exact ih h'.2
theorem no_miss {ps : List Str} {us : List Value} {m : Nat} (h : m ≤ us.length) : ((ps.take m).filter fun n => ((ps.zip us).lookup n).isNone) = [] := by
  rw [List.filter_eq_nil_iff]
  intro x hx
  have hx' : x ∈ ps.take us.length := (List.take_sublist_take_left h).subset hx
  have := zip_someT hx'
  cases e : (ps.zip us).lookup x with
  | none => rw [e] at this; cases this
  | some _ => simp
theorem binds_any {K : PySem.W.Frag} {fd : FuncData} {ps : List Str} {ds : List Value} {its : Array Value} (h1 : fd.params.posonlyargs = []) (h2 : fd.params.args.map (·.arg) = ps) (h3 : fd.params.vararg = none) (h4 : fd.params.kwonlyargs = []) (h5 : fd.params.kwarg = none) (nd : ps.Nodup)
    (hd : (fd.defaults = .none ∧ its = #[]) ∨ ∃ t oc od n sl, fd.defaults = .ref t ∧ K.lookup t = some ⟨oc, od, .seq its n, sl⟩) (hi : its.toList = ds ∨ ds = []) (hl : its.size ≤ 1) (hz : its.size ≤ ps.length) : Binds K fd ps ds := by
  intro s us kin hl2 M A E Q hq
  have items : ∀ {Q : Option (Array Value) → Shared → Prop}, (∀ o, o.getD #[] = its → Q o s) → wpAny M A (seqItems? fd.defaults) Q E s := by
    intro Q q
    rcases hd with ⟨e, rfl⟩ | ⟨t, oc, od, n, sl, e, lk⟩
    · rw [e]
      exact wpAny_of_eq (a := none) rfl (q none rfl)
    · rw [e]
      exact wpAny_seqItems (kin _ _ lk) rfl (q (some its) rfl)
  unfold bindArgs
  simp only [h1, h2, h3, h4, h5, List.map_nil, List.nil_append]
  refine wpAny_bind (wpAny_of_eq (a := (ps.zip us, [])) rfl ?_)
  refine wpAny_bind (items fun o ho => ?_)
  have ho' : (o.getD #[]).toList = its.toList := by rw [ho]
  rw [ho']
  have hlu : us.length ≤ ps.length := by rw [← hl2, List.length_append]; omega
  have g0 : ¬ ((decide (us.length > ps.length) && (none : Option Arg).isNone) = true) := by simp; omega
  simp only [if_neg g0]
  have dr : its.toList.drop (its.toList.length - ps.length) = its.toList := by
    have : its.toList.length - ps.length = 0 := by rw [Array.length_toList]; omega
    rw [this]; rfl
  rw [dr]
  have hsz : its.toList.length = its.size := Array.length_toList
  have hm : ps.length - its.toList.length ≤ us.length := by
    have : ds.length ≤ its.size := by
      rcases hi with e | e
      · rw [← e, hsz]; exact Nat.le_refl _
      · rw [e]; exact Nat.zero_le _
    rw [List.length_append] at hl2
    omega
  rw [no_miss hm]
  simp only [List.isEmpty_nil, Bool.not_true, if_neg Bool.false_ne_true]
  have loop : (forIn ((ps.drop (ps.length - its.toList.length)).zip its.toList) (ps.zip us) fun x (__s : List (Str × Value)) => (if (__s.lookup x.1).isNone = true then pure (ForInStep.yield (__s ++ [(x.1, x.2)])) else pure (ForInStep.yield __s) : Sem (ForInStep (List (Str × Value))))) = pure (ps.zip (us ++ ds)) := by
    match hits : its.toList, hi with
    | [], hi =>
      have : ds = [] := by rcases hi with e | e <;> simpa using e.symm
      rw [this, List.append_nil, List.zip_nil_right]
      rfl
    | [d], hi =>
      have h1l : 1 ≤ ps.length := by
        have : its.size = 1 := by rw [← hsz, hits]; rfl
        omega
      obtain ⟨qs, z, rfl⟩ : ∃ qs z, ps = qs ++ [z] := by
        rcases List.eq_nil_or_concat ps with e | ⟨qs, z, e⟩
        · rw [e] at h1l; simp at h1l
        · exact ⟨qs, z, by rw [e, List.concat_eq_append]⟩
      have ed : (qs ++ [z]).drop ((qs ++ [z]).length - 1) = [z] := by simp
      show (forIn (((qs ++ [z]).drop ((qs ++ [z]).length - 1)).zip [d]) _ _) = _
      rw [ed]
      have nz : z ∉ qs := by
        have := List.nodup_append.mp nd
        exact fun h => this.2.2 z h z (by simp) rfl
      rcases hi with e | e
      · subst e
        have hul : us.length = qs.length := by simpa using hl2
        have hn : ((qs ++ [z]).zip us).lookup z = none := zip_off (by rw [hul, List.take_left]; exact nz)
        simp only [List.zip_cons_cons, List.zip_nil_right, List.forIn_cons, hn, Option.isNone_none, if_true]
        have e3 : (qs ++ [z]).zip us ++ [(z, d)] = (qs ++ [z]).zip (us ++ [d]) := by
          rw [List.zip_append hul.symm]
          have : (qs ++ [z]).zip us = qs.zip us := by
            have e4 : us = us ++ [] := by simp
            rw [e4, List.zip_append hul.symm]
            simp
          rw [this]; rfl
        rw [← e3]
        rfl
      · subst e
        have hul : us.length = (qs ++ [z]).length := by simpa using hl2
        have hn : (((qs ++ [z]).zip us).lookup z).isNone = false := by
          have := zip_some (ps := qs ++ [z]) (us := us) (x := z) (by simp) hul
          cases e5 : ((qs ++ [z]).zip us).lookup z with
          | none => rw [e5] at this; cases this
          | some _ => rfl
        simp only [List.zip_cons_cons, List.zip_nil_right, List.forIn_cons, hn, if_neg Bool.false_ne_true, List.append_nil]
        rfl
    | _ :: _ :: _, _ =>
      have : its.size = its.toList.length := hsz.symm
      rw [hits] at this
      simp at this
      omega
  rw [loop]
  refine wpAny_bind (wpAny_pure ?_)
  refine wpAny_bind (wpAny_of_eq (a := (ps.zip (us ++ ds), [])) rfl ?_)
  simp only [List.isEmpty_nil, Bool.not_true, if_neg Bool.false_ne_true]
  have fin := zip_map nd hl2
  simp only [List.append_nil]
  rw [fin]
  exact wpAny_pure hq
end Mini
end

section
/-! Mini: the tables are checked by computing (own work). -/
namespace Mini
open PySem PySem.Spec PyProof.Rows L2

/-- a def of the text: its global name, where it lies, its names, the default of its last parameter -/
structure FRow where
  x : Str
  N : List Str
  dv : Option Str
/-- what a global name holds -/
def adr (K : PySem.W.Frag) (x : Str) : Addr := match PySem.W.nsIn K mainGlobals x with
  | some (some (.ref a)) => a
  | _ => 0
def isRef (o : Option (Option Value)) (a : Addr) : Bool := match o with
  | some (some (.ref b)) => b == a
  | _ => false
theorem isRef_eq {o : Option (Option Value)} {a : Addr} (h : isRef o a = true) : o = some (some (.ref a)) := by
  unfold isRef at h
  split at h
  · rw [beq_iff_eq.mp h]
  · cases h
def isNo (o : Option (Option Value)) : Bool := match o with
  | some none => true
  | _ => false
theorem isNo_eq {o : Option (Option Value)} (h : isNo o = true) : o = some none := by
  unfold isNo at h
  split at h
  · rfl
  · cases h
def scB (N ps : List Str) (sc : Scope) : Bool :=
  decide (sc.kind = .function) && !sc.isCoroutine && !sc.isGenerator && decide N.Nodup && decide (N.take ps.length = ps) && (ps.all fun x => decide (sc.names.lookup x = some .local) || decide (sc.names.lookup x = some .cell)) && sc.names.all fun y => decide (y.2 ≠ .free)
theorem scB_ok {N ps : List Str} {sc : Scope} (h : scB N ps sc = true) : FnScope N ps sc := by
  unfold scB at h
  simp only [Bool.and_eq_true, decide_eq_true_eq, Bool.not_eq_true', List.all_eq_true, Bool.or_eq_true] at h
  obtain ⟨⟨⟨⟨⟨⟨h1, h2⟩, h3⟩, h4⟩, h5⟩, h6⟩, h7⟩ := h
  exact ⟨h1, h2, h3, h4, h5, h6, h7⟩
def psOf (p : Arguments) : List Str := p.args.map (·.arg)
def arB (p : Arguments) : Bool := p.posonlyargs.isEmpty && p.vararg.isNone && p.kwonlyargs.isEmpty && p.kwarg.isNone && decide (psOf p).Nodup
/-- the def's function object -/
def fnB (K : PySem.W.Frag) (T : Tb) (f : Fn) (r : FRow) : Bool := match K.lookup (adr K r.x) with
  | some ⟨_, _, .func ⟨_, qual, params, .stmts body, scope, gl, cl, _, _, _, _, _, cdv, _, bl⟩, _⟩ =>
    decide (gl = mainGlobals) && cl.isEmpty && decide (bl = builtinsNs) && PySem.W.codeIn K cdv qual && scB r.N (psOf params) scope && ckSs f.body ⟨r.N, scope, scope, T.fns, T.cls, T.con, T.kin⟩ body && decide (f.np = (psOf params).length) && decide (f.nl = r.N.length)
  | _ => false
/-- how it is called -/
def clB (K : PySem.W.Frag) (r : FRow) : Bool := isRef (PySem.W.nsIn K mainGlobals r.x) (adr K r.x) && PySem.W.keepIn K (.ref (adr K r.x)) && match K.lookup (adr K r.x) with
  | some ⟨_, _, .func fd, _⟩ => arB fd.params && (match r.dv, fd.defaults with
    | none, .none => true
    | some s, .ref t => decide (1 ≤ (psOf fd.params).length) && match K.lookup t with
      | some ⟨_, _, .seq its _, _⟩ => match its.toList with
        | [.str s' _] => s' == s
        | _ => false
      | _ => false
    | _, _ => false)
  | _ => false
def fdAt (K : PySem.W.Frag) (a : Addr) : Option FuncData := match K.lookup a with
  | some ⟨_, _, .func fd, _⟩ => some fd
  | _ => none
theorem fnB_ok {K : PySem.W.Frag} {T : Tb} {f : Fn} {r : FRow} (h : fnB K T f r = true) : ∃ fd, fdAt K (adr K r.x) = some fd ∧ FnS K T f (adr K r.x) fd (psOf fd.params) := by
  unfold fnB at h
  split at h
  · rename_i oc od name qual params body scope gl cl dV kV doc pm an cdv ct bl osl e
    simp only [Bool.and_eq_true, decide_eq_true_eq, List.isEmpty_iff] at h
    obtain ⟨⟨⟨⟨⟨⟨⟨h1, h2⟩, h3⟩, h4⟩, h5⟩, h6⟩, h7⟩, h8⟩ := h
    subst h1; subst h2; subst h3
    refine ⟨_, by unfold fdAt; rw [e], ⟨⟨r.N, scope, scope, T.fns, T.cls, T.con, T.kin⟩, oc, od, name, qual, params, body, scope, dV, kV, doc, pm, cdv, ct, an, osl, rfl, e, h4, scB_ok h5, rfl, rfl, rfl, rfl, rfl, rfl, h6, h7, h8⟩⟩
  · cases h
theorem clB_ok {K : PySem.W.Frag} {r : FRow} {fd : FuncData} (hf : fdAt K (adr K r.x) = some fd) (h : clB K r = true) : PySem.W.nsIn K mainGlobals r.x = some (some (.ref (adr K r.x))) ∧ PySem.W.keepIn K (.ref (adr K r.x)) = true ∧ Binds K fd (psOf fd.params) [] ∧
    ∀ s, r.dv = some s → ∃ u, Binds K fd (psOf fd.params) [u] ∧ RelV (.str s) u := by
  unfold clB at h
  simp only [Bool.and_eq_true] at h
  obtain ⟨⟨h1, h2⟩, h3⟩ := h
  refine ⟨isRef_eq h1, h2, ?_⟩
  unfold fdAt at hf
  split at hf
  · rename_i oc od fd' sl e
    cases hf
    rw [e] at h3
    simp only [Bool.and_eq_true] at h3
    obtain ⟨h3, h4⟩ := h3
    unfold arB at h3
    simp only [Bool.and_eq_true, decide_eq_true_eq, List.isEmpty_iff, Option.isNone_iff_eq_none] at h3
    obtain ⟨⟨⟨⟨a1, a2⟩, a3⟩, a4⟩, a5⟩ := h3
    split at h4
    · rename_i e1 e2
      refine ⟨binds_any (its := #[]) a1 rfl a2 a3 a4 a5 (.inl ⟨e2, rfl⟩) (.inr rfl) (by simp) (by simp), fun s es => ?_⟩
      rw [e1] at es; cases es
    · rename_i s t e1 e2
      simp only [Bool.and_eq_true, decide_eq_true_eq] at h4
      obtain ⟨h5, h4⟩ := h4
      split at h4
      · rename_i oc' od' its n sl' lk
        split at h4
        · rename_i s' tk ei
          have es := beq_iff_eq.mp h4
          subst es
          have hz : its.size = 1 := by rw [← Array.length_toList, ei]; rfl
          have hd : fd.defaults = .none ∧ its = #[] ∨ ∃ t oc od n sl, fd.defaults = .ref t ∧ K.lookup t = some ⟨oc, od, .seq its n, sl⟩ := .inr ⟨t, _, _, _, _, e2, lk⟩
          refine ⟨binds_any a1 rfl a2 a3 a4 a5 hd (.inr rfl) (by omega) (by omega), fun s2 es => ?_⟩
          rw [e1] at es
          cases es
          exact ⟨.str s' tk, binds_any a1 rfl a2 a3 a4 a5 hd (.inl ei) (by omega) (by omega), ⟨tk, rfl⟩⟩
        · cases h4
      · cases h4
    · cases h4
  · cases hf
/-- a module's constant -/
def conB (d : D) (v : Value) : Bool := match d, v with
  | .non, .none => true
  | .bl b, .bool c => b == c
  | .int i, .int j _ => i == j
  | .str s, .str t _ => s == t
  | _, _ => false
theorem conB_ok {d : D} {v : Value} (h : conB d v = true) : ∃ z : V, RelV z v ∧ ∀ (K : PySem.W.Frag) (ρ : List Addr) (H : Hp), RV K ρ H z d := by
  unfold conB at h
  split at h
  · exact ⟨.non, rfl, fun _ _ _ => rfl⟩
  · rw [beq_iff_eq.mp h]; exact ⟨.bl _, rfl, fun _ _ _ => rfl⟩
  · rename_i i j t; rw [beq_iff_eq.mp h]; exact ⟨.int j, ⟨t, rfl⟩, fun _ _ _ => rfl⟩
  · rename_i s t k; rw [beq_iff_eq.mp h]; exact ⟨.str t, ⟨k, rfl⟩, fun _ _ _ => rfl⟩
  · cases h
def coB (K : PySem.W.Frag) (p : Str × D) : Bool := match PySem.W.nsIn K mainGlobals p.1 with
  | some (some v) => conB p.2 v
  | _ => false
/-- the table of the calls -/
def fnsOf : Nat → List FRow → List (Str × Nat × List D)
  | _, [] => []
  | i, r :: rs => (r.x, i, []) :: (match r.dv with
    | some s => [(r.x, i, [D.str s])]
    | none => []) ++ fnsOf (i + 1) rs
def allB (K : PySem.W.Frag) (T : Tb) : List Fn → List FRow → Bool
  | [], [] => true
  | f :: fs, r :: rs => fnB K T f r && clB K r && allB K T fs rs
  | _, _ => false
theorem allB_at {K : PySem.W.Frag} {T : Tb} : ∀ {fs : List Fn} {rs : List FRow}, allB K T fs rs = true → ∀ (i : Nat) r, rs[i]? = some r → ∃ f, fs[i]? = some f ∧ fnB K T f r = true ∧ clB K r = true
  | [], [], _, i, r, e => by simp at e
  | [], _ :: _, h, _, _, _ => by cases h
  | _ :: _, [], h, _, _, _ => by cases h
  | f :: fs, r0 :: rs, h, i, r, e => by
    have h' : (fnB K T f r0 && clB K r0 && allB K T fs rs) = true := h
    simp only [Bool.and_eq_true] at h'
    cases i with
    | zero =>
      simp at e
      subst e
      exact ⟨f, rfl, h'.1.1, h'.1.2⟩
    | succ i =>
      obtain ⟨g, a, b⟩ := allB_at h'.2 i r (by simpa using e)
      exact ⟨g, by simpa using a, b⟩
theorem fnsOf_at : ∀ (rs : List FRow) (j : Nat) x i ds, (x, i, ds) ∈ fnsOf j rs → ∃ r, j ≤ i ∧ rs[i - j]? = some r ∧ r.x = x ∧ (ds = [] ∨ ∃ s, r.dv = some s ∧ ds = [.str s])
  | [], j, x, i, ds, h => by cases h
  | r :: rs, j, x, i, ds, h => by
    have h' : (x, i, ds) ∈ (r.x, j, []) :: (match r.dv with | some s => [(r.x, j, [D.str s])] | none => []) ++ fnsOf (j + 1) rs := h
    rcases List.mem_append.mp h' with q | q
    · rcases List.mem_cons.mp q with q | q
      · cases q
        exact ⟨r, Nat.le_refl _, by simp, rfl, .inl rfl⟩
      · cases e : r.dv with
        | none => rw [e] at q; cases q
        | some s =>
          rw [e] at q
          have q' := List.mem_singleton.mp q
          cases q'
          exact ⟨r, Nat.le_refl _, by simp, rfl, .inr ⟨s, e, rfl⟩⟩
    · obtain ⟨r', h1, h2, h3, h4⟩ := fnsOf_at rs (j + 1) x i ds q
      refine ⟨r', by omega, ?_, h3, h4⟩
      have : i - j = (i - (j + 1)) + 1 := by omega
      rw [this]
      simpa using h2
theorem whole_of {P : Program} {w : World} {K : PySem.W.Frag} {mg : Str → Option Value} {base : Heap} {C : List Cl} {ca : Nat → Addr} {T : Tb} {PF : List Fn} {rs : List FRow} (kin : K.In base) (ns : base.Ns mainGlobals mg)
    (hT : T.fns = fnsOf 0 rs) (h1 : allB K T PF rs = true) (h2 : (blts.all fun x => isNo (PySem.W.nsIn K mainGlobals x)) = true) (h3 : T.con.all (coB K) = true) (hk : ∀ x cs, (x, cs) ∈ T.kin → ∃ a fd ps, mg x = some (.ref a) ∧ PySem.W.keepIn K (.ref a) = true ∧ KinF P w K mg base C ca a fd ps cs ∧ Binds K fd ps []) (hc : ClF C ca T.cls P w K mg base) : Whole P w K mg base C ca T PF := by
  refine ⟨fun x i ds m => ?_, fun x m => ?_, fun x d m => ?_, hk, hc⟩
  · rw [hT] at m
    obtain ⟨r, _, e1, e2, e3⟩ := fnsOf_at rs 0 x i ds m
    rw [Nat.sub_zero] at e1
    obtain ⟨f, e4, e5, e6⟩ := allB_at h1 i r e1
    obtain ⟨fd, e7, e8⟩ := fnB_ok e5
    obtain ⟨a1, a2, a3, a4⟩ := clB_ok e7 e6
    subst e2
    rcases e3 with rfl | ⟨s, es, rfl⟩
    · exact ⟨f, (adr K r.x), fd, _, [], [], e4, e8, PySem.W.mg_of kin ns a1, a2, a3, .nil, fun _ _ => rfl⟩
    · obtain ⟨u, b1, b2⟩ := a4 s es
      exact ⟨f, (adr K r.x), fd, _, [u], [.str s], e4, e8, PySem.W.mg_of kin ns a1, a2, b1, .cons b2 .nil, fun _ _ => ⟨_, _, rfl, rfl, rfl⟩⟩
  · have := List.all_eq_true.mp h2 x m
    exact PySem.W.mg_none_of kin ns (isNo_eq this)
  · have := List.all_eq_true.mp h3 (x, d) m
    unfold coB at this
    split at this
    · rename_i v e
      obtain ⟨z, r1, r2⟩ := conB_ok this
      exact ⟨z, v, PySem.W.mg_of kin ns e, r1, fun ρ H => r2 K ρ H⟩
    · cases this
end Mini
end

section
/-! Mini: a def that tells which classes a caught exception is of (own work). -/
namespace Mini
open PySem PySem.Spec PyProof.Rows L2

def isAll (Γ : Gm) (en : Str) : List Nat → List PySem.Expr → Bool
  | [], [] => true
  | c :: cs, e :: es => ckIs Γ en c e && isAll Γ en cs es
  | _, _ => false
def kiG (en pl : Str) (sc : Scope) (tb : List (Str × Nat × Nat)) : Gm := ⟨[en, pl], sc, sc, [], tb, [], []⟩
def kbB (K : PySem.W.Frag) (tb : List (Str × Nat × Nat)) (cs : List Nat) (en : Str) (sc : Scope) : List PySem.Stmt → Bool
  | [.Assign [.Name pl _] (.List es1 _) _, .Return (some (.BinOp (.Name pl' _) .Add (.List es2 _) _)) _] => pl == pl' && scB [en, pl] [en] sc && decide (sc.names.lookup pl = some .local) && decide (sc.names.lookup en = some .local) && !dbg en && !(en == ("__classdict__" : Str)) && !dbg pl && !(pl == ("__classdict__" : Str)) &&
      isAll (kiG en pl sc tb) en (cs.take es1.length) es1 && isAll (kiG en pl sc tb) en (cs.drop es1.length) es2 && decide (cs.length ≤ 1000)
  | _ => false
def kiB (K : PySem.W.Frag) (tb : List (Str × Nat × Nat)) (p : Str × List Nat) : Bool := isRef (PySem.W.nsIn K mainGlobals p.1) (adr K p.1) && PySem.W.keepIn K (.ref (adr K p.1)) && isNo (PySem.W.nsIn K mainGlobals "isinstance") && (match K.lookup (adr K p.1) with
  | some ⟨_, _, .func ⟨_, qual, params, .stmts body, scope, gl, cl, .none, _, _, _, _, cdv, _, bl⟩, _⟩ => decide (gl = mainGlobals) && cl.isEmpty && decide (bl = builtinsNs) && PySem.W.codeIn K cdv qual && arB params && (match psOf params with
    | [en] => kbB K tb p.2 en scope body
    | _ => false)
  | _ => false)
section
variable {P : Program} {w : World} {K : PySem.W.Frag} {mg : Str → Option Value} {base : Heap} {C : List Cl} {ca : Nat → Addr} {tb : List (Str × Nat × Nat)}
/-- isinstance(e, y), the exception at a pinned -/
theorem is_any {X : Cx} {Γ : Gm} {a dd : Addr} {oe : Obj} {i c t : Nat} {en : Str} {k0 : Cl} (hK : X.K = K) (hmg : X.mg = mg) (hp : (a, oe) ∈ X.pn) (hsc : X.env.scope = Γ.sc) (cf : ClF C ca Γ.cls P w K mg base) (mi : mg "isinstance" = none) (hc : C[c]? = some k0) (hz : Zc (.ref (ca c)) (some dd) oe) (hf : ∃ vs, oe.data = .fields vs)
    (hi : X.N[i]? = some en) (hl : Γ.sc.names.lookup en = some .local) (h1 : dbg en = false) (h2 : (en == ("__classdict__" : Str)) = false) {e : PySem.Expr} (h : ckIs Γ en t e = true) :
    PE X e (fun σ H Q => σ[i]? = some (some (.ref a)) ∧ (∃ fl, H dd = some (.xd fl)) ∧ Q (.bl (isAnc C c t)) H) ∧ plainX e = true := by
  subst hK; subst hmg
  cases e <;> first | (cases h; done) | skip
  rename_i f as ks p
  cases f <;> first | (cases h; done) | skip
  rename_i x px
  match as, ks, h with
  | [ob, .Name y py], [], h =>
    have h' : (x == ("isinstance" : Str) && isEn en ob && glb Γ.sc x && glb Γ.sc y && !dbg y && Γ.cls.any fun p => p.1 == y && p.2.1 == t) = true := h
    simp only [Bool.and_eq_true, Bool.not_eq_true', beq_iff_eq] at h'
    obtain ⟨⟨⟨⟨⟨rfl, e2⟩, e3⟩, e4⟩, e5⟩, e6⟩ := h'
    rw [List.any_eq_true] at e6
    obtain ⟨⟨y', t', m⟩, mm, q⟩ := e6
    simp only [Bool.and_eq_true, beq_iff_eq] at q
    obtain ⟨rfl, rfl⟩ := q
    obtain ⟨v, hn, hv⟩ := cf.cls _ _ _ mm
    have gl : ∀ {z : Str}, glb Γ.sc z = true → Gl X z := fun {z} hg => by
      show X.env.scope.names.lookup z = _
      rw [hsc]; exact of_decide_eq_true hg
    obtain ⟨z, hz1, hz2⟩ : ∃ z : V, (∀ u, RelV z u → u = v) ∧ PE X (.Name y' py) (tC z) := by
      rcases hn with ⟨_, m1, b, rfl⟩ | ⟨_, m1, m2, m3, T, rfl⟩
      · exact ⟨.ref b, fun u r => r, pe_glob (gl e4) m1 rfl e5⟩
      · exact ⟨.ty T, fun u r => r, pe_bltn (gl e4) m1 m2 rfl m3 e5⟩
    have pob : plainX ob = true := by cases ob <;> first | rfl | cases e2
    have he : PE X ob (tVar i) := by
      cases ob <;> first | (cases e2; done) | skip
      rename_i y2 p2
      have : y2 = en := beq_iff_eq.mp e2
      subst this
      exact pe_var hi (.inl (by show X.env.scope.names.lookup y2 = _; rw [hsc]; exact hl)) h1 h2
    refine ⟨PE.imp (pe_callB (call_isX hp (cf.ex c k0 hc).1 hz hf) (gl e3) mi (by decide +kernel) (pa_cons he (pa_cons hz2 pa_nil rfl) (plain_star pob _ _)) (by decide) (by decide) (plain_star pob _ _) rfl) ?_, rfl⟩
    rintro σ H Q ⟨sl, ⟨fl, ef⟩, q⟩
    exact ⟨_, sl, z, v, _, fl, rfl, hz1, (hv c k0 hc).1, ef, q⟩
theorem is_alls {X : Cx} {Γ : Gm} {a dd : Addr} {oe : Obj} {i c : Nat} {en : Str} {k0 : Cl} (hK : X.K = K) (hmg : X.mg = mg) (hp : (a, oe) ∈ X.pn) (hsc : X.env.scope = Γ.sc) (cf : ClF C ca Γ.cls P w K mg base) (mi : mg "isinstance" = none) (hc : C[c]? = some k0) (hz : Zc (.ref (ca c)) (some dd) oe) (hf : ∃ vs, oe.data = .fields vs)
    (hi : X.N[i]? = some en) (hl : Γ.sc.names.lookup en = some .local) (h1 : dbg en = false) (h2 : (en == ("__classdict__" : Str)) = false) : ∀ {cs : List Nat} {es : List PySem.Expr}, isAll Γ en cs es = true →
    PA X es (fun σ H Q => σ[i]? = some (some (.ref a)) ∧ (∃ fl, H dd = some (.xd fl)) ∧ Q (cs.map fun t => V.bl (isAnc C c t)) H)
  | [], [], _ => PA.imp pa_nil fun σ H Q ⟨_, _, q⟩ => q
  | [], _ :: _, h => by cases h
  | _ :: _, [], h => by cases h
  | t :: cs, e :: es, h => by
    have h' : (ckIs Γ en t e && isAll Γ en cs es) = true := h
    simp only [Bool.and_eq_true] at h'
    obtain ⟨p1, p2⟩ := is_any hK hmg hp hsc cf mi hc hz hf hi hl h1 h2 h'.1
    refine PA.imp (pa_cons p1 (is_alls hK hmg hp hsc cf mi hc hz hf hi hl h1 h2 h'.2) (plain_star p2 _ _)) ?_
    rintro σ H Q ⟨sl, fl, q⟩
    exact ⟨sl, fl, sl, fl, q⟩
theorem kin_of (kin : K.In base) (ns : base.Ns mainGlobals mg) (cf : ClF C ca tb P w K mg base) {x_ : Str} {cs : List Nat} (h : kiB K tb (x_, cs) = true) :
    ∃ a fd ps, mg x_ = some (.ref a) ∧ PySem.W.keepIn K (.ref a) = true ∧ KinF P w K mg base C ca a fd ps cs ∧ Binds K fd ps [] := by
  unfold kiB at h
  simp only [Bool.and_eq_true] at h
  obtain ⟨⟨⟨h1, h2⟩, h3⟩, h4⟩ := h
  have mi := PySem.W.mg_none_of kin ns (isNo_eq h3)
  split at h4
  · rename_i oc od name qual params body scope gl cl kV doc pm an cdv ct bl osl lk
    simp only [Bool.and_eq_true, decide_eq_true_eq, List.isEmpty_iff] at h4
    obtain ⟨⟨⟨⟨⟨g1, g2⟩, g3⟩, g4⟩, g5⟩, g6⟩ := h4
    subst g1; subst g2; subst g3
    unfold arB at g5
    simp only [Bool.and_eq_true, decide_eq_true_eq, List.isEmpty_iff, Option.isNone_iff_eq_none] at g5
    obtain ⟨⟨⟨⟨a1, a2⟩, a3⟩, a4⟩, a5⟩ := g5
    have bind : Binds K (PySem.W.fnOf name qual params body scope .none kV doc pm an cdv ct) (psOf params) [] := binds_any (its := #[]) a1 rfl a2 a3 a4 a5 (.inl ⟨rfl, rfl⟩) (.inr rfl) (by simp) (by simp)
    split at g6
    · rename_i en eps
      unfold kbB at g6
      split at g6
      · rename_i pl p1 es1 p2 p3 pl' p4 es2 p5 p6 p7
        simp only [Bool.and_eq_true, decide_eq_true_eq, beq_iff_eq, Bool.not_eq_true'] at g6
        obtain ⟨⟨⟨⟨⟨⟨⟨⟨⟨⟨b1, b2⟩, b3⟩, b4⟩, b5⟩, b6⟩, b7⟩, b8⟩, b9⟩, b10⟩, b11⟩ := g6
        subst b1
        have S := scB_ok b2
        rw [eps] at bind
        refine ⟨_, _, [en], PySem.W.mg_of kin ns (isRef_eq h1), h2, ⟨rfl, ?_⟩, bind⟩
        intro A outer s H args a dd oe c k0 fl Q hc room e0 hb pin hz hf ef q
        have kinS : K.In s.heap := e0.mod.kin.keeps fun b o e => (e0.bs b o e).1
        have nolim : s.heap.NoLimit := e0.mod.nolimit.keeps fun b o e => (e0.bs b o e).1
        have kinds : ∀ y ∈ [en].zip [Value.ref a], scope.names.lookup y.1 = some .local ∨ (scope.names.lookup y.1 = some .cell ∧ ((cellsFrom (s.heap.objs.size + 1) scope.names []).lookup y.1).isSome = true) := by
          intro y hy
          have : y = (en, Value.ref a) := by simpa using hy
          subst this
          exact .inl b4
        refine codeAny_call_function room.depth (kinS _ _ lk) rfl S.co S.gen rfl (PySem.W.codeRec_of kinS g4) (hb _ _ _ _ ?_)
        refine wpAny_newFunctionEnv_cells S.kind kinds fun env he s1 x => ?_
        subst he
        refine ⟨nolim.keeps x.toInCall.keep, codeAny_func ?_⟩
        have I : Inv (L2H.cxH (L2.CX P w) P w K mg base [en, pl] qual scope (adr K x_) cdv A outer s H (fun _ _ _ => False) (a, oe)) [] (L2.start [en, pl] [V.ref a]) H s1 := L2H.inv_startH S pin e0 rfl (.cons rfl .nil) x
        have m0 : (a, oe) ∈ [(a, oe)] := List.mem_cons_self
        have lp : pl ≠ en := fun z => by
          have := S.nd
          rw [z] at this
          exact (List.nodup_cons.mp this).1 List.mem_cons_self
        have A1 := is_alls (X := L2H.cxH (L2.CX P w) P w K mg base [en, pl] qual scope (adr K x_) cdv A outer s H (fun _ _ _ => False) (a, oe)) (Γ := kiG en pl scope tb) (i := 0) rfl rfl m0 rfl cf mi hc hz hf rfl b4 b5 b6 b9
        have A2 := is_alls (X := L2H.cxH (L2.CX P w) P w K mg base [en, pl] qual scope (adr K x_) cdv A outer s H (fun _ _ _ => False) (a, oe)) (Γ := kiG en pl scope tb) (i := 0) rfl rfl m0 rfl cf mi hc hz hf rfl b4 b5 b6 b10
        have line : (1000 : Nat) ≤ sizeLine := by rw [sizeLine_eq]; decide
        have body := pss_cons (ps_set (pos' := p1) (pos := p3) (i := 1) S.nd rfl (.inl b3) (pe_lst (pos := p2) A1)) (pss_cons (ps_ret (pos := p7) (pe_op (pos := p6) op_cat (pe_var (i := 1) (pos := p4) rfl (.inl b3) b7 b8) (pe_lst (pos := p5) A2))) pss_nil)
        refine wpAny_mono (body.run [] s1 _ H { nx := fun _ H' => Q .non H', rt := Q } I ?_) (fun fl s' ends => ?_) fun e s' ends => ends
        · refine ⟨rfl, ⟨fl, ef⟩, by rw [List.length_map, List.length_take]; omega, fun q1 n1 => ⟨_, rfl, rfl, ⟨fl, by rw [upd_ne (ne_of_none ef n1)]; exact ef⟩, by rw [List.length_map, List.length_drop]; omega, fun q2 n2 => ?_⟩⟩
          have ne : q1 ≠ q2 := fun z => by rw [← z, upd_same] at n2; cases n2
          refine ⟨q1, q2, _, _, rfl, rfl, by rw [upd_ne ne, upd_same], upd_same, by rw [List.length_map, List.length_map, List.length_take, List.length_drop]; omega, fun q3 n3 => ?_⟩
          have := q q1 q2 q3 _ _ n1 n2 n3
          rw [← List.map_append, List.take_append_drop]
          exact this
        · have done : ∀ {τ : L2.St} {G : Hp} {v : V} {u : Value}, Inv (L2H.cxH (L2.CX P w) P w K mg base [en, pl] qual scope (adr K x_) cdv A outer s H (fun _ _ _ => False) (a, oe)) [] τ G s' → RelV v u → Q v G → CE outer P w H s Q u s' :=
            fun {τ G v u} J rv q => ⟨v, G, J.os, J.bare, J.base, J.hok, rv, q⟩
          cases fl with
          | next =>
            obtain ⟨τ, G, J, q⟩ := ends
            exact done (v := V.non) (u := Value.none) J rfl q
          | ret u =>
            obtain ⟨v, τ, G, J, rv, q⟩ := ends
            exact done J rv q
          | brk =>
            obtain ⟨_, _, _, q⟩ := ends
            exact q.elim
          | cont =>
            obtain ⟨_, _, _, q⟩ := ends
            exact q.elim
      · cases g6
    · cases g6
  · cases h4
end
end Mini
end

section
/-! Mini: the classes are checked by computing (own work). -/
namespace Mini
open PySem PySem.Spec PyProof.Rows L2
section
variable {P : Program} {w : World} {K : PySem.W.Frag} {mg : Str → Option Value} {base : Heap}
def excB (K : PySem.W.Frag) (D : Addr) : Bool :=
  decide (PySem.W.findIn K (.ref D) "__getattribute__" = some (some (.builtin "BaseException.__getattribute__"))) && isNo (PySem.W.findIn K (.ref D) "__getattr__") && decide (PySem.W.subIn K (.ref D) (.type "BaseException") = some true) && PySem.W.hasDictIn K D &&
  decide (PySem.W.findIn K (.ref D) "__class__" = some (some (.builtin "object.__class__"))) && decide (PySem.W.specialIn K (.builtin "object.__class__") "__get__" = some (some (.builtin "getset_descriptor.__get__"))) && decide (PySem.W.takesIn K (.builtin "object.__class__") = some true) &&
  decide (PySem.W.mroIn K D (.type "object") = some true)
theorem excB_ok {D : Addr} (h : excB K D = true) : ExcC K D := by
  unfold excB at h
  simp only [Bool.and_eq_true, decide_eq_true_eq] at h
  obtain ⟨⟨⟨⟨⟨⟨⟨h1, h2⟩, h3⟩, h4⟩, h5⟩, h6⟩, h7⟩, h8⟩ := h
  exact ⟨h1, isNo_eq h2, h3, h4, h5, h6, h7, h8⟩
def ocB (C : Addr) (o : Option Obj) : Bool := match o with
  | some ⟨.type t, _, .cls ⟨_, _, .ref c :: bm, _, _, true, _, _, _, _, false⟩, sl⟩ => t == "type" && c == C && PySem.HandSPX.refsVE bm && (match sl.toList with
    | [_, _, _, _, some (.builtin b), _] => b == "ValueError.__new__"
    | _ => false)
  | _ => false
def oexB (K : PySem.W.Frag) (C : Addr) : Bool := ocB C (K.lookup C) && decide (PySem.W.findIn K (.ref C) "__setattr__" = some (some (.builtin "object.__setattr__"))) && decide (PySem.W.subIn K (.ref C) (.type "BaseException") = some true) && decide (PySem.W.typeIn K (.ref C) = some (.type "type")) && PySem.W.keepIn K (.ref C)
theorem oexB_ok {C : Addr} (h : oexB K C = true) : OexC K C := by
  unfold oexB at h
  simp only [Bool.and_eq_true, decide_eq_true_eq] at h
  obtain ⟨⟨⟨⟨h1, h2⟩, h3⟩, h4⟩, h5⟩ := h
  refine ⟨?_, h2, h3, h4, h5⟩
  unfold ocB at h1
  split at h1
  · rename_i t dd nm bs c bm N q sn sub ab col sl e
    simp only [Bool.and_eq_true, beq_iff_eq] at h1
    obtain ⟨⟨⟨e1, e2⟩, e3⟩, e4⟩ := h1
    subst e1; subst e2
    split at e4
    · rename_i k0 k1 k2 k3 b k5 es
      have e5 := beq_iff_eq.mp e4
      subst e5
      have es' : sl = #[k0, k1, k2, k3, some (.builtin "ValueError.__new__"), k5] := Array.toList_inj.mp es
      subst es'
      exact ⟨nm, q, N, bs, bm, sn, sub, ab, col, dd, k0, k1, k2, k3, k5, e, e3⟩
    · cases e4
  · cases h1
def icB (K : PySem.W.Frag) (C D : Addr) : Bool := oexB K C && decide (PySem.W.mroIn K C (.ref D) = some true) && decide (PySem.W.ks_superIn K C D "__init__" = some (some (.builtin "ValueError.__init__"))) && decide (PySem.W.subIn K (.ref C) (.type "ValueError") = some true)
theorem icB_ok {C D : Addr} (h : icB K C D = true) : InitC K C D := by
  unfold icB at h
  simp only [Bool.and_eq_true, decide_eq_true_eq] at h
  obtain ⟨⟨⟨h1, h2⟩, h3⟩, h4⟩ := h
  exact ⟨oexB_ok h1, h2, h3, h4⟩
def celB (D : Addr) (o : Option Obj) : Bool := match o with
  | some ⟨_, _, .cell (some (.ref d)), _⟩ => d == D
  | _ => false
def codB (P : Program) (o : Option Obj) : Bool := match o with
  | some ⟨_, _, .fields vs, _⟩ => (match (vs[2]? : Option Value) with
    | some (.str file _) => (P.main.file : Str) == file
    | _ => false)
  | _ => false
def iiB (P : Program) (K : PySem.W.Frag) (cc D cda : Addr) : Bool := celB D (K.lookup cc) && (PySem.W.clsIn K D).isSome && codB P (K.lookup cda) && !(P.main.scope.names.lookup ("super" : Str)).isSome && isNo (PySem.W.nsIn K mainGlobals "super") && isNo (PySem.W.nsIn K cStatics "thirdparty.any")
theorem iiB_ok {f cc D cda : Addr} {qual : Str} (h : iiB P K cc D cda = true) : InitIn P K f cc D cda qual := by
  unfold iiB at h
  simp only [Bool.and_eq_true, Bool.not_eq_true'] at h
  obtain ⟨⟨⟨⟨⟨h1, h2⟩, h3⟩, h4⟩, h5⟩, h6⟩ := h
  refine ⟨?_, Option.isSome_iff_exists.mp h2, ?_, h4, isNo_eq h5, isNo_eq h6⟩
  · unfold celB at h1
    split at h1
    · rename_i oc od d sl e
      rw [beq_iff_eq.mp h1] at e
      exact ⟨oc, od, sl, e⟩
    · cases h1
  · unfold codB at h3
    split at h3
    · rename_i oc od vs sl e
      split at h3
      · rename_i file tf e2
        exact ⟨oc, od, sl, vs, file, tf, e, e2, h3⟩
      · cases h3
    · cases h3
def isB (N : List Str) (sc : Scope) : Bool := decide (sc.kind = .function) && !sc.isCoroutine && !sc.isGenerator && decide N.Nodup && (N.all fun x => decide (sc.names.lookup x = some .local)) && (sc.names.all fun y => decide (y.2 ≠ .cell)) && (sc.names.all fun y => decide (y.2 ≠ .free) || decide (y.1 = "__class__")) &&
  decide (sc.names.lookup ("super" : Str) = some .globalImplicit) && decide (sc.names.lookup ("__class__" : Str) = some .free)
theorem isB_ok {N : List Str} {sc : Scope} (h : isB N sc = true) : IScope N sc := by
  unfold isB at h
  simp only [Bool.and_eq_true, decide_eq_true_eq, Bool.not_eq_true', List.all_eq_true, Bool.or_eq_true] at h
  obtain ⟨⟨⟨⟨⟨⟨⟨⟨h1, h2⟩, h3⟩, h4⟩, h5⟩, h6⟩, h7⟩, h8⟩, h9⟩ := h
  exact ⟨h1, h2, h3, h4, h5, h6, fun y m e => (h7 y m).resolve_left fun z => z e, h8, h9⟩
def dn (x : Str) : Bool := !(x == ("__debug__" : Str)) && !(x == ("__classdict__" : Str))
/-- the body of an __init__ -/
def bdB (ps : List Str) (flds : List Str) : List PySem.Stmt → Bool
  | [.Expr (.Call (.Attribute (.Call (.Name s0 _) [] [] _) m p2) [.Name x _] [] p3) _, .Assign [.Attribute (.Name s1 _) fl _] (.Name x' _) _] =>
    (match ps, flds with
    | [self, y], [f] => s0 == ("super" : Str) && m == ("__init__" : Str) && p2.endLine == p3.line && x == y && x' == y && s1 == self && fl == f && dn self && dn y
    | _, _ => false)
  | [.Expr (.Call (.Attribute (.Call (.Name s0 _) [] [] _) m p2) [.Name x _, .Name z _] [] p3) _, .Assign [.Attribute (.Name s1 _) fl _] (.Name x' _) _, .Assign [.Attribute (.Name s2 _) gl _] (.Name z' _) _] =>
    (match ps, flds with
    | [self, y, u], [f, g] => s0 == ("super" : Str) && m == ("__init__" : Str) && p2.endLine == p3.line && x == y && x' == y && z == u && z' == u && s1 == self && s2 == self && fl == f && gl == g && dn self && dn y && dn u
    | _, _ => false)
  | _ => false
def fiB (P : Program) (K : PySem.W.Frag) (D fI cc : Addr) (flds : List Str) : Bool := match K.lookup fI with
  | some ⟨_, _, .func ⟨_, qual, params, .stmts body, scope, gl, [(x, c)], .none, _, _, _, _, .ref cda, _, bl⟩, _⟩ =>
    decide (gl = mainGlobals) && decide (bl = builtinsNs) && x == ("__class__" : Str) && c == cc && PySem.W.codeIn K (.ref cda) qual && isB (psOf params) scope && iiB P K cc D cda && arB params && bdB (psOf params) flds body
  | _ => false
theorem fiB_ok {D fI cc : Addr} {flds : List Str} (h : fiB P K D fI cc flds = true) : ∃ fd ps, FnOk P w K mg base (L2.CX P w) 1 fI fd ps (spN K D flds) ∧ Binds K fd ps [] := by
  unfold fiB at h
  split at h
  · rename_i oc od name qual params body scope gl x c kV doc pm an cda ct bl osl lk
    simp only [Bool.and_eq_true, decide_eq_true_eq, beq_iff_eq] at h
    obtain ⟨⟨⟨⟨⟨⟨⟨⟨h1, h2⟩, h3⟩, h4⟩, h5⟩, h6⟩, h7⟩, h8⟩, h9⟩ := h
    subst h1; subst h2; subst h3; subst h4
    unfold arB at h8
    simp only [Bool.and_eq_true, decide_eq_true_eq, List.isEmpty_iff, Option.isNone_iff_eq_none] at h8
    obtain ⟨⟨⟨⟨a1, a2⟩, a3⟩, a4⟩, a5⟩ := h8
    have bind : Binds K (PySem.W.fnX name qual params body scope [("__class__", c)] .none kV doc pm an (.ref cda) ct) (psOf params) [] := binds_any (its := #[]) a1 rfl a2 a3 a4 a5 (.inl ⟨rfl, rfl⟩) (.inr rfl) (by simp) (by simp)
    have S := isB_ok h6
    have T : InitIn P K fI c D cda qual := iiB_ok h7
    have hd : ∀ {self : Str} {r : List Str}, psOf params = self :: r → ∃ ar : Arg, (params.posonlyargs ++ params.args).head? = some ar ∧ ar.arg = self := fun {self r} e => by
      rw [a1, List.nil_append]
      unfold psOf at e
      cases ha : params.args with
      | nil => rw [ha] at e; cases e
      | cons ar l =>
        rw [ha] at e
        exact ⟨ar, rfl, (List.cons.inj e).1⟩
    unfold bdB at h9
    split at h9
    · rename_i s0 p0 p1 m p2 x p5 p3 p4 s1 p6 fl p7 x' p8 p9
      split at h9
      · rename_i self y f eps
        simp only [Bool.and_eq_true, beq_iff_eq, dn, Bool.not_eq_true'] at h9
        obtain ⟨⟨⟨⟨⟨⟨⟨⟨b1, b2⟩, b3⟩, b4⟩, b5⟩, b6⟩, b7⟩, b8⟩, b9⟩ := h9
        subst b1; subst b2; subst b4; subst b5; subst b6; subst b7
        obtain ⟨ar, e1, e2⟩ := hd eps
        rw [eps] at S bind
        exact ⟨_, _, init_fn1 (k := 0) lk h5 S T e1 e2 (by rw [b3]; exact beq_self_eq_true _) b8.1 b9.1 b8.2 b9.2, bind⟩
      · cases h9
    · rename_i s0 p0 p1 m p2 x p5 z q5 p3 p4 s1 p6 fl p7 x' p8 p9 s2 q6 gl' q7 z' q8 q9
      split at h9
      · rename_i self y u f g eps
        simp only [Bool.and_eq_true, beq_iff_eq, dn, Bool.not_eq_true'] at h9
        obtain ⟨⟨⟨⟨⟨⟨⟨⟨⟨⟨⟨⟨⟨b1, b2⟩, b3⟩, b4⟩, b5⟩, b6⟩, b7⟩, b8⟩, b9⟩, b10⟩, b11⟩, b12⟩, b13⟩, b14⟩ := h9
        subst b1; subst b2; subst b4; subst b5; subst b6; subst b7; subst b8; subst b9; subst b10; subst b11
        obtain ⟨ar, e1, e2⟩ := hd eps
        rw [eps] at S bind
        exact ⟨_, _, init_fn2 (k := 0) lk h5 S T e1 e2 (by rw [b3]; exact beq_self_eq_true _) b12.1 b13.1 b12.2 b13.2 b14.1 b14.2, bind⟩
      · cases h9
    · cases h9
  · cases h
/-! ### the table of the classes -/
def caOf (K : PySem.W.Frag) (rs : List Str) (c : Nat) : Addr := match rs[c]? with
  | some r => adr K r
  | none => 0
def fiOf (K : PySem.W.Frag) (a : Addr) : Addr := match PySem.W.findIn K (.ref a) "__init__" with
  | some (some (.ref f)) => f
  | _ => 0
def ccOf (K : PySem.W.Frag) (f : Addr) : Addr := match K.lookup f with
  | some ⟨_, _, .func fd, _⟩ => (match fd.closure with
    | [(_, c)] => c
    | _ => 0)
  | _ => 0
def deOf (K : PySem.W.Frag) (c : Addr) : Addr := match K.lookup c with
  | some ⟨_, _, .cell (some (.ref d)), _⟩ => d
  | _ => 0
/-- one name of a class -/
def nmB (K : PySem.W.Frag) (C : List Cl) (rs : List Str) (t : Str × Nat × Nat) : Bool := match t.2.2 with
  | 0 => isRef (PySem.W.nsIn K mainGlobals t.1) (caOf K rs t.2.1) && (List.range C.length).all fun c => decide (PySem.W.kitOne K (.ref (caOf K rs c)) (.ref (caOf K rs t.2.1)) = some (isAnc C c t.2.1)) && decide (PySem.W.exmOne K (.ref (caOf K rs c)) (.ref (caOf K rs t.2.1)) = some (isAnc C c t.2.1))
  | 1 => isNo (PySem.W.nsIn K mainGlobals t.1) && decide (bootBuiltins t.1 = some (.type "ValueError")) && decide (t.1 ≠ "__name__") && (List.range C.length).all fun c => decide (PySem.W.kitOne K (.ref (caOf K rs c)) (.type "ValueError") = some (isAnc C c t.2.1))
  | _ => false
/-- a class that is raised -/
def rsB (P : Program) (K : PySem.W.Frag) (k0 : Cl) (r : Str) : Bool := k0.flds.isEmpty || (decide k0.flds.Nodup && icB K (adr K r) (deOf K (ccOf K (fiOf K (adr K r)))) && isRef (PySem.W.findIn K (.ref (adr K r)) "__init__") (fiOf K (adr K r)) && decide (PySem.W.typeIn K (.ref (fiOf K (adr K r))) = some (.type "function")) && fiB P K (deOf K (ccOf K (fiOf K (adr K r)))) (fiOf K (adr K r)) (ccOf K (fiOf K (adr K r))) k0.flds)
def clsB (P : Program) (K : PySem.W.Frag) : List Cl → List Str → Bool
  | [], [] => true
  | k0 :: C, r :: rs => excB K (adr K r) && (k0.flds.all fun f => isNo (PySem.W.findIn K (.ref (adr K r)) f)) && isRef (PySem.W.nsIn K mainGlobals r) (adr K r) && rsB P K k0 r && clsB P K C rs
  | _, _ => false
theorem clsB_at : ∀ {C : List Cl} {rs : List Str}, clsB P K C rs = true → ∀ (c : Nat) k0, C[c]? = some k0 → ∃ r, rs[c]? = some r ∧ excB K (adr K r) = true ∧ (k0.flds.all fun f => isNo (PySem.W.findIn K (.ref (adr K r)) f)) = true ∧ isRef (PySem.W.nsIn K mainGlobals r) (adr K r) = true ∧ rsB P K k0 r = true
  | [], [], _, c, k0, e => by simp at e
  | [], _ :: _, h, _, _, _ => by cases h
  | _ :: _, [], h, _, _, _ => by cases h
  | k1 :: C, r0 :: rs, h, c, k0, e => by
    have h' : (excB K (adr K r0) && (k1.flds.all fun f => isNo (PySem.W.findIn K (.ref (adr K r0)) f)) && isRef (PySem.W.nsIn K mainGlobals r0) (adr K r0) && rsB P K k1 r0 && clsB P K C rs) = true := h
    simp only [Bool.and_eq_true] at h'
    cases c with
    | zero =>
      simp at e
      subst e
      exact ⟨r0, rfl, h'.1.1.1.1, h'.1.1.1.2, h'.1.1.2, h'.1.2⟩
    | succ c =>
      obtain ⟨r, a, b⟩ := clsB_at h'.2 c k0 (by simpa using e)
      exact ⟨r, by simpa using a, b⟩
theorem clf_of {C : List Cl} {rs : List Str} {tb : List (Str × Nat × Nat)} (kin : K.In base) (ns : base.Ns mainGlobals mg) (h1 : clsB P K C rs = true) (h2 : tb.all (nmB K C rs) = true) : ClF C (caOf K rs) tb P w K mg base := by
  have at' : ∀ (c : Nat) (k0 : Cl), C[c]? = some k0 → ∃ r, rs[c]? = some r ∧ caOf K rs c = (adr K r) ∧ excB K (adr K r) = true ∧ (k0.flds.all fun f => isNo (PySem.W.findIn K (.ref (adr K r)) f)) = true ∧ isRef (PySem.W.nsIn K mainGlobals r) (adr K r) = true ∧ rsB P K k0 r = true := fun c k0 e => by
    obtain ⟨r, e1, e2⟩ := clsB_at h1 c k0 e
    exact ⟨r, e1, by unfold caOf; rw [e1], e2⟩
  refine ⟨fun c k0 e => ?_, fun x a m mm => ?_, fun x a mm k0 e hne => ?_⟩
  · obtain ⟨r, _, e1, e2, e3, _⟩ := at' c k0 e
    rw [e1]
    exact ⟨excB_ok e2, fun f hf => isNo_eq (List.all_eq_true.mp e3 f hf)⟩
  · have q := List.all_eq_true.mp h2 _ mm
    unfold nmB at q
    match m, q with
    | 0, q =>
      simp only [Bool.and_eq_true, List.all_eq_true, decide_eq_true_eq] at q
      refine ⟨.ref (caOf K rs a), .inl ⟨rfl, PySem.W.mg_of kin ns (isRef_eq q.1), _, rfl⟩, fun c k0 e => ?_⟩
      have := q.2 c (List.mem_range.mpr (List.getElem?_eq_some_iff.mp e).1)
      exact ⟨this.1, fun _ => this.2⟩
    | 1, q =>
      simp only [Bool.and_eq_true, List.all_eq_true, decide_eq_true_eq] at q
      refine ⟨.type "ValueError", .inr ⟨rfl, PySem.W.mg_none_of kin ns (isNo_eq q.1.1.1), q.1.1.2, q.1.2, _, rfl⟩, fun c k0 e => ?_⟩
      have := q.2 c (List.mem_range.mpr (List.getElem?_eq_some_iff.mp e).1)
      exact ⟨this, fun z => by cases z⟩
    | _ + 2, q => cases q
  · obtain ⟨r, _, e1, e2, e3, e4, e5⟩ := at' a k0 e
    unfold rsB at e5
    rw [Bool.or_eq_true] at e5
    rcases e5 with z | e5
    · exact absurd (List.isEmpty_iff.mp z) hne
    · simp only [Bool.and_eq_true, decide_eq_true_eq] at e5
      obtain ⟨⟨⟨⟨b1, b2⟩, b3⟩, b4⟩, b5⟩ := e5
      obtain ⟨fd, ps, F, B⟩ := fiB_ok (P := P) (w := w) (mg := mg) (base := base) b5
      refine ⟨b1, _, _, fd, ps, ?_, by rw [e1]; exact icB_ok b2, by rw [e1]; exact isRef_eq b3, b4, F, B⟩
      have q := List.all_eq_true.mp h2 _ mm
      unfold nmB at q
      simp only [Bool.and_eq_true] at q
      exact PySem.W.mg_of kin ns (isRef_eq q.1)
/-- all that is asked of the written part -/
def tabB (P : Program) (K : PySem.W.Frag) (C : List Cl) (CR : List Str) (tb : List (Str × Nat × Nat)) (con : List (Str × D)) (kin : List (Str × List Nat)) (PF : List Fn) (FR : List FRow) : Bool :=
  allB K ⟨fnsOf 0 FR, tb, con, kin⟩ PF FR && (blts.all fun x => isNo (PySem.W.nsIn K mainGlobals x)) && con.all (coB K) && clsB P K C CR && tb.all (nmB K C CR) && kin.all (kiB K tb)
def noLst (K : PySem.W.Frag) : Bool := K.all fun p => decide (p.2.cls ≠ .type "list")
theorem mem_lookA {β : Type} {a : Addr} {o : β} : ∀ {l : List (Addr × β)}, l.lookup a = some o → (a, o) ∈ l
  | [], h => by cases h
  | (b, u) :: l, h => by
    by_cases e : a = b
    · subst e
      have h' : some u = some o := by simpa [List.lookup] using h
      cases h'
      exact List.mem_cons_self
    · have hb : (a == b) = false := by simpa using e
      simp only [List.lookup, hb] at h
      exact List.mem_cons_of_mem _ (mem_lookA h)
theorem noLst_ok (h : noLst K = true) (a : Addr) (o : Obj) (e : K.lookup a = some o) : o.cls ≠ .type "list" := by
  have := List.all_eq_true.mp h (a, o) (mem_lookA e)
  exact of_decide_eq_true this
end
theorem law_tab {l : PySem.W.OpenLaw} {n k : Nat} {q : Program} {loose : List Str} {XP : (Str → Option Value) → Heap → Prop} {YP : World → Heap → Prop} {d : DefRec} {K : Params → PySem.W.Frag} {C : List Cl} {CR : List Str} {tb : List (Str × Nat × Nat)} {con : List (Str × D)} {ks : List (Str × List Nat)} {PF : List Fn} {FR : List FRow} {i : Nat} {r : FRow} {f : Fn}
    (hn : l.most = some n) (hn2 : n ≤ sizeLine) (hdf : d.params.defaults = []) (room : Room (k + 3) callerA) (hY : ∀ (w : World) (h : Heap), YP w h → (K w.params).In h)
    (hl : ∀ p : Params, noLst (K p) = true) (ht : ∀ p : Params, tabB l.prog (K p) C CR tb con ks PF FR = true) (hr : FR[i]? = some r) (hx : r.x = d.name) (hf : PF[i]? = some f) (hp : f.np = 1)
    (run : ∀ ns : List Int, ns.length ≤ n → ∃ h', callF PF C k i [.ref 0] [.ro (ns.map D.int)] = some (.ok (.bl true) h')) :
    PySem.W.WalkO q loose XP YP l.row.toRowW d [] (fun f vs => PySem.call f vs) := by
  refine law_by hn hn2 hdf room hY (fun p a o e => noLst_ok (hl p) a o e) fun w mg fa h kin ns hfa => ?_
  have t := ht w.params
  unfold tabB at t
  simp only [Bool.and_eq_true] at t
  obtain ⟨⟨⟨⟨⟨t1, t2⟩, t3⟩, t4⟩, t5⟩, t6⟩ := t
  obtain ⟨f', e1, e2, e3⟩ := allB_at t1 i r hr
  rw [hf] at e1
  cases e1
  obtain ⟨fd, e4, e5⟩ := fnB_ok e2
  obtain ⟨b1, _, b3, _⟩ := clB_ok e4 e3
  have ea := PySem.W.mg_of kin ns b1
  rw [hx] at ea e5
  rw [hfa] at ea
  cases ea
  have hps : ∃ x, psOf fd.params = [x] := by
    obtain ⟨Γ, oc, od, name, qual, params, body, scope, dV, kV, doc, pm, cdv, ct, an, osl, _, _, _, _, _, _, _, _, _, _, _, hnp, _⟩ := e5.is
    rw [hp] at hnp
    match psOf fd.params, hnp with
    | [x], _ => exact ⟨x, rfl⟩
  obtain ⟨x, hx'⟩ := hps
  rw [hx'] at e5 b3
  exact ⟨C, caOf (K w.params) CR, ⟨fnsOf 0 FR, tb, con, ks⟩, PF, i, f, fd, x, fun base kb nb => whole_of kb nb rfl t1 t2 t3 (fun x cs m => kin_of kb nb (clf_of kb nb t4 t5) (List.all_eq_true.mp t6 (x, cs) m)) (clf_of kb nb t4 t5), hf, e5, b3, run⟩
end Mini
end

section
/-! Mini: the defs that all laws have: draws (own work). -/
namespace Mini
open PySem

def bTake (j : Nat) : S := .seq (.asg (.slot 3) (.ix (.slot 1) (.int 0))) (.seq (.asg (.tsub (.slot 1) (.int 0)) (.bin .Add (.slot 3) (.int 1))) (.seq (.ret (.bin .Mod (.bi .int (.cons (.ifx (.tru (.cmp .Lt (.slot 3) (.bi .len (.cons (.slot 0) (.nil))))) (.ix (.slot 0) (.slot 3)) (.call j (.cons (.slot 0) (.cons (.slot 3) (.nil))) [])) (.nil))) (.slot 2))) (.nil)))
def bOne (j : Nat) : S := .seq (.ret (.ix (.slot 0) (.call j (.cons (.slot 1) (.cons (.slot 2) (.cons (.bi .len (.cons (.slot 0) (.nil))) (.nil)))) []))) (.nil)
def bMore : S := .seq (.asg (.slot 2) (.bin .Mod (.bi .int (.cons (.bin .Add (.bin .Add (.bin .Mult (.slot 1) (.int 48271)) (.bi .len (.cons (.slot 0) (.nil)))) (.int 11)) (.nil))) (.int 2147483629))) (.seq (.for (.slot 3) (.rng (.cons (.int 3) (.nil))) (.seq (.ite (.tru (.slot 0)) (.seq (.asg (.slot 2) (.bin .Add (.slot 2) (.ix (.slot 0) (.bin .Mod (.bi .int (.cons (.bin .Add (.bin .Mult (.slot 1) (.bin .Add (.slot 3) (.int 5))) (.slot 3)) (.nil))) (.bi .len (.cons (.slot 0) (.nil))))))) (.nil)) (.nil)) (.seq (.asg (.slot 2) (.bin .Mod (.bi .int (.cons (.bin .Add (.bin .Add (.bin .Mult (.slot 2) (.int 16807)) (.bin .Mult (.int 69621) (.slot 3))) (.int 5)) (.nil))) (.int 2147483629))) (.nil)))) (.seq (.ret (.bin .FloorDiv (.slot 2) (.int 1009))) (.nil)))
def bDraws : S := .seq (.asg (.slot 1) (.lst (.nil))) (.seq (.for (.slot 2) (.itr (.sl (.slot 0) (.omit) (.cons (.int 63) .nil))) (.seq (.asg (.slot 3) (.bi .abs (.cons (.slot 2) (.nil)))) (.seq (.ite (.tru (.cmp .GtE (.slot 3) (.bin .Pow (.int 10) (.int 18)))) (.seq (.for (.slot 4) (.rng (.cons (.int 60) (.nil))) (.seq (.ite (.tru (.cmp .Gt (.slot 3) (.int 0))) (.seq (.ex (.mt .append (.slot 1) (.cons (.bin .Mod (.bi .int (.cons (.slot 3) (.nil))) (.int 1009)) (.nil)))) (.seq (.asg (.slot 3) (.bin .FloorDiv (.slot 3) (.int 1009))) (.nil))) (.nil)) (.nil))) (.nil)) (.seq (.asg (.slot 5) (.bin .Mod (.bi .int (.cons (.bin .Add (.bin .Mult (.slot 3) (.int 48271)) (.int 11)) (.nil))) (.int 2147483647))) (.seq (.for (.slot 4) (.rng (.cons (.int 12) (.nil))) (.seq (.asg (.slot 5) (.bin .Mod (.bi .int (.cons (.bin .Add (.bin .Add (.bin .Mult (.slot 5) (.int 16807)) (.bin .Mult (.int 69621) (.slot 4))) (.int 5)) (.nil))) (.int 2147483629))) (.seq (.ex (.mt .append (.slot 1) (.cons (.bin .FloorDiv (.slot 5) (.int 1009)) (.nil)))) (.nil)))) (.nil)))) (.nil)))) (.seq (.ret (.slot 1)) (.nil)))

theorem ret1 {call : Caller} {C : List Cl} {f : Fn} {vs : List D} {h h' : List O} {d : D} (e : exec call C f.body (startD f.nl vs) h = some (.fl (.rt d) h')) : runB call C f vs h = some (.ok d h') := by
  unfold runB; rw [e]
section
variable {call : Caller} {C : List Cl}
theorem seq_nx {a b : S} {env e : Env} {h h' : List O} (x : exec call C a env h = some (.fl (.nx e) h')) : exec call C (.seq a b) env h = exec call C b e h' := by
  show (match exec call C a env h with | some (.fl (.nx e) h') => exec call C b e h' | r => r) = _
  rw [x]
/-- a loop's turn -/
def turn (call : Caller) (C : List Cl) (tg : E) (b : S) : D → Env → List O → Option RS := fun x env h => match asgT tg x env with
  | some env2 => exec call C b env2 h
  | none => none
theorem for_is {tg it : E} {b : S} {env : Env} {h h1 : List O} {p : List D × Src} (x : evi call it env h = some (.ok p h1)) : exec call C (.for tg it b) env h = forGo p.2 (turn call C tg b) p.1 env h1 := by
  show bns (evi call it env h) env _ = _
  rw [x]
  rfl
theorem for_nil {src : Src} {f : D → Env → List O → Option RS} {env : Env} {h : List O} (c : chk src h = true) : forGo src f [] env h = some (.fl (.nx env) h) := by
  unfold forGo
  rw [if_pos c]
theorem for_cons {src : Src} {f : D → Env → List O → Option RS} {x : D} {xs : List D} {env e : Env} {h h' : List O} (c : chk src h = true) (y : f x env h = some (.fl (.nx e) h')) : forGo src f (x :: xs) env h = forGo src f xs e h' := by
  rw [forGo, if_pos c, y]
/-- a comprehension's turn -/
def lcT (call : Caller) (own : List Nat) (tg c elt : E) (env : Env) : D → List O → Option (R (Option D)) := fun x h => match asgT tg x (wipeD env own) with
  | some env2 => bnd (evt call c env2 h) fun b h2 => if b then bnd (ev call elt env2 h2) fun y h3 => some (.ok (some y) h3) else some (.ok none h2)
  | none => none
theorem lc_is {own : List Nat} {tg it c elt : E} {env : Env} {h h1 h2 : List O} {p : List D × Src} {ys : List D} (x : evi call it env h = some (.ok p h1)) (y : lcGo p.2 (lcT call own tg c elt env) p.1 [] h1 = some (.ok ys h2)) : ev call (.lc own tg it c elt) env h = some (.ok (.ref h2.length) (h2 ++ [.lst ys])) := by
  show bnd (evi call it env h) _ = _
  rw [x, bnd_ok]
  show bnd (lcGo p.2 (lcT call own tg c elt env) p.1 [] h1) _ = _
  rw [y]
  rfl
theorem lc_some {src : Src} {f : D → List O → Option (R (Option D))} {x y : D} {xs acc : List D} {h h' : List O} (c : chk src h = true) (e : f x h = some (.ok (some y) h')) (l : acc.length < lim) : lcGo src f (x :: xs) acc h = lcGo src f xs (acc ++ [y]) h' := by
  rw [lcGo, if_pos c, e]
  dsimp only
  rw [if_pos l]
theorem lc_none {src : Src} {f : D → List O → Option (R (Option D))} {x : D} {xs acc : List D} {h h' : List O} (c : chk src h = true) (e : f x h = some (.ok none h')) : lcGo src f (x :: xs) acc h = lcGo src f xs acc h' := by
  rw [lcGo, if_pos c, e]
theorem lc_nil {src : Src} {f : D → List O → Option (R (Option D))} {acc : List D} {h : List O} (c : chk src h = true) : lcGo src f [] acc h = some (.ok acc h) := by
  rw [lcGo, if_pos c]
/-- lists that do not change where they are walked: none -/
theorem chk_nil {h : List O} : chk [] h = true := rfl
theorem atD_nat {xs : List D} {i : Nat} {d : D} (e : xs[i]? = some d) : atD xs (i : Int) = some d := by
  have hl := (List.getElem?_eq_some_iff.mp e).1
  unfold atD ixD
  rw [if_pos (Int.natCast_nonneg i), if_pos (by omega)]
  simpa using e
def bMoreB : S := .seq (.ite (.tru (.slot 0)) (.seq (.asg (.slot 2) (.bin .Add (.slot 2) (.ix (.slot 0) (.bin .Mod (.bi .int (.cons (.bin .Add (.bin .Mult (.slot 1) (.bin .Add (.slot 3) (.int 5))) (.slot 3)) (.nil))) (.bi .len (.cons (.slot 0) (.nil))))))) (.nil)) (.nil)) (.seq (.asg (.slot 2) (.bin .Mod (.bi .int (.cons (.bin .Add (.bin .Add (.bin .Mult (.slot 2) (.int 16807)) (.bin .Mult (.int 69621) (.slot 3))) (.int 5)) (.nil))) (.int 2147483629))) (.nil))
theorem len_of {h : List O} {a : Nat} {xs : List D} (rd : rdLst h a = some xs) : len1 [.ref a] h = okI (xs.length : Int) h := by
  show (match rdLst h a with | some xs => okI xs.length h | none => none) = _
  rw [rd]
theorem at_mod {ds : List Int} (hp : (0 : Int) < ds.length) (e : Int) : ∃ z : Int, atD (ds.map D.int) (e % (ds.length : Int)) = some (.int z) := by
  have h0 := Int.emod_nonneg e (by omega : (ds.length : Int) ≠ 0)
  have h1 := Int.emod_lt_of_pos e hp
  obtain ⟨i, ei⟩ := Int.eq_ofNat_of_zero_le h0
  rw [ei] at h1 ⊢
  have hi : i < ds.length := by omega
  exact ⟨ds[i], atD_nat (by rw [List.getElem?_map, List.getElem?_eq_getElem hi]; rfl)⟩
/-- _law_more -/
theorem more_ok {h : List O} {a : Nat} {ds : List Int} {p : Int} (rd : rdLst h a = some (ds.map .int)) :
    ∃ z : Int, runB call C ⟨2, 4, bMore⟩ [.ref a, .int p] h = some (.ok (.int z) h) := by
  have len : len1 [.ref a] h = okI (ds.length : Int) h := by rw [len_of rd, List.length_map]
  have step : ∀ (k : Nat) (m : Int) (kk : Option D), k < 3 → ∃ m' : Int, turn call C (.slot 3) bMoreB (.int (0 + (k : Int))) [some (.ref a), some (.int p), some (.int m), kk] h = some (.fl (.nx [some (.ref a), some (.int p), some (.int m'), some (.int (0 + (k : Int)))]) h) := by
    intro k m kk hk
    have hk5 : (0 + (k : Int) + 5).natAbs < 2 ^ 64 := by omega
    by_cases hz : ds = []
    · simp [turn, bMoreB, asgT, exec, asgS, ev, evs, evt, truth, rd, hz, bns, bnd, binD, mulD, mulOk, addD, okI, biD, int1, gc]
    · have hp : (0 : Int) < ds.length := by
        have := List.length_pos_iff.mpr hz
        omega
      obtain ⟨z, hz2⟩ := at_mod hp (p * (0 + (k : Int) + 5) + (0 + (k : Int)))
      simp only [Int.zero_add] at hz2 hk5
      simp [turn, bMoreB, asgT, exec, asgS, ev, evs, evt, truth, rd, hz, bns, bnd, binD, mulD, mulOk, addD, okI, biD, int1, gc, len, hp, List.length_pos_iff.mpr hz, hk5, ixG, seqOf, hz2]
  obtain ⟨m1, e1⟩ := step 0 ((p * 48271 + (ds.length : Int) + 11) % 2147483629) none (by decide)
  obtain ⟨m2, e2⟩ := step 1 m1 (some (.int (0 + (0 : Nat)))) (by decide)
  obtain ⟨m3, e3⟩ := step 2 m2 (some (.int (0 + (1 : Nat)))) (by decide)
  refine ⟨m3 / 1009, ret1 ?_⟩
  show exec call C (.seq (.asg (.slot 2) (.bin .Mod (.bi .int (.cons (.bin .Add (.bin .Add (.bin .Mult (.slot 1) (.int 48271)) (.bi .len (.cons (.slot 0) (.nil)))) (.int 11)) (.nil))) (.int 2147483629))) (.seq (.for (.slot 3) (.rng (.cons (.int 3) (.nil))) bMoreB) (.seq (.ret (.bin .FloorDiv (.slot 2) (.int 1009))) .nil))) [some (.ref a), some (.int p), none, none] h = _
  rw [seq_nx (e := [some (.ref a), some (.int p), some (.int ((p * 48271 + (ds.length : Int) + 11) % 2147483629)), none]) (h' := h) (by simp [exec, asgS, ev, evs, bns, bnd, binD, mulD, mulOk, addD, okI, biD, int1, gc, len])]
  rw [seq_nx (e := [some (.ref a), some (.int p), some (.int m3), some (.int (0 + (2 : Nat)))]) (h' := h) (by
    rw [for_is (p := ([.int (0 + ((0 : Nat) : Int)), .int (0 + ((1 : Nat) : Int)), .int (0 + ((2 : Nat) : Int))], [])) (h1 := h) rfl, for_cons chk_nil e1, for_cons chk_nil e2, for_cons chk_nil e3, for_nil chk_nil])]
  have l2 : (1009 : Nat).log2 < 9000 := by decide
  simp [exec, ev, bns, bnd, binD, okI, l2]
/-- _law_take -/
theorem take_ok {j : Nat} {h : List O} {a b : Nat} {ds : List Int} {p many : Int} (hab : a ≠ b) (hd : h[a]? = some (.lst (ds.map .int))) (hb : h[b]? = some (.lst [.int p])) (hp : 0 ≤ p) (hm : 0 < many)
    (more : ∀ (h : List O) (p : Int), rdLst h a = some (ds.map .int) → ∃ z : Int, call j [.ref a, .int p] h = some (.ok (.int z) h)) :
    ∃ r : Int, 0 ≤ r ∧ r < many ∧ runB call C ⟨3, 4, bTake j⟩ [.ref a, .ref b, .int many] h = some (.ok (.int r) (h.set b (.lst [.int (p + 1)]))) := by
  have hbl := (List.getElem?_eq_some_iff.mp hb).1
  have rb : rdLst h b = some [.int p] := by unfold rdLst; rw [hb]
  have ib : isLst h b = some [.int p] := by unfold isLst; rw [hb]
  have rd' : rdLst (h.set b (.lst [.int (p + 1)])) a = some (ds.map .int) := by
    unfold rdLst; rw [List.getElem?_set_ne (Ne.symm hab), hd]
  have len : len1 [.ref a] (h.set b (.lst [.int (p + 1)])) = okI (ds.length : Int) (h.set b (.lst [.int (p + 1)])) := by rw [len_of rd', List.length_map]
  have a0 : atD [D.int p] 0 = some (.int p) := rfl
  obtain ⟨zm, em⟩ := more (h.set b (.lst [.int (p + 1)])) p rd'
  have val : ∃ z : Int, ev call (.ifx (.tru (.cmp .Lt (.slot 3) (.bi .len (.cons (.slot 0) (.nil))))) (.ix (.slot 0) (.slot 3)) (.call j (.cons (.slot 0) (.cons (.slot 3) (.nil))) [])) [some (.ref a), some (.ref b), some (.int many), some (.int p)] (h.set b (.lst [.int (p + 1)])) = some (.ok (.int z) (h.set b (.lst [.int (p + 1)]))) := by
    by_cases hlt : p < (ds.length : Int)
    · obtain ⟨i, rfl⟩ := Int.eq_ofNat_of_zero_le hp
      have hi : i < ds.length := by omega
      have ea : atD (ds.map D.int) ((i : Nat) : Int) = some (.int ds[i]) := atD_nat (by rw [List.getElem?_map, List.getElem?_eq_getElem hi]; rfl)
      refine ⟨ds[i], ?_⟩
      simp [ev, evt, evs, bnd, cmpD, biD, len, okI, okB, gc, truth, hi, ixG, seqOf, rd', ea]
    · refine ⟨zm, ?_⟩
      simp [ev, evt, evs, bnd, cmpD, biD, len, okI, okB, gc, truth, hlt, em]
  obtain ⟨z, ez⟩ := val
  refine ⟨z % many, Int.emod_nonneg _ (by omega), Int.emod_lt_of_pos _ hm, ret1 ?_⟩
  show exec call C (.seq (.asg (.slot 3) (.ix (.slot 1) (.int 0))) (.seq (.asg (.tsub (.slot 1) (.int 0)) (.bin .Add (.slot 3) (.int 1))) (.seq (.ret (.bin .Mod (.bi .int (.cons (.ifx (.tru (.cmp .Lt (.slot 3) (.bi .len (.cons (.slot 0) (.nil))))) (.ix (.slot 0) (.slot 3)) (.call j (.cons (.slot 0) (.cons (.slot 3) (.nil))) [])) (.nil))) (.slot 2))) .nil))) [some (.ref a), some (.ref b), some (.int many), none] h = _
  rw [seq_nx (e := [some (.ref a), some (.ref b), some (.int many), some (.int p)]) (h' := h) (by simp [exec, asgS, ev, bns, bnd, ixG, seqOf, rb, a0])]
  rw [seq_nx (e := [some (.ref a), some (.ref b), some (.int many), some (.int p)]) (h' := h.set b (.lst [.int (p + 1)])) (by
    simp [exec, asgS, ev, bns, bnd, binD, addD, okI, onlyOk, setI, ib, ixD, setH])]
  have e3 : ev call (.bin .Mod (.bi .int (.cons (.ifx (.tru (.cmp .Lt (.slot 3) (.bi .len (.cons (.slot 0) (.nil))))) (.ix (.slot 0) (.slot 3)) (.call j (.cons (.slot 0) (.cons (.slot 3) (.nil))) [])) (.nil))) (.slot 2)) [some (.ref a), some (.ref b), some (.int many), some (.int p)] (h.set b (.lst [.int (p + 1)])) = some (.ok (.int (z % many)) (h.set b (.lst [.int (p + 1)]))) := by
    rw [ev]
    rw [show ev call (.bi .int (.cons (.ifx (.tru (.cmp .Lt (.slot 3) (.bi .len (.cons (.slot 0) (.nil))))) (.ix (.slot 0) (.slot 3)) (.call j (.cons (.slot 0) (.cons (.slot 3) (.nil))) [])) (.nil))) [some (.ref a), some (.ref b), some (.int many), some (.int p)] (h.set b (.lst [.int (p + 1)])) = some (.ok (.int z) (h.set b (.lst [.int (p + 1)]))) from by
      rw [ev, evs, ez]
      simp [bnd, evs, biD, int1, okI, gc]]
    simp [bnd, ev, binD, hm, okI]
  rw [exec, exec, e3]
  rfl
theorem rd_set {h : List O} {b c : Nat} {xs ys : List D} (hc : rdLst h c = some xs) (n : c ≠ b) : rdLst (h.set b (.lst ys)) c = some xs := by
  unfold rdLst at hc ⊢
  rw [List.getElem?_set_ne (Ne.symm n)]
  exact hc
/-- _law_one -/
theorem one_ok {j : Nat} {h : List O} {a b c : Nat} {xs : List D} {p : Int} (hc : rdLst h c = some xs) (hcb : c ≠ b) (hne : xs ≠ [])
    (take : ∀ many : Int, 0 < many → ∃ r : Int, 0 ≤ r ∧ r < many ∧ call j [.ref a, .ref b, .int many] h = some (.ok (.int r) (h.set b (.lst [.int (p + 1)])))) :
    ∃ d ∈ xs, runB call C ⟨3, 3, bOne j⟩ [.ref c, .ref a, .ref b] h = some (.ok d (h.set b (.lst [.int (p + 1)]))) := by
  have hpos : (0 : Int) < xs.length := by
    have := List.length_pos_iff.mpr hne
    omega
  obtain ⟨r, r0, r1, er⟩ := take xs.length hpos
  obtain ⟨i, rfl⟩ := Int.eq_ofNat_of_zero_le r0
  have hi : i < xs.length := by omega
  have ea : atD xs ((i : Nat) : Int) = some xs[i] := atD_nat (List.getElem?_eq_getElem hi)
  refine ⟨xs[i], List.getElem_mem hi, ret1 ?_⟩
  show exec call C (.seq (.ret (.ix (.slot 0) (.call j (.cons (.slot 1) (.cons (.slot 2) (.cons (.bi .len (.cons (.slot 0) (.nil))) (.nil)))) []))) .nil) [some (.ref c), some (.ref a), some (.ref b)] h = _
  have len := len_of hc
  simp [exec, ev, evs, bns, bnd, biD, len, okI, gc, er, ixG, seqOf, rd_set hc hcb, ea]
theorem D.beq_refl : ∀ x : D, x.beq x = true := by
  intro x
  exact D.rec (motive_1 := fun x => x.beq x = true) (motive_2 := fun xs => D.beqL xs xs = true) rfl (fun b => by simp [D.beq]) (fun i => by simp [D.beq]) (fun s => by simp [D.beq]) (fun xs ih => by simpa [D.beq] using ih) (fun n => by simp [D.beq]) rfl (fun x xs h1 h2 => by simp [D.beqL, h1, h2]) x
theorem D.beqL_refl (xs : List D) : D.beqL xs xs = true := by
  induction xs with
  | nil => rfl
  | cons x xs ih => simp [D.beqL, D.beq_refl, ih]
theorem for_inv {src : Src} {f : D → Env → List O → Option RS} (I : Nat → Env → List O → Prop) (hc : ∀ n env h, I n env h → chk src h = true) : ∀ (xs : List D) (n : Nat) (env : Env) (h : List O),
    (∀ x ∈ xs, ∀ n env h, I n env h → ∃ e h', f x env h = some (.fl (.nx e) h') ∧ I (n + 1) e h') → I n env h → ∃ e h', forGo src f xs env h = some (.fl (.nx e) h') ∧ I (n + xs.length) e h'
  | [], n, env, h, _, i => ⟨env, h, for_nil (hc _ _ _ i), i⟩
  | x :: xs, n, env, h, st, i => by
    obtain ⟨e, h', e1, i1⟩ := st x List.mem_cons_self n env h i
    obtain ⟨e2, h2, e3, i2⟩ := for_inv I hc xs (n + 1) e h' (fun y m => st y (List.mem_cons_of_mem _ m)) i1
    refine ⟨e2, h2, by rw [for_cons (hc _ _ _ i) e1, e3], ?_⟩
    rw [List.length_cons, show n + (xs.length + 1) = n + 1 + xs.length from by omega]
    exact i2
theorem for_invB {src : Src} {f : D → Env → List O → Option RS} (I : Nat → Env → List O → Prop) (hc : ∀ n env h, I n env h → chk src h = true) (N : Nat) : ∀ (xs : List D) (n : Nat) (env : Env) (h : List O), n + xs.length ≤ N →
    (∀ x ∈ xs, ∀ n env h, n < N → I n env h → ∃ e h', f x env h = some (.fl (.nx e) h') ∧ I (n + 1) e h') → I n env h → ∃ e h', forGo src f xs env h = some (.fl (.nx e) h') ∧ I (n + xs.length) e h'
  | [], n, env, h, _, _, i => ⟨env, h, for_nil (hc _ _ _ i), i⟩
  | x :: xs, n, env, h, hN, st, i => by
    rw [List.length_cons] at hN
    obtain ⟨e, h', e1, i1⟩ := st x List.mem_cons_self n env h (by omega) i
    obtain ⟨e2, h2, e3, i2⟩ := for_invB I hc N xs (n + 1) e h' (by omega) (fun y m => st y (List.mem_cons_of_mem _ m)) i1
    refine ⟨e2, h2, by rw [for_cons (hc _ _ _ i) e1, e3], ?_⟩
    rw [List.length_cons, show n + (xs.length + 1) = n + 1 + xs.length from by omega]
    exact i2
def bDrawsA : S := .seq (.ite (.tru (.cmp .Gt (.slot 3) (.int 0))) (.seq (.ex (.mt .append (.slot 1) (.cons (.bin .Mod (.bi .int (.cons (.slot 3) (.nil))) (.int 1009)) (.nil)))) (.seq (.asg (.slot 3) (.bin .FloorDiv (.slot 3) (.int 1009))) (.nil))) (.nil)) (.nil)
def bDrawsB : S := .seq (.asg (.slot 5) (.bin .Mod (.bi .int (.cons (.bin .Add (.bin .Add (.bin .Mult (.slot 5) (.int 16807)) (.bin .Mult (.int 69621) (.slot 4))) (.int 5)) (.nil))) (.int 2147483629))) (.seq (.ex (.mt .append (.slot 1) (.cons (.bin .FloorDiv (.slot 5) (.int 1009)) (.nil)))) (.nil))
def bDrawsL : S := .seq (.asg (.slot 3) (.bi .abs (.cons (.slot 2) (.nil)))) (.seq (.ite (.tru (.cmp .GtE (.slot 3) (.bin .Pow (.int 10) (.int 18)))) (.seq (.for (.slot 4) (.rng (.cons (.int 60) (.nil))) bDrawsA) (.nil)) (.seq (.asg (.slot 5) (.bin .Mod (.bi .int (.cons (.bin .Add (.bin .Mult (.slot 3) (.int 48271)) (.int 11)) (.nil))) (.int 2147483647))) (.seq (.for (.slot 4) (.rng (.cons (.int 12) (.nil))) bDrawsB) (.nil)))) (.nil))
theorem app1 {xs : List D} {o0 o2 : O} {d : D} (hl : xs.length < lim) : append1 (.ref 1) [d] [o0, .lst xs, o2] = some (R.ok D.non [o0, .lst (xs ++ [d]), o2]) := by
  have e : isLst [o0, .lst xs, o2] 1 = some xs := rfl
  unfold append1
  dsimp only
  rw [e]
  dsimp only
  rw [if_pos hl]
  rfl
theorem draws_ok (ns : List Int) (hl : ns.length ≤ 63) : ∃ ds : List Int, runB call C ⟨1, 6, bDraws⟩ [.ref 0] [.ro (ns.map .int)] = some (.ok (.ref 1) [.ro (ns.map .int), .lst (ds.map .int), .lst (ns.map .int)]) := by
  have l2 : (1009 : Nat).log2 < 9000 := by decide
  have big : (5000 : Nat) < lim := by decide
  -- the loops within
  have A : ∀ (ds : List Int) (c k m : Option D) (z : Int), ds.length ≤ 4000 → ∃ (ds' : List Int) (e : Env) (r' k' : Option D), e = [some (.ref 0), some (.ref 1), c, r', k', m] ∧ ds'.length ≤ ds.length + 60 ∧
      exec call C (.for (.slot 4) (.rng (.cons (.int 60) (.nil))) bDrawsA) [some (.ref 0), some (.ref 1), c, some (.int z), k, m] [.ro (ns.map .int), .lst (ds.map .int), .lst (ns.map .int)] = some (.fl (.nx e) [.ro (ns.map .int), .lst (ds'.map .int), .lst (ns.map .int)]) := by
    intro ds c k m z hd
    rw [for_is (p := ((List.range 60).map fun k : Nat => .int (0 + (k : Int)), [])) (h1 := [.ro (ns.map .int), .lst (ds.map .int), .lst (ns.map .int)]) rfl]
    obtain ⟨e, h', e1, z', k', ds', rfl, rfl, hl'⟩ := for_invB (src := []) (f := turn call C (.slot 4) bDrawsA) (fun n env h => ∃ (z : Int) (k : Option D) (ds' : List Int), env = [some (.ref 0), some (.ref 1), c, some (.int z), k, m] ∧ h = [.ro (ns.map .int), .lst (ds'.map .int), .lst (ns.map .int)] ∧ ds'.length ≤ ds.length + n) (fun _ _ _ _ => chk_nil) 60
      ((List.range 60).map fun k : Nat => .int (0 + (k : Int))) 0 [some (.ref 0), some (.ref 1), c, some (.int z), k, m] [.ro (ns.map .int), .lst (ds.map .int), .lst (ns.map .int)] (by simp) (by
        rintro x _ n env h hn ⟨z, k, ds', rfl, rfl, hl'⟩
        have hlim : (ds'.map D.int).length < lim := by rw [List.length_map]; omega
        by_cases hz : 0 < z
        · refine ⟨[some (.ref 0), some (.ref 1), c, some (.int (z / 1009)), some x, m], [.ro (ns.map .int), .lst ((ds' ++ [z % 1009]).map .int), .lst (ns.map .int)], ?_, z / 1009, some x, ds' ++ [z % 1009], rfl, rfl, by simp; omega⟩
          simp [turn, bDrawsA, asgT, exec, asgS, ev, evs, evt, truth, hz, bns, bnd, binD, okI, okB, biD, int1, gc, cmpD, mtD, mtPre, isLst, app1 hlim, l2]
        · refine ⟨[some (.ref 0), some (.ref 1), c, some (.int z), some x, m], [.ro (ns.map .int), .lst (ds'.map .int), .lst (ns.map .int)], ?_, z, some x, ds', rfl, rfl, by omega⟩
          simp [turn, bDrawsA, asgT, exec, asgS, ev, evs, evt, truth, hz, bns, bnd, binD, okI, okB, biD, int1, gc, cmpD]) ⟨z, k, ds, rfl, rfl, by omega⟩
    refine ⟨ds', _, _, _, rfl, ?_, e1⟩
    simpa using hl'
  have B : ∀ (ds : List Int) (c r k : Option D) (z : Int), ds.length ≤ 4000 → ∃ (ds' : List Int) (e : Env) (k' m' : Option D), e = [some (.ref 0), some (.ref 1), c, r, k', m'] ∧ ds'.length ≤ ds.length + 60 ∧
      exec call C (.for (.slot 4) (.rng (.cons (.int 12) (.nil))) bDrawsB) [some (.ref 0), some (.ref 1), c, r, k, some (.int z)] [.ro (ns.map .int), .lst (ds.map .int), .lst (ns.map .int)] = some (.fl (.nx e) [.ro (ns.map .int), .lst (ds'.map .int), .lst (ns.map .int)]) := by
    intro ds c r k z hd
    rw [for_is (p := ((List.range 12).map fun k : Nat => .int (0 + (k : Int)), [])) (h1 := [.ro (ns.map .int), .lst (ds.map .int), .lst (ns.map .int)]) rfl]
    obtain ⟨e, h', e1, z', k', ds', rfl, rfl, hl'⟩ := for_invB (src := []) (f := turn call C (.slot 4) bDrawsB) (fun n env h => ∃ (z : Int) (k : Option D) (ds' : List Int), env = [some (.ref 0), some (.ref 1), c, r, k, some (.int z)] ∧ h = [.ro (ns.map .int), .lst (ds'.map .int), .lst (ns.map .int)] ∧ ds'.length ≤ ds.length + n) (fun _ _ _ _ => chk_nil) 12
      ((List.range 12).map fun k : Nat => .int (0 + (k : Int))) 0 [some (.ref 0), some (.ref 1), c, r, k, some (.int z)] [.ro (ns.map .int), .lst (ds.map .int), .lst (ns.map .int)] (by simp) (by
        rintro x hx n env h hn ⟨z, k, ds', rfl, rfl, hl'⟩
        have hlim : (ds'.map D.int).length < lim := by rw [List.length_map]; omega
        obtain ⟨q, _, rfl⟩ := List.mem_map.mp hx
        refine ⟨[some (.ref 0), some (.ref 1), c, r, some (.int (0 + (q : Int))), some (.int ((z * 16807 + 69621 * (0 + (q : Int)) + 5) % 2147483629))], [.ro (ns.map .int), .lst ((ds' ++ [((z * 16807 + 69621 * (0 + (q : Int)) + 5) % 2147483629) / 1009]).map .int), .lst (ns.map .int)], ?_, _, _, ds' ++ [((z * 16807 + 69621 * (0 + (q : Int)) + 5) % 2147483629) / 1009], rfl, rfl, by simp; omega⟩
        simp [turn, bDrawsB, asgT, exec, asgS, ev, evs, evt, truth, bns, bnd, binD, mulD, mulOk, addD, okI, okB, biD, int1, gc, cmpD, mtD, mtPre, isLst, app1 hlim, l2]) ⟨z, k, ds, rfl, rfl, by omega⟩
    refine ⟨ds', _, _, _, rfl, ?_, e1⟩
    have : ds'.length ≤ ds.length + 12 := by simpa using hl'
    omega
  have cut : cutD (ns.map D.int) none (some 63) = ns.map D.int := by
    have e2 : sIxD (ns.map D.int).length (ns.map D.int).length (some 63) = ns.length := by
      unfold sIxD
      dsimp only
      rw [if_neg (by decide), List.length_map]
      show min 63 ns.length = ns.length
      omega
    unfold cutD
    rw [e2]
    show ((ns.map D.int).drop 0).take (ns.length - 0) = _
    rw [List.drop_zero, Nat.sub_zero]
    exact List.take_of_length_le (by rw [List.length_map]; exact Nat.le_refl _)
  have ck : ∀ ds : List Int, chk [(2, ns.map D.int)] [.ro (ns.map .int), .lst (ds.map .int), .lst (ns.map .int)] = true := fun ds => by
    show (D.beqL (ns.map D.int) (ns.map D.int) && true) = true
    rw [D.beqL_refl]; rfl
  have loop : ∃ (ds : List Int) (c r k m : Option D), exec call C (.for (.slot 2) (.itr (.sl (.slot 0) (.omit) (.cons (.int 63) .nil))) bDrawsL) [some (.ref 0), some (.ref 1), none, none, none, none] [.ro (ns.map .int), .lst []] = some (.fl (.nx [some (.ref 0), some (.ref 1), c, r, k, m]) [.ro (ns.map .int), .lst (ds.map .int), .lst (ns.map .int)]) := by
    rw [for_is (p := (ns.map D.int, [(2, ns.map D.int)])) (h1 := [.ro (ns.map .int), .lst [], .lst (ns.map .int)]) (by
      simp [evi, ev, evo, bnd, slG, rdLst, alloc, cut, itemsOf])]
    obtain ⟨e, h', e1, ds, c, r, k, m, rfl, rfl, _⟩ := for_invB (src := [(2, ns.map D.int)]) (f := turn call C (.slot 2) bDrawsL) (fun n env h => ∃ (ds : List Int) (c r k m : Option D), env = [some (.ref 0), some (.ref 1), c, r, k, m] ∧ h = [.ro (ns.map .int), .lst (ds.map .int), .lst (ns.map .int)] ∧ ds.length ≤ 60 * n) (fun n env h ⟨ds, _, _, _, _, _, e, _⟩ => by rw [e]; exact ck ds) 63
      (ns.map D.int) 0 [some (.ref 0), some (.ref 1), none, none, none, none] [.ro (ns.map .int), .lst [], .lst (ns.map .int)] (by rw [List.length_map]; omega) (by
        rintro x hx n env h hn ⟨ds, c, r, k, m, rfl, rfl, hl'⟩
        obtain ⟨z, _, rfl⟩ := List.mem_map.mp hx
        have hd : ds.length ≤ 4000 := by omega
        show ∃ e h', exec call C bDrawsL [some (.ref 0), some (.ref 1), some (.int z), r, k, m] _ = some (.fl (.nx e) h') ∧ _
        unfold bDrawsL
        rw [seq_nx (e := [some (.ref 0), some (.ref 1), some (.int z), some (.int (if z < 0 then -z else z)), k, m]) (h' := [.ro (ns.map .int), .lst (ds.map .int), .lst (ns.map .int)]) (by simp [exec, asgS, ev, evs, bns, bnd, biD, abs1, okI, gc])]
        by_cases hz : (10 : Int) ^ 18 ≤ (if z < 0 then -z else z)
        · obtain ⟨ds', e, r', k', rfl, hl2, e2⟩ := A ds (some (.int z)) k m (if z < 0 then -z else z) hd
          refine ⟨[some (.ref 0), some (.ref 1), some (.int z), r', k', m], _, ?_, ds', some (.int z), r', k', m, rfl, rfl, by omega⟩
          have t : evt call (.tru (.cmp .GtE (.slot 3) (.bin .Pow (.int 10) (.int 18)))) [some (.ref 0), some (.ref 1), some (.int z), some (.int (if z < 0 then -z else z)), k, m] [.ro (ns.map .int), .lst (ds.map .int), .lst (ns.map .int)] = some (.ok true [.ro (ns.map .int), .lst (ds.map .int), .lst (ns.map .int)]) := by
            have hz' : (1000000000000000000 : Int) ≤ (if z < 0 then -z else z) := hz
            simp [evt, ev, bnd, binD, powOk, okI, cmpD, okB, truth, gc, hz']
          rw [exec, exec, t, bns_ok, if_pos rfl, seq_nx e2]
          rfl
        · obtain ⟨ds', e, k', m', rfl, hl2, e2⟩ := B ds (some (.int z)) (some (.int (if z < 0 then -z else z))) k (((if z < 0 then -z else z) * 48271 + 11) % 2147483647) hd
          refine ⟨[some (.ref 0), some (.ref 1), some (.int z), some (.int (if z < 0 then -z else z)), k', m'], _, ?_, ds', some (.int z), some (.int (if z < 0 then -z else z)), k', m', rfl, rfl, by omega⟩
          have t : evt call (.tru (.cmp .GtE (.slot 3) (.bin .Pow (.int 10) (.int 18)))) [some (.ref 0), some (.ref 1), some (.int z), some (.int (if z < 0 then -z else z)), k, m] [.ro (ns.map .int), .lst (ds.map .int), .lst (ns.map .int)] = some (.ok false [.ro (ns.map .int), .lst (ds.map .int), .lst (ns.map .int)]) := by
            have hz' : ¬ (1000000000000000000 : Int) ≤ (if z < 0 then -z else z) := hz
            simp [evt, ev, bnd, binD, powOk, okI, cmpD, okB, truth, gc, hz']
          have a1 : exec call C (.asg (.slot 5) (.bin .Mod (.bi .int (.cons (.bin .Add (.bin .Mult (.slot 3) (.int 48271)) (.int 11)) (.nil))) (.int 2147483647))) [some (.ref 0), some (.ref 1), some (.int z), some (.int (if z < 0 then -z else z)), k, m] [.ro (ns.map .int), .lst (ds.map .int), .lst (ns.map .int)] = some (.fl (.nx [some (.ref 0), some (.ref 1), some (.int z), some (.int (if z < 0 then -z else z)), k, some (.int (((if z < 0 then -z else z) * 48271 + 11) % 2147483647))]) [.ro (ns.map .int), .lst (ds.map .int), .lst (ns.map .int)]) := by
            simp [exec, asgS, ev, evs, bns, bnd, binD, mulD, mulOk, addD, okI, biD, int1, gc]
          rw [exec, exec, t, bns_ok, if_neg (by decide), seq_nx a1, seq_nx e2]
          rfl) ⟨[], none, none, none, none, rfl, rfl, by simp⟩
    exact ⟨ds, c, r, k, m, e1⟩
  obtain ⟨ds, c, r, k, m, e1⟩ := loop
  refine ⟨ds, ret1 ?_⟩
  show exec call C (.seq (.asg (.slot 1) (.lst (.nil))) (.seq (.for (.slot 2) (.itr (.sl (.slot 0) (.omit) (.cons (.int 63) .nil))) bDrawsL) (.seq (.ret (.slot 1)) (.nil)))) [some (.ref 0), none, none, none, none, none] [.ro (ns.map .int)] = _
  rw [seq_nx (e := [some (.ref 0), some (.ref 1), none, none, none, none]) (h' := [.ro (ns.map .int), .lst []]) rfl, seq_nx e1]
  rfl
/-! ### calls by the table -/
section
variable {PF : List Fn} {n f : Nat} {fn : Fn} {vs : List D} {h h' g : List O} {d : D}
theorem callF_heap (e : PF[f]? = some fn) (l : vs.length = fn.np) (p : D.pureL vs = false) (r : runB (callF PF C n) C fn vs h = some (.ok d h')) : callF PF C (n + 1) f vs h = some (.ok d (gc h d h')) := by
  rw [callF, e]
  dsimp only
  rw [if_pos l, p, if_neg Bool.false_ne_true, r]
theorem callF_pure (e : PF[f]? = some fn) (l : vs.length = fn.np) (p : D.pureL vs = true) (r : runB (callF PF C n) C fn vs [] = some (.ok d g)) : callF PF C (n + 1) f vs h = some (.ok ((tidy d g).1.shift h.length) (h ++ shiftH h.length (tidy d g).2)) := by
  rw [callF, e]
  dsimp only
  rw [if_pos l, p, if_pos rfl, r]
theorem gc_len (e : h'.length = h.length) : gc h d h' = h' := by
  unfold gc; rw [if_pos e]
theorem beqH_refl : ∀ h : List O, beqH h h = true
  | [] => rfl
  | x :: xs => by
    have : x.beq x = true := by
      cases x with
      | lst a => exact D.beqL_refl a
      | ro a => exact D.beqL_refl a
      | dct a =>
        show D.beqK a a = true
        induction a with
        | nil => rfl
        | cons p r ih => simp [D.beqK, D.beq_refl, ih]
    simp [beqH, this, beqH_refl xs]
theorem gc_pre {t : List O} (p : d.pure = true) : gc h d (h ++ t) = h := by
  unfold gc
  split
  · rename_i e
    have : t = [] := by
      rw [List.length_append] at e
      exact List.length_eq_zero_iff.mp (by omega)
    rw [this, List.append_nil]
  · rw [List.take_left, p, beqH_refl]
    rfl
/-- a value and its objects, looked at -/
def chkR (r : Option (R D)) (d : D) (g : List O) : Bool := match r with
  | some (.ok x h) => x.beq d && beqH h g
  | _ => false
theorem chkR_ok {r : Option (R D)} (e : chkR r d g = true) : r = some (.ok d g) := by
  unfold chkR at e
  split at e
  · rename_i x h
    simp only [Bool.and_eq_true] at e
    rw [D.beq_eq _ _ e.1, beqH_eq _ _ e.2]
  · cases e
end
theorem one_call {PF : List Fn} {o t m n : Nat} (i1 : PF[o]? = some ⟨3, 3, bOne t⟩) (i2 : PF[t]? = some ⟨3, 4, bTake m⟩) (i3 : PF[m]? = some ⟨2, 4, bMore⟩) {h : List O} {a b c : Nat} {ds : List Int} {xs : List D} {p : Int} (hab : a ≠ b) (hcb : c ≠ b)
    (hd : h[a]? = some (.lst (ds.map .int))) (hb : h[b]? = some (.lst [.int p])) (hp : 0 ≤ p) (hc : rdLst h c = some xs) (hne : xs ≠ []) :
    ∃ d ∈ xs, callF PF C (n + 3) o [.ref c, .ref a, .ref b] h = some (.ok d (h.set b (.lst [.int (p + 1)]))) := by
  have more : ∀ (h : List O) (p : Int), rdLst h a = some (ds.map .int) → ∃ z : Int, callF PF C (n + 1) m [.ref a, .int p] h = some (.ok (.int z) h) := fun h p rd => by
    obtain ⟨z, e⟩ := more_ok (call := callF PF C n) (C := C) (p := p) rd
    exact ⟨z, by rw [callF_heap i3 rfl rfl e, gc_len rfl]⟩
  have take : ∀ many : Int, 0 < many → ∃ r : Int, 0 ≤ r ∧ r < many ∧ callF PF C (n + 2) t [.ref a, .ref b, .int many] h = some (.ok (.int r) (h.set b (.lst [.int (p + 1)]))) := fun many hm => by
    obtain ⟨r, r0, r1, e⟩ := take_ok (call := callF PF C (n + 1)) (C := C) hab hd hb hp hm more
    exact ⟨r, r0, r1, by rw [callF_heap i2 rfl rfl e, gc_len (by simp)]⟩
  obtain ⟨d, dm, e⟩ := one_ok (call := callF PF C (n + 2)) (C := C) (a := a) hc hcb hne take
  exact ⟨d, dm, by rw [callF_heap i1 rfl rfl e, gc_len (by simp)]⟩
theorem draws_call {PF : List Fn} {o n : Nat} (i : PF[o]? = some ⟨1, 6, bDraws⟩) (ns : List Int) (hl : ns.length ≤ 63) : ∃ ds : List Int, callF PF C (n + 1) o [.ref 0] [.ro (ns.map .int)] = some (.ok (.ref 1) [.ro (ns.map .int), .lst (ds.map .int), .lst (ns.map .int)]) := by
  obtain ⟨ds, e⟩ := draws_ok (call := callF PF C n) (C := C) ns hl
  exact ⟨ds, by rw [callF_heap i rfl rfl e]; rfl⟩
end
end Mini
end

section
namespace Lk00
open Mini
def p_law : Mini.S := .seq (.asg (.slot 1) (.call 5 (.cons (.slot 0) (.nil)) [])) (.seq (.asg (.slot 2) (.lst (.cons (.int 0) (.nil)))) (.seq (.ite (.nt (.tru (.call 4 (.nil) []))) (.seq (.ret (.bl false)) (.nil)) (.nil)) (.seq (.asg (.slot 3) (.lst (.cons (.str "word") (.cons (.str "") (.cons (.str "form") (.cons (.int 0) (.cons (.int 17) (.cons (.neg (.int 3)) (.cons (.non) (.cons (.tup (.cons (.str "a") (.cons (.int 5) (.nil)))) (.cons (.str "a line") (.cons (.bl true) (.nil))))))))))))) (.seq (.for (.slot 4) (.rng (.cons (.int 7) (.nil))) (.seq (.par 5 6 (.cons (.call 3 (.cons (.slot 3) (.cons (.slot 1) (.cons (.slot 2) (.nil)))) []) (.cons (.call 3 (.cons (.slot 3) (.cons (.slot 1) (.cons (.slot 2) (.nil)))) []) (.nil)))) (.seq (.ite (.tru (.cmp .NotEq (.call 2 (.cons (.slot 4) (.cons (.slot 5) (.cons (.slot 6) (.nil)))) []) (.lc [7] (.slot 7) (.rng (.cons (.int 7) (.nil))) (.omit) (.cmp .Eq (.slot 7) (.slot 4))))) (.seq (.ret (.bl false)) (.nil)) (.nil)) (.seq (.ite (.tru (.cmp .NotEq (.bi .repr (.cons (.call 1 (.cons (.slot 4) (.cons (.slot 5) (.cons (.slot 6) (.nil)))) []) (.nil))) (.bi .repr (.cons (.ifx (.tru (.cmp .Eq (.slot 4) (.int 5))) (.tup (.cons (.slot 5) (.cons (.slot 6) (.nil)))) (.tup (.cons (.slot 5) (.nil)))) (.nil))))) (.seq (.ret (.bl false)) (.nil)) (.nil)) (.nil))))) (.seq (.ret (.bl true)) (.nil))))))
def p__law_fields : Mini.S := .seq (.try (.seq (.ex (.call 6 (.cons (.slot 0) (.cons (.slot 1) (.cons (.slot 2) (.nil)))) [])) (.nil)) (.hcons 2 3 (.tup (.cons (.fld "reason") (.nil))) (.hcons 3 3 (.tup (.cons (.fld "reason") (.nil))) (.hcons 4 3 (.tup (.cons (.fld "reason") (.nil))) (.hcons 5 3 (.tup (.cons (.fld "reason") (.nil))) (.hcons 6 3 (.tup (.cons (.fld "at") (.nil))) (.hcons 7 3 (.tup (.cons (.fld "number") (.cons (.fld "reason") (.nil)))) (.hcons 8 3 (.tup (.cons (.fld "line") (.nil))) (.hnil))))))))) (.seq (.ret (.non)) (.nil))
def p__law_caught : Mini.S := .seq (.try (.seq (.ex (.call 6 (.cons (.slot 0) (.cons (.slot 1) (.cons (.slot 2) (.nil)))) [])) (.nil)) (.hcons 0 3 (.ifx (.isx 9) (.kin "_law_kinds" [2, 3, 4, 5, 6, 7, 8]) (.lst .nil)) (.hnil))) (.seq (.ret (.lst (.nil))) (.nil))
def p__law_one : Mini.S := .seq (.ret (.ix (.slot 0) (.call 7 (.cons (.slot 1) (.cons (.slot 2) (.cons (.bi .len (.cons (.slot 0) (.nil))) (.nil)))) []))) (.nil)
def p__law_limits_right : Mini.S := .seq (.asg (.slot 0) (.lst (.cons (.con (.int (7)) "MAX_STRANDS") (.cons (.con (.int (60)) "MAX_WORD") (.cons (.con (.int (4000)) "MAX_LONG") (.cons (.con (.int (6000)) "MAX_TEXT") (.cons (.con (.int (20000)) "MAX_MOVES") (.cons (.con (.int (4)) "MAX_TIED") (.cons (.con (.int (8)) "MAX_CHAINED") (.cons (.con (.int (200)) "MAX_TURNED") (.cons (.con (.int (1000)) "MAX_NEAR") (.nil)))))))))))) (.seq (.asg (.slot 0) (.bin .Add (.slot 0) (.lst (.cons (.con (.int (2000)) "MAX_LETTERS") (.cons (.con (.int (60)) "MAX_FORMS") (.cons (.con (.int (30)) "MAX_MODULUS") (.cons (.con (.int (12)) "MAX_SORTED") (.cons (.con (.int (5)) "MAX_DEEP") (.cons (.con (.int (120)) "MAX_DEGREE") (.cons (.con (.int (1000000)) "MAX_FACTOR") (.cons (.con (.int (60)) "MAX_COUNTED") (.cons (.con (.int (12)) "MAX_FACTORS") (.nil))))))))))))) (.seq (.asg (.slot 0) (.bin .Add (.slot 0) (.lst (.cons (.con (.int (12)) "MAX_SHORT") (.cons (.con (.int (8)) "MAX_KEPT") (.cons (.con (.int (12)) "MAX_NAME") (.cons (.con (.int (30)) "MAX_DEEDS") (.cons (.con (.int (10)) "MAX_HUES") (.cons (.con (.int (2000)) "MAX_ROWS") (.cons (.con (.int (12)) "MAX_TIMES") (.cons (.con (.int (1000)) "MAX_RATE") (.cons (.con (.int (1000)) "MAX_AGAIN") (.nil))))))))))))) (.seq (.asg (.slot 0) (.bin .Add (.slot 0) (.lst (.cons (.con (.int (1000000)) "MAX_THREAD") (.cons (.con (.int (1000)) "MAX_COIN") (.cons (.con (.int (20)) "MAX_REPEATS") (.cons (.con (.int (200)) "MAX_WORK") (.cons (.con (.int (200000)) "MAX_PAPER") (.cons (.con (.int (30)) "MAX_PARTED") (.cons (.con (.int (60)) "MAX_ENTRY") (.cons (.con (.int (600)) "MAX_SUM") (.cons (.con (.int (6)) "MAX_MEMBERS") (.nil))))))))))))) (.seq (.asg (.slot 0) (.bin .Add (.slot 0) (.lst (.cons (.con (.int (20000)) "MAX_TRIED") (.cons (.con (.int (5)) "MAX_LADDER") (.cons (.con (.int (1000000)) "MAX_COORDINATE") (.cons (.con (.int (2000)) "MAX_ROWS_OF") (.cons (.con (.int (60)) "MAX_VALUE") (.cons (.con (.int (12)) "MAX_KRAMMER") (.cons (.con (.int (5)) "MAX_KRAMMER_STRANDS") (.cons (.con (.int (24)) "MAX_HECKE") (.cons (.con (.int (5)) "MAX_HECKE_STRANDS") (.nil))))))))))))) (.seq (.asg (.slot 0) (.bin .Add (.slot 0) (.lst (.cons (.con (.int (7)) "MAX_KHOVANOV") (.cons (.con (.int (4)) "MAX_KHOVANOV_STRANDS") (.cons (.con (.int (8)) "MAX_ROW") (.cons (.con (.int (30)) "MAX_TWIST") (.cons (.con (.int (11)) "MAX_LISTED") (.cons (.con (.int (5)) "MAX_JOINED") (.cons (.con (.int (8)) "MAX_WIDE") (.cons (.con (.int (3000)) "MAX_WAYS") (.cons (.con (.int (40)) "MAX_PAIRS") (.nil))))))))))))) (.seq (.asg (.slot 0) (.bin .Add (.slot 0) (.lst (.cons (.con (.int (1000)) "MAX_GRAPH") (.nil))))) (.seq (.asg (.slot 1) (.lst (.cons (.int 7) (.cons (.int 60) (.cons (.int 4000) (.cons (.int 6000) (.cons (.int 20000) (.cons (.int 4) (.cons (.int 8) (.cons (.int 200) (.cons (.int 1000) (.cons (.int 2000) (.cons (.int 60) (.cons (.int 30) (.cons (.int 12) (.cons (.int 5) (.cons (.int 120) (.cons (.int 1000000) (.cons (.int 60) (.cons (.int 12) (.cons (.int 12) (.cons (.int 8) (.cons (.int 12) (.cons (.int 30) (.nil))))))))))))))))))))))))) (.seq (.asg (.slot 1) (.bin .Add (.slot 1) (.lst (.cons (.int 10) (.cons (.int 2000) (.cons (.int 12) (.cons (.int 1000) (.cons (.int 1000) (.cons (.int 1000000) (.cons (.int 1000) (.cons (.int 20) (.cons (.int 200) (.cons (.int 200000) (.cons (.int 30) (.cons (.int 60) (.cons (.int 600) (.cons (.int 6) (.cons (.int 20000) (.cons (.int 5) (.cons (.int 1000000) (.cons (.int 2000) (.cons (.int 60) (.cons (.int 12) (.cons (.int 5) (.cons (.int 24) (.nil)))))))))))))))))))))))))) (.seq (.asg (.slot 1) (.bin .Add (.slot 1) (.lst (.cons (.int 5) (.cons (.int 7) (.cons (.int 4) (.cons (.int 8) (.cons (.int 30) (.cons (.int 11) (.cons (.int 5) (.cons (.int 8) (.cons (.int 3000) (.cons (.int 40) (.cons (.int 1000) (.nil))))))))))))))) (.seq (.ret (.cmp .Eq (.bi .repr (.cons (.slot 0) (.nil))) (.bi .repr (.cons (.slot 1) (.nil))))) (.nil)))))))))))
def p__law_draws : Mini.S := .seq (.asg (.slot 1) (.lst (.nil))) (.seq (.for (.slot 2) (.itr (.sl (.slot 0) (.omit) (.cons (.int 63) .nil))) (.seq (.asg (.slot 3) (.bi .abs (.cons (.slot 2) (.nil)))) (.seq (.ite (.tru (.cmp .GtE (.slot 3) (.bin .Pow (.int 10) (.int 18)))) (.seq (.for (.slot 4) (.rng (.cons (.int 60) (.nil))) (.seq (.ite (.tru (.cmp .Gt (.slot 3) (.int 0))) (.seq (.ex (.mt .append (.slot 1) (.cons (.bin .Mod (.bi .int (.cons (.slot 3) (.nil))) (.int 1009)) (.nil)))) (.seq (.asg (.slot 3) (.bin .FloorDiv (.slot 3) (.int 1009))) (.nil))) (.nil)) (.nil))) (.nil)) (.seq (.asg (.slot 5) (.bin .Mod (.bi .int (.cons (.bin .Add (.bin .Mult (.slot 3) (.int 48271)) (.int 11)) (.nil))) (.int 2147483647))) (.seq (.for (.slot 4) (.rng (.cons (.int 12) (.nil))) (.seq (.asg (.slot 5) (.bin .Mod (.bi .int (.cons (.bin .Add (.bin .Add (.bin .Mult (.slot 5) (.int 16807)) (.bin .Mult (.int 69621) (.slot 4))) (.int 5)) (.nil))) (.int 2147483629))) (.seq (.ex (.mt .append (.slot 1) (.cons (.bin .FloorDiv (.slot 5) (.int 1009)) (.nil)))) (.nil)))) (.nil)))) (.nil)))) (.seq (.ret (.slot 1)) (.nil)))
def p__law_raise : Mini.S := .seq (.ite (.tru (.cmp .Eq (.slot 0) (.int 0))) (.seq (.raise 2 (.cons (.slot 1) (.nil))) (.nil)) (.nil)) (.seq (.ite (.tru (.cmp .Eq (.slot 0) (.int 1))) (.seq (.raise 3 (.cons (.slot 1) (.nil))) (.nil)) (.nil)) (.seq (.ite (.tru (.cmp .Eq (.slot 0) (.int 2))) (.seq (.raise 4 (.cons (.slot 1) (.nil))) (.nil)) (.nil)) (.seq (.ite (.tru (.cmp .Eq (.slot 0) (.int 3))) (.seq (.raise 5 (.cons (.slot 1) (.nil))) (.nil)) (.nil)) (.seq (.ite (.tru (.cmp .Eq (.slot 0) (.int 4))) (.seq (.raise 6 (.cons (.slot 1) (.nil))) (.nil)) (.nil)) (.seq (.ite (.tru (.cmp .Eq (.slot 0) (.int 5))) (.seq (.raise 7 (.cons (.slot 1) (.cons (.slot 2) (.nil)))) (.nil)) (.nil)) (.seq (.raise 8 (.cons (.slot 1) (.nil))) (.nil)))))))
def p__law_take : Mini.S := .seq (.asg (.slot 3) (.ix (.slot 1) (.int 0))) (.seq (.asg (.tsub (.slot 1) (.int 0)) (.bin .Add (.slot 3) (.int 1))) (.seq (.ret (.bin .Mod (.bi .int (.cons (.ifx (.tru (.cmp .Lt (.slot 3) (.bi .len (.cons (.slot 0) (.nil))))) (.ix (.slot 0) (.slot 3)) (.call 8 (.cons (.slot 0) (.cons (.slot 3) (.nil))) [])) (.nil))) (.slot 2))) (.nil)))
def p__law_more : Mini.S := .seq (.asg (.slot 2) (.bin .Mod (.bi .int (.cons (.bin .Add (.bin .Add (.bin .Mult (.slot 1) (.int 48271)) (.bi .len (.cons (.slot 0) (.nil)))) (.int 11)) (.nil))) (.int 2147483629))) (.seq (.for (.slot 3) (.rng (.cons (.int 3) (.nil))) (.seq (.ite (.tru (.slot 0)) (.seq (.asg (.slot 2) (.bin .Add (.slot 2) (.ix (.slot 0) (.bin .Mod (.bi .int (.cons (.bin .Add (.bin .Mult (.slot 1) (.bin .Add (.slot 3) (.int 5))) (.slot 3)) (.nil))) (.bi .len (.cons (.slot 0) (.nil))))))) (.nil)) (.nil)) (.seq (.asg (.slot 2) (.bin .Mod (.bi .int (.cons (.bin .Add (.bin .Add (.bin .Mult (.slot 2) (.int 16807)) (.bin .Mult (.int 69621) (.slot 3))) (.int 5)) (.nil))) (.int 2147483629))) (.nil)))) (.seq (.ret (.bin .FloorDiv (.slot 2) (.int 1009))) (.nil)))
def pPF : List Mini.Fn := [⟨1, 8, p_law⟩,
  ⟨3, 4, p__law_fields⟩,
  ⟨3, 4, p__law_caught⟩,
  ⟨3, 3, p__law_one⟩,
  ⟨0, 2, p__law_limits_right⟩,
  ⟨1, 6, p__law_draws⟩,
  ⟨3, 3, p__law_raise⟩,
  ⟨3, 4, p__law_take⟩,
  ⟨2, 4, p__law_more⟩]
def pFR : List Mini.FRow := [⟨"law", ["script", "draws", "at", "values", "k", "one", "other", "j"], none⟩,
  ⟨"_law_fields", ["k", "one", "other", "e"], none⟩,
  ⟨"_law_caught", ["k", "one", "other", "e"], none⟩,
  ⟨"_law_one", ["rows", "draws", "at"], none⟩,
  ⟨"_law_limits_right", ["told", "due"], none⟩,
  ⟨"_law_draws", ["script", "draws", "cell", "rest", "k", "mixed"], none⟩,
  ⟨"_law_raise", ["k", "one", "other"], none⟩,
  ⟨"_law_take", ["draws", "at", "many", "place"], none⟩,
  ⟨"_law_more", ["draws", "place", "mixed", "k"], none⟩]
def pC : List Mini.Cl := [⟨[0, 9], []⟩, ⟨[1, 0, 9], ["reason"]⟩, ⟨[2, 1, 0, 9], ["reason"]⟩, ⟨[3, 1, 0, 9], ["reason"]⟩, ⟨[4, 1, 0, 9], ["reason"]⟩, ⟨[5, 1, 0, 9], ["reason"]⟩, ⟨[6, 0, 9], ["at"]⟩, ⟨[7, 0, 9], ["number", "reason"]⟩, ⟨[8, 0, 9], ["line"]⟩]
def pCR : List PySem.Str := ["PlaitError", "ReasonError", "ArgumentError", "PaperError", "TooMany", "DeedError", "TextError", "LogError", "CommandError"]
def pTb : List (PySem.Str × Nat × Nat) := [⟨"PlaitError", 0, 0⟩, ⟨"ReasonError", 1, 0⟩, ⟨"ArgumentError", 2, 0⟩, ⟨"PaperError", 3, 0⟩, ⟨"TooMany", 4, 0⟩, ⟨"DeedError", 5, 0⟩, ⟨"TextError", 6, 0⟩, ⟨"LogError", 7, 0⟩, ⟨"CommandError", 8, 0⟩, ⟨"ValueError", 9, 1⟩]
def pCon : List (PySem.Str × Mini.D) := [⟨"MAX_GRAPH", .int (1000)⟩, ⟨"MAX_KHOVANOV", .int (7)⟩, ⟨"MAX_KHOVANOV_STRANDS", .int (4)⟩, ⟨"MAX_ROW", .int (8)⟩, ⟨"MAX_TWIST", .int (30)⟩, ⟨"MAX_LISTED", .int (11)⟩, ⟨"MAX_JOINED", .int (5)⟩, ⟨"MAX_WIDE", .int (8)⟩, ⟨"MAX_WAYS", .int (3000)⟩, ⟨"MAX_PAIRS", .int (40)⟩, ⟨"MAX_TRIED", .int (20000)⟩, ⟨"MAX_LADDER", .int (5)⟩, ⟨"MAX_COORDINATE", .int (1000000)⟩, ⟨"MAX_ROWS_OF", .int (2000)⟩, ⟨"MAX_VALUE", .int (60)⟩, ⟨"MAX_KRAMMER", .int (12)⟩, ⟨"MAX_KRAMMER_STRANDS", .int (5)⟩, ⟨"MAX_HECKE", .int (24)⟩, ⟨"MAX_HECKE_STRANDS", .int (5)⟩, ⟨"MAX_THREAD", .int (1000000)⟩, ⟨"MAX_COIN", .int (1000)⟩, ⟨"MAX_REPEATS", .int (20)⟩, ⟨"MAX_WORK", .int (200)⟩, ⟨"MAX_PAPER", .int (200000)⟩, ⟨"MAX_PARTED", .int (30)⟩, ⟨"MAX_ENTRY", .int (60)⟩, ⟨"MAX_SUM", .int (600)⟩, ⟨"MAX_MEMBERS", .int (6)⟩, ⟨"MAX_SHORT", .int (12)⟩, ⟨"MAX_KEPT", .int (8)⟩, ⟨"MAX_NAME", .int (12)⟩, ⟨"MAX_DEEDS", .int (30)⟩, ⟨"MAX_HUES", .int (10)⟩, ⟨"MAX_ROWS", .int (2000)⟩, ⟨"MAX_TIMES", .int (12)⟩, ⟨"MAX_RATE", .int (1000)⟩, ⟨"MAX_AGAIN", .int (1000)⟩, ⟨"MAX_LETTERS", .int (2000)⟩, ⟨"MAX_FORMS", .int (60)⟩, ⟨"MAX_MODULUS", .int (30)⟩, ⟨"MAX_SORTED", .int (12)⟩, ⟨"MAX_DEEP", .int (5)⟩, ⟨"MAX_DEGREE", .int (120)⟩, ⟨"MAX_FACTOR", .int (1000000)⟩, ⟨"MAX_COUNTED", .int (60)⟩, ⟨"MAX_FACTORS", .int (12)⟩, ⟨"MAX_STRANDS", .int (7)⟩, ⟨"MAX_WORD", .int (60)⟩, ⟨"MAX_LONG", .int (4000)⟩, ⟨"MAX_TEXT", .int (6000)⟩, ⟨"MAX_MOVES", .int (20000)⟩, ⟨"MAX_TIED", .int (4)⟩, ⟨"MAX_CHAINED", .int (8)⟩, ⟨"MAX_TURNED", .int (200)⟩, ⟨"MAX_NEAR", .int (1000)⟩]
def pKin : List (PySem.Str × List Nat) := [⟨"_law_kinds", [2, 3, 4, 5, 6, 7, 8]⟩]
end Lk00
end

section
namespace Lk00
open PySem Mini
def vals : List D := [.str "word", .str "", .str "form", .int 0, .int 17, .int (-3), .non, .tup [.str "a", .int 5], .str "a line", .bl true]
def kb (k : Nat) : List D := (List.range 7).map fun j => .bl (j == k)
def rp (k : Nat) (d1 d2 : D) : D := .tup (if k = 5 then [d1, d2] else [d1])
def fns (i : Nat) : Fn := (pPF[i]?).getD ⟨0, 0, .nil⟩
theorem fin1 : ((List.range 7).all fun k => vals.all fun d1 => vals.all fun d2 => chkR (runB (callF pPF pC 18) pC (fns 2) [.int k, d1, d2] []) (.ref 0) [.lst (kb k)]) = true := by decide +kernel
theorem fin2 : ((List.range 7).all fun k => vals.all fun d1 => vals.all fun d2 => chkR (runB (callF pPF pC 18) pC (fns 1) [.int k, d1, d2] []) (rp k d1 d2) []) = true := by decide +kernel
theorem fin3 : (match runB (callF pPF pC 18) pC (fns 4) [] [] with
  | some (.ok d g) => d.beq (.bl true)
  | _ => false) = true := by decide +kernel
def okS (r : Option (R D)) : Bool := match r with
  | some (.ok (.str s) _) => eqD [] (.str s) (.str s) == some true
  | _ => false
theorem fin4 : ((List.range 7).all fun k => vals.all fun d1 => vals.all fun d2 => okS (repr1 [rp k d1 d2] [])) = true := by decide +kernel
theorem fin5 : ((List.range 7).all fun k => SeqAt.shaped (.list (pyPL (kb k))) && PyData.eqv (.list (pyPL (kb k))) (.list (pyPL (kb k)))) = true := by decide +kernel
theorem at_all {p : Nat → D → D → Bool} (h : ((List.range 7).all fun k => vals.all fun d1 => vals.all fun d2 => p k d1 d2) = true) {k : Nat} (hk : k < 7) {d1 d2 : D} (h1 : d1 ∈ vals) (h2 : d2 ∈ vals) : p k d1 d2 = true :=
  List.all_eq_true.mp (List.all_eq_true.mp (List.all_eq_true.mp h k (List.mem_range.mpr hk)) d1 h1) d2 h2
theorem pure_vals {d : D} (h : d ∈ vals) : d.pure = true := by
  have : (vals.all D.pure) = true := by decide
  exact List.all_eq_true.mp this d h
def heap (ns ds : List Int) (p : Int) : List O := [.ro (ns.map .int), .lst (ds.map .int), .lst (ns.map .int), .lst [.int p], .lst vals]
def bLoop : S := .seq (.par 5 6 (.cons (.call 3 (.cons (.slot 3) (.cons (.slot 1) (.cons (.slot 2) (.nil)))) []) (.cons (.call 3 (.cons (.slot 3) (.cons (.slot 1) (.cons (.slot 2) (.nil)))) []) (.nil)))) (.seq (.ite (.tru (.cmp .NotEq (.call 2 (.cons (.slot 4) (.cons (.slot 5) (.cons (.slot 6) (.nil)))) []) (.lc [7] (.slot 7) (.rng (.cons (.int 7) (.nil))) (.omit) (.cmp .Eq (.slot 7) (.slot 4))))) (.seq (.ret (.bl false)) (.nil)) (.nil)) (.seq (.ite (.tru (.cmp .NotEq (.bi .repr (.cons (.call 1 (.cons (.slot 4) (.cons (.slot 5) (.cons (.slot 6) (.nil)))) []) (.nil))) (.bi .repr (.cons (.ifx (.tru (.cmp .Eq (.slot 4) (.int 5))) (.tup (.cons (.slot 5) (.cons (.slot 6) (.nil)))) (.tup (.cons (.slot 5) (.nil)))) (.nil))))) (.seq (.ret (.bl false)) (.nil)) (.nil)) (.nil)))
abbrev call : Caller := callF pPF pC 19
end Lk00
end

section
namespace Lk00
open PySem Mini
section
variable {ns ds : List Int} {p : Int} {k : Nat} {d1 d2 : D}
theorem caught {h : List O} (hk : k < 7) (h1 : d1 ∈ vals) (h2 : d2 ∈ vals) : call 2 [.int k, d1, d2] h = some (.ok (.ref h.length) (h ++ [.lst (kb k)])) := by
  have e := chkR_ok (at_all fin1 hk h1 h2)
  have hp : D.pureL [.int k, d1, d2] = true := by simp [D.pureL, D.pure, pure_vals h1, pure_vals h2]
  have sh : ∀ j, D.shiftL j (kb k) = kb k := fun j => by
    unfold kb
    generalize List.range 7 = l
    induction l with
    | nil => rfl
    | cons a l ih => simp [D.shiftL, D.shift, ih]
  have pk : D.pureL (kb k) = true := by
    unfold kb
    generalize List.range 7 = l
    induction l with
    | nil => rfl
    | cons a l ih => simp [D.pureL, D.pure, ih]
  rw [show call = callF pPF pC (18 + 1) from rfl, callF_pure (fn := fns 2) rfl rfl hp e]
  simp [tidy, D.pure, O.pure, pk, D.shift, shiftH, O.shift, sh]
theorem fields {h : List O} (hk : k < 7) (h1 : d1 ∈ vals) (h2 : d2 ∈ vals) : call 1 [.int k, d1, d2] h = some (.ok (rp k d1 d2) h) := by
  have e := chkR_ok (at_all fin2 hk h1 h2)
  have hp : D.pureL [.int k, d1, d2] = true := by simp [D.pureL, D.pure, pure_vals h1, pure_vals h2]
  have pr : (rp k d1 d2).pure = true := by
    unfold rp
    split <;> simp [D.pureL, D.pure, pure_vals h1, pure_vals h2]
  rw [show call = callF pPF pC (18 + 1) from rfl, callF_pure (fn := fns 1) rfl rfl hp e]
  simp [tidy, pr, RV.pure_shift, shiftH]
theorem pyD_pure {h : List O} {d : D} (hp : d.pure = true) : pyD h d = some (pyP d) := by
  unfold pyD pyF
  rw [if_pos hp]
theorem repr_any {h : List O} {d : D} (hp : d.pure = true) (e : okS (repr1 [d] []) = true) : ∃ s, repr1 [d] h = some (.ok (.str s) h) ∧ cmpD .NotEq (.str s) (.str s) h = some false := by
  have e1 : ∀ h, repr1 [d] h = if (pyP d).showable && decide ((pyP d).shown.length ≤ lim) && decide ((pyP d).depth ≤ 16) && !(pyP d).hasDict then some (.ok (.str (pyP d).shown) h) else none := fun h => by
    unfold repr1
    dsimp only
    rw [pyD_pure hp]
  rw [e1] at e
  split at e
  · rename_i c
    refine ⟨(pyP d).shown, by rw [e1, if_pos c], ?_⟩
    have e2 : (eqD [] (.str (pyP d).shown) (.str (pyP d).shown) == some true) = true := e
    have e3 := eq_of_beq e2
    have e4 : eqD h (.str (pyP d).shown) (.str (pyP d).shown) = some true := by
      unfold eqD at e3 ⊢
      rw [pyD_pure rfl] at e3 ⊢
      exact e3
    show (eqD h _ _).map (!·) = _
    rw [e4]
    rfl
  · cases e
theorem mapO_pure {h : List O} {n : Nat} : ∀ {xs : List D}, D.pureL xs = true → mapO (pyF n h) xs = some (pyPL xs)
  | [], _ => rfl
  | x :: xs, hp => by
    have h' : x.pure = true ∧ D.pureL xs = true := by simpa [D.pureL] using hp
    have e : pyF n h x = some (pyP x) := by
      cases n <;> (unfold pyF; rw [if_pos h'.1])
    rw [mapO, e]
    dsimp only
    rw [mapO_pure h'.2]
    rfl
theorem kb_pure : D.pureL (kb k) = true := by
  unfold kb
  generalize List.range 7 = l
  induction l with
  | nil => rfl
  | cons a l ih => simp [D.pureL, D.pure, ih]
theorem eq_kb {h : List O} {m m' : Nat} (hk : k < 7) (e1 : rdLst h m = some (kb k)) (e2 : rdLst h m' = some (kb k)) : cmpD .NotEq (.ref m) (.ref m') h = some false := by
  have q : ∀ m, rdLst h m = some (kb k) → pyD h (.ref m) = some (.list (pyPL (kb k))) := fun m e => by
    unfold pyD pyF
    rw [if_neg (by simp [D.pure])]
    dsimp only
    rw [e]
    dsimp only
    rw [mapO_pure kb_pure]
    rfl
  have f := List.all_eq_true.mp fin5 k (List.mem_range.mpr hk)
  simp only [Bool.and_eq_true] at f
  show (eqD h _ _).map (!·) = _
  unfold eqD
  rw [q m e1, q m' e2]
  dsimp only
  rw [f.1, f.2]
  rfl
theorem eqi (h : List O) (i j : Int) : cmpD .Eq (.int i) (.int j) h = some (i == j) := by
  have e : cmpD .Eq (.int i) (.int j) h = eqD h (.int i) (.int j) := rfl
  rw [e]
  unfold eqD
  rw [pyD_pure (d := .int i) rfl, pyD_pure (d := .int j) rfl]
  dsimp only
  have s1 : ∀ i : Int, SeqAt.shaped (pyP (.int i)) = true := fun i => rfl
  rw [s1, s1]
  rfl
theorem l9 (l : List D) (h : l.length ≤ 9) : l.length < lim := Nat.lt_of_le_of_lt h (by decide)
theorem lc_kb {h : List O} (a b c e f g z : Option D) : ev call (.lc [7] (.slot 7) (.rng (.cons (.int 7) (.nil))) (.omit) (.cmp .Eq (.slot 7) (.slot 4))) [a, b, c, e, some (.int k), f, g, z] h = some (.ok (.ref h.length) (h ++ [.lst (kb k)])) := by
  have one : ∀ q : Nat, lcT call [7] (.slot 7) .omit (.cmp .Eq (.slot 7) (.slot 4)) [a, b, c, e, some (.int k), f, g, z] (.int (0 + (q : Int))) h = some (.ok (some (.bl (q == k))) h) := by
    intro q
    have : ((q : Int) == (k : Int)) = (q == k) := by
      rw [Bool.eq_iff_iff]
      simp only [beq_iff_eq]
      constructor <;> intro h <;> omega
    simp [lcT, wipeD, asgT, evt, ev, bnd, eqi, okB, gc, this]
  refine lc_is (p := ([.int (0 + ((0 : Nat) : Int)), .int (0 + ((1 : Nat) : Int)), .int (0 + ((2 : Nat) : Int)), .int (0 + ((3 : Nat) : Int)), .int (0 + ((4 : Nat) : Int)), .int (0 + ((5 : Nat) : Int)), .int (0 + ((6 : Nat) : Int))], [])) (h1 := h) (h2 := h) rfl ?_
  rw [lc_some rfl (one _) (l9 _ (by simp)), lc_some rfl (one _) (l9 _ (by simp)), lc_some rfl (one _) (l9 _ (by simp)), lc_some rfl (one _) (l9 _ (by simp)), lc_some rfl (one _) (l9 _ (by simp)), lc_some rfl (one _) (l9 _ (by simp)), lc_some rfl (one _) (l9 _ (by simp)), lc_nil rfl]
  rfl
theorem pair (k : Nat) (hp : 0 ≤ p) (a b c j : Option D) : ∃ d1 ∈ vals, ∃ d2 ∈ vals, Mini.exec call pC (.par 5 6 (.cons (.call 3 (.cons (.slot 3) (.cons (.slot 1) (.cons (.slot 2) (.nil)))) []) (.cons (.call 3 (.cons (.slot 3) (.cons (.slot 1) (.cons (.slot 2) (.nil)))) []) (.nil))))
    [a, some (.ref 1), some (.ref 3), some (.ref 4), some (.int k), b, c, j] (heap ns ds p) = some (.fl (.nx [a, some (.ref 1), some (.ref 3), some (.ref 4), some (.int k), some d1, some d2, j]) (heap ns ds (p + 1 + 1))) := by
  obtain ⟨d1, m1, e1⟩ := one_call (PF := pPF) (C := pC) (o := 3) (t := 7) (m := 8) (n := 16) rfl rfl rfl (h := heap ns ds p) (a := 1) (b := 3) (c := 4) (ds := ds) (xs := vals) (p := p) (by decide) (by decide) rfl rfl hp rfl (by decide)
  obtain ⟨d2, m2, e2⟩ := one_call (PF := pPF) (C := pC) (o := 3) (t := 7) (m := 8) (n := 16) rfl rfl rfl (h := heap ns ds (p + 1)) (a := 1) (b := 3) (c := 4) (ds := ds) (xs := vals) (p := p + 1) (by decide) (by decide) rfl rfl (by omega) rfl (by decide)
  have s1 : (heap ns ds p).set 3 (.lst [.int (p + 1)]) = heap ns ds (p + 1) := rfl
  have s2 : (heap ns ds (p + 1)).set 3 (.lst [.int (p + 1 + 1)]) = heap ns ds (p + 1 + 1) := rfl
  rw [s1] at e1
  rw [s2] at e2
  refine ⟨d1, m1, d2, m2, ?_⟩
  have c1 : call 3 [.ref 4, .ref 1, .ref 3] (heap ns ds p) = some (.ok d1 (heap ns ds (p + 1))) := e1
  have c2 : call 3 [.ref 4, .ref 1, .ref 3] (heap ns ds (p + 1)) = some (.ok d2 (heap ns ds (p + 1 + 1))) := e2
  simp [Mini.exec, ev, evs, bns, bnd, c1, c2]
theorem kk {k : Nat} (hk : k < 7) : (rp k d1 d2) = if ((k : Int) == 5) = true then .tup [d1, d2] else .tup [d1] := by
  unfold rp
  by_cases h : k = 5
  · subst h; rfl
  · have : ¬ (((k : Int) == 5) = true) := by
      rw [beq_iff_eq]; omega
    rw [if_neg h, if_neg this]
theorem turnK (hk : k < 7) (hp : 0 ≤ p) (a b c kq j : Option D) : ∃ b' c' : Option D, turn call pC (.slot 4) bLoop (.int (0 + (k : Int))) [a, some (.ref 1), some (.ref 3), some (.ref 4), kq, b, c, j] (heap ns ds p) =
    some (.fl (.nx [a, some (.ref 1), some (.ref 3), some (.ref 4), some (.int k), b', c', j]) (heap ns ds (p + 1 + 1))) := by
  obtain ⟨d1, m1, d2, m2, e1⟩ := pair (ns := ns) (ds := ds) k hp a b c j
  refine ⟨some d1, some d2, ?_⟩
  rw [Int.zero_add]
  show Mini.exec call pC bLoop [a, some (.ref 1), some (.ref 3), some (.ref 4), some (.int k), b, c, j] (heap ns ds p) = _
  unfold bLoop
  rw [seq_nx e1]
  have pr : (rp k d1 d2).pure = true := by
    unfold rp
    split <;> simp [D.pureL, D.pure, pure_vals m1, pure_vals m2]
  have f4 := at_all fin4 hk m1 m2
  obtain ⟨z, z1, z2⟩ := repr_any (h := heap ns ds (p + 1 + 1)) pr f4
  have c1 : call 2 [.int k, d1, d2] (heap ns ds (p + 1 + 1)) = _ := caught hk m1 m2
  have t1 : ev call (.cmp .NotEq (.call 2 (.cons (.slot 4) (.cons (.slot 5) (.cons (.slot 6) (.nil)))) []) (.lc [7] (.slot 7) (.rng (.cons (.int 7) (.nil))) (.omit) (.cmp .Eq (.slot 7) (.slot 4)))) [a, some (.ref 1), some (.ref 3), some (.ref 4), some (.int k), some d1, some d2, j] (heap ns ds (p + 1 + 1)) = some (.ok (.bl false) (heap ns ds (p + 1 + 1))) := by
    rw [ev]
    rw [show ev call (.call 2 (.cons (.slot 4) (.cons (.slot 5) (.cons (.slot 6) (.nil)))) []) [a, some (.ref 1), some (.ref 3), some (.ref 4), some (.int k), some d1, some d2, j] (heap ns ds (p + 1 + 1)) = call 2 [.int k, d1, d2] (heap ns ds (p + 1 + 1)) from by simp [ev, evs, bnd], c1, bnd_ok, lc_kb, bnd_ok]
    have q := eq_kb (k := k) (h := (heap ns ds (p + 1 + 1) ++ [.lst (kb k)]) ++ [.lst (kb k)]) (m := (heap ns ds (p + 1 + 1)).length) (m' := (heap ns ds (p + 1 + 1) ++ [O.lst (kb k)]).length) hk rfl rfl
    rw [q]
    dsimp only
    rw [List.append_assoc, gc_pre rfl]
    rfl
  have t2 : ev call (.cmp .NotEq (.bi .repr (.cons (.call 1 (.cons (.slot 4) (.cons (.slot 5) (.cons (.slot 6) (.nil)))) []) (.nil))) (.bi .repr (.cons (.ifx (.tru (.cmp .Eq (.slot 4) (.int 5))) (.tup (.cons (.slot 5) (.cons (.slot 6) (.nil)))) (.tup (.cons (.slot 5) (.nil)))) (.nil)))) [a, some (.ref 1), some (.ref 3), some (.ref 4), some (.int k), some d1, some d2, j] (heap ns ds (p + 1 + 1)) = some (.ok (.bl false) (heap ns ds (p + 1 + 1))) := by
    have f1 : call 1 [.int k, d1, d2] (heap ns ds (p + 1 + 1)) = _ := fields hk m1 m2
    have big : (2 : Nat) ≤ lim := by decide
    have big1 : (1 : Nat) ≤ lim := by decide
    have g1 : ∀ h : List O, ev call (.ifx (.tru (.cmp .Eq (.slot 4) (.int 5))) (.tup (.cons (.slot 5) (.cons (.slot 6) (.nil)))) (.tup (.cons (.slot 5) (.nil)))) [a, some (.ref 1), some (.ref 3), some (.ref 4), some (.int k), some d1, some d2, j] h = some (.ok (rp k d1 d2) h) := by
      intro h
      rw [kk hk]
      by_cases h5 : ((k : Int) == 5) = true
      · have q : cmpD .Eq (.int (k : Int)) (.int 5) h = some true := by rw [eqi, h5]
        simp [ev, evt, evs, bnd, q, okB, gc, truth, big, h5]
      · have h5' : ((k : Int) == 5) = false := by simpa using h5
        have q : cmpD .Eq (.int (k : Int)) (.int 5) h = some false := by rw [eqi, h5']
        simp [ev, evt, evs, bnd, q, okB, gc, truth, big1, h5']
    have r1 : ev call (.bi .repr (.cons (.call 1 (.cons (.slot 4) (.cons (.slot 5) (.cons (.slot 6) (.nil)))) []) (.nil))) [a, some (.ref 1), some (.ref 3), some (.ref 4), some (.int k), some d1, some d2, j] (heap ns ds (p + 1 + 1)) = some (.ok (.str z) (heap ns ds (p + 1 + 1))) := by
      rw [ev]
      rw [show evs call (.cons (.call 1 (.cons (.slot 4) (.cons (.slot 5) (.cons (.slot 6) (.nil)))) []) (.nil)) [a, some (.ref 1), some (.ref 3), some (.ref 4), some (.int k), some d1, some d2, j] (heap ns ds (p + 1 + 1)) = some (.ok [rp k d1 d2] (heap ns ds (p + 1 + 1))) from by simp [ev, evs, bnd, f1], bnd_ok]
      show bnd (repr1 [rp k d1 d2] _) _ = _
      rw [z1, bnd_ok, gc_len rfl]
    have r2 : ev call (.bi .repr (.cons (.ifx (.tru (.cmp .Eq (.slot 4) (.int 5))) (.tup (.cons (.slot 5) (.cons (.slot 6) (.nil)))) (.tup (.cons (.slot 5) (.nil)))) (.nil))) [a, some (.ref 1), some (.ref 3), some (.ref 4), some (.int k), some d1, some d2, j] (heap ns ds (p + 1 + 1)) = some (.ok (.str z) (heap ns ds (p + 1 + 1))) := by
      rw [ev, evs, g1, bnd_ok]
      show bnd (bnd (some (.ok [] _)) _) _ = _
      rw [bnd_ok, bnd_ok]
      show bnd (repr1 [rp k d1 d2] _) _ = _
      rw [z1, bnd_ok, gc_len rfl]
    rw [ev, r1, bnd_ok, r2, bnd_ok, z2]
    dsimp only
    rw [gc_len rfl]
    rfl
  have i1 : ∀ (x : E) (r : S), ev call x [a, some (.ref 1), some (.ref 3), some (.ref 4), some (.int k), some d1, some d2, j] (heap ns ds (p + 1 + 1)) = some (.ok (.bl false) (heap ns ds (p + 1 + 1))) → Mini.exec call pC (.ite (.tru x) r .nil) [a, some (.ref 1), some (.ref 3), some (.ref 4), some (.int k), some d1, some d2, j] (heap ns ds (p + 1 + 1)) = some (.fl (.nx [a, some (.ref 1), some (.ref 3), some (.ref 4), some (.int k), some d1, some d2, j]) (heap ns ds (p + 1 + 1))) := fun x r e => by
    rw [Mini.exec, evt, e]
    rfl
  rw [seq_nx (i1 _ _ t1), seq_nx (i1 _ _ t2)]
  rfl
theorem law_true (ns : List Int) (hl : ns.length ≤ 63) : ∃ h', callF pPF pC 20 0 [.ref 0] [.ro (ns.map D.int)] = some (.ok (.bl true) h') := by
  obtain ⟨ds, ed⟩ := draws_call (C := pC) (PF := pPF) (o := 5) (n := 18) rfl ns hl
  have lim4 : ∀ h : List O, call 4 [] h = some (.ok (.bl true) h) := fun h => by
    have f := fin3
    cases er : runB (callF pPF pC 18) pC (fns 4) [] [] with
    | none => rw [er] at f; cases f
    | some r =>
      rw [er] at f
      cases r with
      | exc c fs g => cases f
      | ok d g =>
        have ed := D.beq_eq _ _ f
        subst ed
        rw [show call = callF pPF pC (18 + 1) from rfl, callF_pure (fn := fns 4) rfl rfl rfl er]
        simp [tidy, D.pure, D.shift, shiftH]
  have loop : ∃ e h', forGo [] (turn call pC (.slot 4) bLoop) ((List.range 7).map fun k : Nat => .int (0 + (k : Int))) [some (.ref 0), some (.ref 1), some (.ref 3), some (.ref 4), none, none, none, none] (heap ns ds 0) = some (.fl (.nx e) h') := by
    obtain ⟨e, h', e1, _⟩ := for_invB (src := []) (f := turn call pC (.slot 4) bLoop) (fun n env h => ∃ (p : Int) (a b c kq j : Option D), 0 ≤ p ∧ env = [a, some (.ref 1), some (.ref 3), some (.ref 4), kq, b, c, j] ∧ h = heap ns ds p) (fun _ _ _ _ => rfl) 7 ((List.range 7).map fun k : Nat => .int (0 + (k : Int))) 0
      [some (.ref 0), some (.ref 1), some (.ref 3), some (.ref 4), none, none, none, none] (heap ns ds 0) (by simp) (by
        rintro x hx n env h _ ⟨p, a, b, c, kq, j, hp, rfl, rfl⟩
        obtain ⟨k, hk, rfl⟩ := List.mem_map.mp hx
        obtain ⟨b', c', e⟩ := turnK (ns := ns) (ds := ds) (List.mem_range.mp hk) hp a b c kq j
        exact ⟨_, _, e, p + 1 + 1, a, b', c', _, j, by omega, rfl, rfl⟩) ⟨0, _, _, _, _, _, by omega, rfl, rfl⟩
    exact ⟨e, h', e1⟩
  obtain ⟨e, h', e1⟩ := loop
  have big : (10 : Nat) ≤ lim := by decide
  have big1 : (1 : Nat) ≤ lim := by decide
  have big2 : (2 : Nat) ≤ lim := by decide
  have ed' : call 5 [.ref 0] [.ro (ns.map D.int)] = _ := ed
  have a1 : Mini.exec call pC (.asg (.slot 1) (.call 5 (.cons (.slot 0) (.nil)) [])) [some (.ref 0), none, none, none, none, none, none, none] [.ro (ns.map .int)] = some (.fl (.nx [some (.ref 0), some (.ref 1), none, none, none, none, none, none]) [.ro (ns.map .int), .lst (ds.map .int), .lst (ns.map .int)]) := by
    simp [Mini.exec, ev, evs, bns, bnd, ed', asgS]
  have a2 : Mini.exec call pC (.asg (.slot 2) (.lst (.cons (.int 0) (.nil)))) [some (.ref 0), some (.ref 1), none, none, none, none, none, none] [.ro (ns.map .int), .lst (ds.map .int), .lst (ns.map .int)] = some (.fl (.nx [some (.ref 0), some (.ref 1), some (.ref 3), none, none, none, none, none]) [.ro (ns.map .int), .lst (ds.map .int), .lst (ns.map .int), .lst [.int 0]]) := by
    simp [Mini.exec, ev, evs, bns, bnd, asgS, big1, Mini.alloc]
  have a3 : Mini.exec call pC (.ite (.nt (.tru (.call 4 (.nil) []))) (.seq (.ret (.bl false)) (.nil)) (.nil)) [some (.ref 0), some (.ref 1), some (.ref 3), none, none, none, none, none] [.ro (ns.map .int), .lst (ds.map .int), .lst (ns.map .int), .lst [.int 0]] = some (.fl (.nx [some (.ref 0), some (.ref 1), some (.ref 3), none, none, none, none, none]) [.ro (ns.map .int), .lst (ds.map .int), .lst (ns.map .int), .lst [.int 0]]) := by
    simp [Mini.exec, ev, evs, evt, bns, bnd, lim4, truth]
  have a4 : Mini.exec call pC (.asg (.slot 3) (.lst (.cons (.str "word") (.cons (.str "") (.cons (.str "form") (.cons (.int 0) (.cons (.int 17) (.cons (.neg (.int 3)) (.cons (.non) (.cons (.tup (.cons (.str "a") (.cons (.int 5) (.nil)))) (.cons (.str "a line") (.cons (.bl true) (.nil))))))))))))) [some (.ref 0), some (.ref 1), some (.ref 3), none, none, none, none, none] [.ro (ns.map .int), .lst (ds.map .int), .lst (ns.map .int), .lst [.int 0]] = some (.fl (.nx [some (.ref 0), some (.ref 1), some (.ref 3), some (.ref 4), none, none, none, none]) (heap ns ds 0)) := by
    simp [Mini.exec, ev, evs, bns, bnd, asgS, big, big2, Mini.alloc, heap, vals, okI]
  refine ⟨_, callF_heap (fn := fns 0) rfl rfl rfl (ret1 (d := .bl true) (h' := h') ?_)⟩
  show Mini.exec call pC (.seq (.asg (.slot 1) (.call 5 (.cons (.slot 0) (.nil)) [])) (.seq (.asg (.slot 2) (.lst (.cons (.int 0) (.nil)))) (.seq (.ite (.nt (.tru (.call 4 (.nil) []))) (.seq (.ret (.bl false)) (.nil)) (.nil)) (.seq (.asg (.slot 3) (.lst (.cons (.str "word") (.cons (.str "") (.cons (.str "form") (.cons (.int 0) (.cons (.int 17) (.cons (.neg (.int 3)) (.cons (.non) (.cons (.tup (.cons (.str "a") (.cons (.int 5) (.nil)))) (.cons (.str "a line") (.cons (.bl true) (.nil))))))))))))) (.seq (.for (.slot 4) (.rng (.cons (.int 7) (.nil))) bLoop) (.seq (.ret (.bl true)) (.nil))))))) [some (.ref 0), none, none, none, none, none, none, none] [.ro (ns.map .int)] = _
  rw [seq_nx a1, seq_nx a2, seq_nx a3, seq_nx a4]
  rw [seq_nx (e := e) (h' := h') (by
    rw [for_is (p := ((List.range 7).map fun k : Nat => .int (0 + (k : Int)), [])) (h1 := heap ns ds 0) rfl]
    exact e1)]
  rfl
end
end Lk00
end

open PySem PySem.W PyProof.Rows
set_option maxHeartbeats 0 in
theorem PySem.Challenge.cw_plaitwrit_k00_errors_and_limits_holds : PySem.Challenge.rw_plaitwrit_k00_errors_and_limits.Holds := by
  w_on; o_law; k_head; (case hw => w_witness2)
  k_fill
  refine Mini.law_tab (n := 63) (k := 20) (C := Lk00.pC) (CR := Lk00.pCR) (tb := Lk00.pTb) (con := Lk00.pCon) (ks := Lk00.pKin) (PF := Lk00.pPF) (FR := Lk00.pFR) (i := 0) rfl (by decide) rfl ⟨rfl, by decide, by decide⟩ (fun w h Y => PySem.W.kIn_of Y) ?nl ?tb rfl rfl rfl rfl ?run
  case nl => intro p; kernel_rfl
  case tb => intro p; kernel_rfl
  case run => exact Lk00.law_true
