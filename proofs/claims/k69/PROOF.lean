import PyProof.Rows.All
import Wide.All
import OpenK.AllK
import Wide.FinOn
import KE.LtData
import HandS.ForMost
import HandS.ForExc
import HandS.Flow
import HandS.IsInst
import HandS.TupAny
import HandS.TupMul
import HandS.Style
import HandS.Zip
import HandS.Wide
import HandS.ExcInit
import HandS.TryMany
import HandS.CallSlots
import HandS.ExcField
import HandS.Dict
import HandS.Iter
import KE.SortData
import HandS.Conv
import HandS.More
import HandS.SortInts
import KE.KDictPairs
import HandS.Comp
import KE.KExcSuper
import HandS.ExcIs
import HandS.HotCalls
import HandS.DictComp
import HandS.DictTup
import KE.KDictDisplayH
import HandS.Small
import KE.KExcIs
import HandS.Ends
import PySem.Challenge.RW_plaitwrit_k69_whole_expansions
set_option Elab.async false
set_option linter.all false
set_option maxRecDepth 100000
section
/-! Mini: values, a symbolic heap, an IR and its evaluator (own work). -/
namespace Mini
open PySem

/-- pure values; ref n is the n-th object of the symbolic heap -/
inductive D where
  | non | bl (b : Bool) | int (i : Int) | str (s : Str) | tup (xs : List D) | ref (n : Nat)
  deriving Inhabited
/-- objects: a list, a read-only list (the script), a dict by insertion, a tuple that is known to have no attributes -/
inductive O where
  | lst (xs : List D) | ro (xs : List D) | dct (lk t : Bool) (kvs : List (D × D)) | tpl (xs : List D)

mutual
def D.pure : D → Bool
  | .ref _ => false
  | .tup xs => D.pureL xs
  | .non => true | .bl _ => true | .int _ => true | .str _ => true
def D.pureL : List D → Bool
  | [] => true
  | x :: xs => x.pure && D.pureL xs
end
mutual
def D.shift (k : Nat) : D → D
  | .ref n => .ref (n + k)
  | .tup xs => .tup (D.shiftL k xs)
  | .non => .non | .bl b => .bl b | .int i => .int i | .str s => .str s
def D.shiftL (k : Nat) : List D → List D
  | [] => []
  | x :: xs => x.shift k :: D.shiftL k xs
end
mutual
def D.beq : D → D → Bool
  | .non, .non => true
  | .bl a, .bl b => a == b
  | .int a, .int b => a == b
  | .str a, .str b => a == b
  | .tup a, .tup b => D.beqL a b
  | .ref a, .ref b => a == b
  | _, _ => false
def D.beqL : List D → List D → Bool
  | [], [] => true
  | x :: xs, y :: ys => x.beq y && D.beqL xs ys
  | _, _ => false
end
def D.beqK : List (D × D) → List (D × D) → Bool
  | [], [] => true
  | x :: xs, y :: ys => x.1.beq y.1 && x.2.beq y.2 && D.beqK xs ys
  | _, _ => false
def O.beq : O → O → Bool
  | .lst a, .lst b => D.beqL a b
  | .ro a, .ro b => D.beqL a b
  | .dct l t a, .dct l' t' b => l == l' && t == t' && D.beqK a b
  | .tpl a, .tpl b => D.beqL a b
  | _, _ => false
def beqH : List O → List O → Bool
  | [], [] => true
  | x :: xs, y :: ys => x.beq y && beqH xs ys
  | _, _ => false
def D.shiftK (k : Nat) : List (D × D) → List (D × D)
  | [] => []
  | x :: xs => (x.1.shift k, x.2.shift k) :: D.shiftK k xs
def O.shift (k : Nat) : O → O
  | .lst a => .lst (D.shiftL k a)
  | .ro a => .ro (D.shiftL k a)
  | .dct l t a => .dct l t (D.shiftK k a)
  | .tpl a => .tpl (D.shiftL k a)
def shiftH (k : Nat) : List O → List O
  | [] => []
  | x :: xs => x.shift k :: shiftH k xs
def O.pure : O → Bool
  | .lst a => D.pureL a
  | .ro a => false
  | .dct l t a => !l && a.all fun p => p.1.pure && p.2.pure
  | .tpl a => D.pureL a

/-- an end: a value, or an exception by its class and fields -/
inductive R (α : Type) where
  | ok (a : α) (h : List O) | exc (c : Nat) (fs : List D) (h : List O)
abbrev Env := List (Option D)
abbrev M (α : Type) := List O → Option (R α)
def bnd {α β : Type} (m : Option (R α)) (f : α → List O → Option (R β)) : Option (R β) :=
  match m with
  | none => none
  | some (.exc c fs h) => some (.exc c fs h)
  | some (.ok a h) => f a h
@[simp] theorem bnd_ok {α β : Type} (a : α) (h : List O) (f : α → List O → Option (R β)) : bnd (some (.ok a h)) f = f a h := rfl
@[simp] theorem bnd_exc {α β : Type} (c : Nat) (fs : List D) (h : List O) (f : α → List O → Option (R β)) : bnd (some (.exc c fs h)) f = some (.exc c fs h) := rfl
@[simp] theorem bnd_none {α β : Type} (f : α → List O → Option (R β)) : bnd none f = none := rfl

def setH (h : List O) (n : Nat) (o : O) : List O := h.set n o
/-- lists -/
def lim : Nat := 16777216
def isLst (h : List O) (n : Nat) : Option (List D) :=
  match h[n]? with
  | some (.lst xs) => some xs
  | _ => none
/-- a list or a read-only list -/
def rdLst (h : List O) (n : Nat) : Option (List D) :=
  match h[n]? with
  | some (.lst xs) => some xs
  | some (.ro xs) => some xs
  | _ => none
def rdTpl (h : List O) (n : Nat) : Option (List D) :=
  match h[n]? with
  | some (.tpl xs) => some xs
  | _ => none
/-! ### dicts -/
def flatK : D → Bool
  | .int _ => true
  | .str _ => true
  | _ => false
/-- a key of a dict of the kind t -/
def okK (t : Bool) : D → Bool
  | .int _ => !t
  | .str _ => !t
  | .tup xs => t && xs.all flatK
  | _ => false
def dGet (kvs : List (D × D)) (k : D) : Option D := (kvs.find? fun p => p.1.beq k).map (·.2)
def dPut (kvs : List (D × D)) (k v : D) : List (D × D) := if kvs.any (fun p => p.1.beq k) then kvs.map (fun p => if p.1.beq k then (p.1, v) else p) else kvs ++ [(k, v)]
def rdDct (h : List O) (n : Nat) : Option (Bool × List (D × D)) :=
  match h[n]? with
  | some (.dct _ t kvs) => some (t, kvs)
  | _ => none
/-- a dict that may be changed -/
def isDct (h : List O) (n : Nat) : Option (Bool × List (D × D)) :=
  match h[n]? with
  | some (.dct false t kvs) => some (t, kvs)
  | _ => none
/-- a dict that a loop walks -/
def lkDct (h : List O) (n : Nat) : Option (Bool × List (D × D)) :=
  match h[n]? with
  | some (.dct true t kvs) => some (t, kvs)
  | _ => none
/-- the items of a list or a tuple -/
def seqOf (h : List O) : D → Option (List D)
  | .tup xs => some xs
  | .ref n => rdLst h n
  | _ => none
def alloc (o : O) (h : List O) : Option (R D) := some (.ok (.ref h.length) (h ++ [o]))
/-- temporary objects are forgotten behind a value that leans on none -/
def gc (h0 : List O) (d : D) (h1 : List O) : List O :=
  if h1.length = h0.length then h1 else if d.pure && beqH (h1.take h0.length) h0 then h0 else h1

/-! ### data for == and repr -/
mutual
def pyP : D → PyData
  | .non => .none | .bl b => .bool b | .int i => .int i | .str s => .str s
  | .tup xs => .tuple (pyPL xs)
  | .ref _ => .none
def pyPL : List D → List PyData
  | [] => []
  | x :: xs => pyP x :: pyPL xs
end
def mapO {α β : Type} (f : α → Option β) : List α → Option (List β)
  | [] => some []
  | x :: xs => match f x with
    | none => none
    | some y => match mapO f xs with
      | none => none
      | some ys => some (y :: ys)
def pyF : Nat → List O → D → Option PyData
  | 0, _, d => if d.pure then some (pyP d) else none
  | n + 1, h, d => if d.pure then some (pyP d) else match d with
    | .tup xs => (mapO (pyF n h) xs).map .tuple
    | .ref m => match rdLst h m with
      | some xs => (mapO (pyF n h) xs).map .list
      | none => match rdTpl h m with
        | some xs => (mapO (pyF n h) xs).map .tuple
        | none => none
    | _ => none
def pyD (h : List O) (d : D) : Option PyData := pyF 4 h d

/-! ### operators -/
def mulOk (i j : Int) : Bool := decide (i.natAbs < 2 ^ 64) || decide (j.natAbs < 2 ^ 64) || decide (i.natAbs.log2 + j.natAbs.log2 < 1000000)
def powOk (i j : Int) : Bool := decide (0 ≤ j) && decide (j ≤ 1000000) && decide (i.natAbs < 2 ^ 64)
def okI (i : Int) (h : List O) : Option (R D) := some (.ok (.int i) h)
def okB (b : Bool) (h : List O) : Option (R D) := some (.ok (.bl b) h)
def addD (a b : D) (h : List O) : Option (R D) :=
  match a, b with
  | .int i, .int j => okI (i + j) h
  | .tup xs, .tup ys => if xs.length + ys.length ≤ lim then some (.ok (.tup (xs ++ ys)) h) else none
  | .ref m, .ref n => match isLst h m, isLst h n with
    | some xs, some ys => if xs.length + ys.length ≤ lim then alloc (.lst (xs ++ ys)) h else none
    | _, _ => none
  | _, _ => none
def mulD (a b : D) (h : List O) : Option (R D) :=
  match a, b with
  | .int i, .int j => if mulOk i j then okI (i * j) h else none
  | .tup xs, .int k => if xs.length * k.toNat ≤ 1000000 && decide (2 ≤ k) && decide (0 < xs.length) then some (.ok (.tup (List.replicate k.toNat xs).flatten) h) else none
  | .ref m, .int k => match isLst h m with
    | some xs => if xs.length * k.toNat ≤ lim && decide (-(2 ^ 63) ≤ k) && decide (k < 2 ^ 63) then alloc (.lst (List.replicate k.toNat xs).flatten) h else none
    | none => none
  | _, _ => none
def binD (op : Operator) (a b : D) (h : List O) : Option (R D) :=
  match op with
  | .Add => addD a b h
  | .Mult => mulD a b h
  | .Sub => match a, b with
    | .int i, .int j => okI (i - j) h
    | _, _ => none
  | .FloorDiv => match a, b with
    | .int i, .int j => if decide (0 < j) && decide (j.natAbs.log2 < 9000) then okI (i / j) h else if decide (j ≠ 0) && decide (j.natAbs.log2 < 9000) then okI (i.fdiv j) h else none
    | _, _ => none
  | .Mod => match a, b with
    | .int i, .int j => if 0 < j then okI (i % j) h else if j ≠ 0 then okI (i.fmod j) h else none
    | _, _ => none
  | .Pow => match a, b with
    | .int i, .int j => if powOk i j then okI (i ^ j.toNat) h else none
    | _, _ => none
  | _ => none

/-- a op= b: a list is lengthened where it stands -/
def augD (op : Operator) (a b : D) (h : List O) : Option (R D) :=
  match a, b with
  | .int i, .int j => match op with
    | .Add => okI (i + j) h
    | .Sub => okI (i - j) h
    | .Mult => if decide (i.natAbs < 2 ^ 64) || decide (j.natAbs < 2 ^ 64) then okI (i * j) h else none
    | .Mod => if 0 < j then okI (i % j) h else none
    | _ => none
  | .ref m, .ref n => match op, isLst h m, isLst h n with
    | .Add, some xs, some ys => if xs.length + ys.length ≤ lim then some (.ok (.ref m) (h.set m (.lst (xs ++ ys)))) else none
    | _, _, _ => none
  | _, _ => none
/-- truth -/
def truth (h : List O) : D → Option Bool
  | .non => some false
  | .bl b => some b
  | .int i => some (i != 0)
  | .str s => if s.length ≤ lim then some ((s.length : Int) != 0) else none
  | .tup xs => some (!xs.isEmpty)
  | .ref n => (rdLst h n).map fun xs => !xs.isEmpty

def intsOf : List D → Option (List Int)
  | [] => some []
  | .int i :: xs => (intsOf xs).map (i :: ·)
  | _ => none
/-! ### comparisons -/
def flatD : D → Bool
  | .non => true | .bl _ => true | .int _ => true | .str s => true | _ => false
/-- the order of tuples of ints -/
def lexI : List Int → List Int → Bool
  | [], ys => !ys.isEmpty
  | _ :: _, [] => false
  | x :: xs, y :: ys => bif x == y then lexI xs ys else decide (x < y)
def eqD (h : List O) (a b : D) : Option Bool :=
  match pyD h a, pyD h b with
  | some p, some q => if SeqAt.shaped p && SeqAt.shaped q then some (PyData.eqv p q) else none
  | _, _ => none
/-- .. in a dict -/
def inK (h : List O) (a b : D) : Option Bool :=
  match b with
  | .ref n => match rdDct h n with
    | some (t, kvs) => if okK t a then some (dGet kvs a).isSome else none
    | none => none
  | _ => none
def inD (h : List O) (a b : D) : Option Bool :=
  match seqOf h b with
  | some ys => if flatD a && ys.all flatD then some (ys.any fun y => PyData.eqv (pyP y) (pyP a)) else none
  | none => inK h a b
/-- data that are alike, by their order -/
def ltD (a b : D) : Option Bool := if a.pure && b.pure && PySem.W.alike (pyP a) (pyP b) && decide ((pyP a).depth ≤ 8) then some (PySem.W.dataLt (pyP a) (pyP b)) else none
def cmpD (op : CmpOp) (a b : D) (h : List O) : Option Bool :=
  match op with
  | .Eq => eqD h a b
  | .NotEq => (eqD h a b).map (!·)
  | .Lt => match a, b with
    | .int i, .int j => some (decide (i < j))
    | .tup xs, .tup ys => match intsOf xs, intsOf ys with
      | some ns, some ms => some (lexI ns ms)
      | _, _ => ltD (.tup xs) (.tup ys)
    | _, _ => none
  | .LtE => match a, b with
    | .int i, .int j => some (decide (i ≤ j))
    | _, _ => none
  | .Gt => match a, b with
    | .int i, .int j => some (decide (j < i))
    | _, _ => none
  | .GtE => match a, b with
    | .int i, .int j => some (decide (j ≤ i))
    | _, _ => none
  | .Is => match b with
    | .non => some (match a with | .non => true | _ => false)
    | _ => none
  | .IsNot => match b with
    | .non => some (match a with | .non => false | _ => true)
    | _ => none
  | .In => inD h a b
  | .NotIn => (inD h a b).map (!·)

/-! ### places -/
def ixD (n : Nat) (i : Int) : Option Nat := if 0 ≤ i then (if i < n then some i.toNat else none) else if -(n : Int) ≤ i then some (i + n).toNat else none
def atD (xs : List D) (i : Int) : Option D := match ixD xs.length i with
  | some j => xs[j]?
  | none => none
def sIxD (n d : Nat) : Option Int → Nat
  | none => d
  | some k => if k < 0 then (k + (n : Int)).toNat else min k.toNat n
def cutD (xs : List D) (lo hi : Option Int) : List D := (xs.drop (sIxD xs.length 0 lo)).take (sIxD xs.length xs.length hi - sIxD xs.length 0 lo)

/-- .. of a dict -/
def ixK (x y : D) (h : List O) : Option (R D) := match x with
  | .ref n => match rdDct h n with
    | some (t, kvs) => if okK t y then match dGet kvs y with
      | some d => some (.ok d h)
      | none => none
      else none
    | none => none
  | _ => none
/-- a subscript by values -/
def ixG (x y : D) (h : List O) : Option (R D) := match seqOf h x, y with
  | some xs, .int i => match atD xs i with
    | some d => some (.ok d h)
    | none => none
  | _, _ => ixK x y h
/-- a slice by values -/
def slG (x : D) (l u : Option Int) (h : List O) : Option (R D) := match x with
  | .tup xs => some (.ok (.tup (cutD xs l u)) h)
  | .ref n => match rdLst h n with
    | some xs => alloc (.lst (cutD xs l u)) h
    | none => none
  | _ => none
/-! ### types for isinstance -/
inductive Ty where
  | int | bool | str | tuple | list | dict
  deriving DecidableEq
def isiD (h : List O) (t : Ty) : D → Option Bool
  | .non => some false
  | .bl _ => some (t == .bool || t == .int)
  | .int _ => some (t == .int)
  | .str _ => some (t == .str)
  | .tup _ => some (t == .tuple)
  | .ref n => match h[n]? with
    | some (.lst _) => some (t == .list)
    | some (.ro _) => none
    | some (.dct _ _ _) => none
    | some (.tpl _) => some (t == .tuple)
    | none => none

/-- built-in functions by values -/
inductive Bi where
  | abs | all | any | int | len | list | tuple | repr | max2 | min2 | maxL | minL | sum | sorted | tpl | dict | bad
  deriving DecidableEq
/-- methods by values -/
inductive Mt where
  | append | pop | get | count | index | bad
  deriving DecidableEq
def boolsOf : List D → Option (List Bool)
  | [] => some []
  | .bl b :: xs => (boolsOf xs).map (b :: ·)
  | _ => none
def maxI : List Int → Int
  | [] => 0
  | [x] => x
  | x :: y :: r => let m := maxI (y :: r); if m ≤ x then x else m
def minI : List Int → Int
  | [] => 0
  | [x] => x
  | x :: y :: r => let m := minI (y :: r); if x ≤ m then x else m
def insI (x : Int) : List Int → List Int
  | [] => [x]
  | y :: r => if x ≤ y then x :: y :: r else y :: insI x r
def sortI : List Int → List Int
  | [] => []
  | x :: r => insI x (sortI r)
def abs1 (vs : List D) (h : List O) : Option (R D) := match vs with
  | [.int i] => okI (if i < 0 then -i else i) h
  | _ => none
def int1 (vs : List D) (h : List O) : Option (R D) := match vs with
  | [.int i] => okI i h
  | [.bl b] => okI (if b then 1 else 0) h
  | _ => none
def len1 (vs : List D) (h : List O) : Option (R D) := match vs with
  | [.str s] => if s.length ≤ lim then okI s.length h else none
  | [.tup xs] => okI xs.length h
  | [.ref n] => match rdLst h n with
    | some xs => okI xs.length h
    | none => match rdDct h n with
      | some (t, kvs) => if t then none else okI kvs.length h
      | none => none
  | _ => none
/-- the truth values of a list -/
def bools1 (vs : List D) (h : List O) : Option (List Bool) := match vs with
  | [.ref n] => match rdLst h n with
    | some xs => boolsOf xs
    | none => none
  | _ => none
/-- the ints of a list -/
def ints1 (vs : List D) (h : List O) : Option (List Int) := match vs with
  | [.ref n] => match rdLst h n with
    | some xs => intsOf xs
    | none => none
  | _ => none
def all1 (vs : List D) (h : List O) : Option (R D) := match bools1 vs h with
  | some bs => okB (bs.all id) h
  | none => none
def any1 (vs : List D) (h : List O) : Option (R D) := match bools1 vs h with
  | some bs => okB (bs.any id) h
  | none => none
def list1 (vs : List D) (h : List O) : Option (R D) := match vs with
  | [d] => match seqOf h d with
    | some xs => alloc (.lst xs) h
    | none => none
  | _ => none
def tuple1 (vs : List D) (h : List O) : Option (R D) := match vs with
  | [.tup xs] => some (.ok (.tup xs) h)
  | [.ref n] => match rdLst h n with
    | some xs => some (.ok (.tup xs) h)
    | none => none
  | _ => none
/-- tuple(xs), the new tuple known to have no attributes -/
def tpl1 (vs : List D) (h : List O) : Option (R D) := match vs with
  | [.ref n] => match isLst h n with
    | some xs => alloc (.tpl xs) h
    | none => none
  | _ => none
/-- pairs of keys that are tuples and values -/
def prsOf : List D → Option (List (D × D))
  | [] => some []
  | .tup [k, v] :: xs => if okK true k then (prsOf xs).map ((k, v) :: ·) else none
  | _ => none
/-- keys that are all unlike -/
def ndK : List (D × D) → Bool
  | [] => true
  | p :: l => !(l.any fun q => q.1.beq p.1) && ndK l
/-- dict(xs) of a tuple of pairs -/
def dict1 (vs : List D) (h : List O) : Option (R D) := match vs with
  | [.ref n] => match rdTpl h n with
    | some xs => match prsOf xs with
      | some kvs => if ndK kvs && decide (kvs.length ≤ lim) then alloc (.dct false true kvs) h else none
      | none => none
    | none => none
  | _ => none
def maxF (vs : List D) (h : List O) : Option (R D) := match vs with
  | [.int i, .int j] => okI (if j > i then j else i) h
  | _ => none
def minF (vs : List D) (h : List O) : Option (R D) := match vs with
  | [.int i, .int j] => okI (if j < i then j else i) h
  | _ => none
def maxL1 (vs : List D) (h : List O) : Option (R D) := match ints1 vs h with
  | some ns => if 0 < ns.length then okI (maxI ns) h else none
  | none => none
def minL1 (vs : List D) (h : List O) : Option (R D) := match ints1 vs h with
  | some ns => if 0 < ns.length then okI (minI ns) h else none
  | none => none
def sum1 (vs : List D) (h : List O) : Option (R D) := match ints1 vs h with
  | some ns => okI ns.sum h
  | none => none
/-- by the order of data that are alike -/
def leD (a b : D) : Bool := !PySem.W.dataLt (pyP b) (pyP a)
def insD (x : D) : List D → List D
  | [] => [x]
  | y :: r => if leD x y then x :: y :: r else y :: insD x r
def sortD : List D → List D
  | [] => []
  | x :: r => insD x (sortD r)
/-- what can be sorted as data -/
def okS (xs : List D) : Bool := xs.all fun x => x.pure && decide ((pyP x).depth ≤ 8) && xs.all fun y => PySem.W.alike (pyP x) (pyP y)
/-- of one form: rows with something in them, or none at all -/
def okF (xs : List D) : Bool := (xs.all fun x => match x with
    | .tup (_ :: _) => true
    | _ => false) || (xs.all fun x => match x with
    | .int _ => true
    | .bl _ => true
    | .str _ => true
    | _ => false)
/-- the items of a list or a tuple, the keys of a dict -/
def itemsS (h : List O) (d : D) : Option (List D) := match seqOf h d with
  | some xs => some xs
  | none => match d with
    | .ref n => match rdDct h n with
      | some (_, kvs) => some (kvs.map (·.1))
      | none => none
    | _ => none
def sortedD (vs : List D) (h : List O) : Option (R D) := match vs with
  | [d] => match itemsS h d with
    | some xs => if okS xs && okF xs && decide (xs.length ≤ lim) then alloc (.lst (sortD xs)) h else none
    | none => none
  | _ => none
def sorted1 (vs : List D) (h : List O) : Option (R D) := match ints1 vs h with
  | some ns => alloc (.lst ((sortI ns).map .int)) h
  | none => sortedD vs h
def repr1 (vs : List D) (h : List O) : Option (R D) := match vs with
  | [d] => match pyD h d with
    | some p => if p.showable && decide (p.shown.length ≤ lim) && decide (p.depth ≤ 16) && !p.hasDict then some (.ok (.str p.shown) h) else none
    | none => none
  | _ => none
def biD (b : Bi) (vs : List D) (h : List O) : Option (R D) :=
  match b with
  | .abs => abs1 vs h
  | .int => int1 vs h
  | .len => len1 vs h
  | .all => all1 vs h
  | .any => any1 vs h
  | .list => list1 vs h
  | .tuple => tuple1 vs h
  | .max2 => maxF vs h
  | .min2 => minF vs h
  | .maxL => maxL1 vs h
  | .minL => minL1 vs h
  | .sum => sum1 vs h
  | .sorted => sorted1 vs h
  | .repr => repr1 vs h
  | .tpl => tpl1 vs h
  | .dict => dict1 vs h
  | .bad => none
/-- the object is of the method's kind -/
def mtPre (m : Mt) (o : D) (h : List O) : Bool :=
  match m, o with
  | .append, .ref n => (isLst h n).isSome
  | .pop, .ref n => (isLst h n).isSome
  | .get, .ref n => (rdDct h n).isSome
  | _, _ => false
def append1 (o : D) (vs : List D) (h : List O) : Option (R D) := match o, vs with
  | .ref n, [d] => match isLst h n with
    | some xs => if xs.length < lim then some (.ok .non (setH h n (.lst (xs ++ [d])))) else none
    | none => none
  | _, _ => none
def pop0 (o : D) (vs : List D) (h : List O) : Option (R D) := match o, vs with
  | .ref n, [] => match isLst h n with
    | some xs => match xs[xs.length - 1]? with
      | some d => some (.ok d (setH h n (.lst xs.dropLast)))
      | none => none
    | none => none
  | _, _ => none
/-- d.get(k), d.get(k, e) -/
def get1 (o : D) (vs : List D) (h : List O) : Option (R D) := match o with
  | .ref n => match rdDct h n with
    | some (t, kvs) => match vs with
      | [k] => if okK t k then some (.ok ((dGet kvs k).getD .non) h) else none
      | [k, e] => if okK t k then some (.ok ((dGet kvs k).getD e) h) else none
      | _ => none
    | none => none
  | _ => none
def mtD (m : Mt) (o : D) (vs : List D) (h : List O) : Option (R D) :=
  match m with
  | .append => append1 o vs h
  | .pop => pop0 o vs h
  | .get => get1 o vs h
  | _ => none

/-! ### the IR: one type for expressions, lists of them, options, targets, iterables -/
inductive E where
  | nil | cons (a b : E)
  | omit
  | non | bl (b : Bool) | int (i : Int) | str (s : Str)
  | slot (i : Nat)
  | con (d : D) (x : Str)
  | bin (op : Operator) (a b : E)
  | neg (a : E)
  | cmp (op : CmpOp) (a b : E)
  | chn (op op' : CmpOp) (a b c : E)
  | and (a b : E) | or (a b : E)
  | nt (a : E) | ntv (a : E)
  | ifx (c a b : E)
  | tup (es : E) | lst (es : E)
  | ix (a b : E) | sl (a lo hi : E) | rev (a : E)
  | call (f : Nat) (es : E) (ds : List D)
  | bi (b : Bi) (es : E)
  | isi (a : E) (t : Ty)
  | mt (m : Mt) (o : E) (es : E)
  | lc (own : List Nat) (tg it c elt : E)
  | rng (es : E) | enu (a : E) | zip (a b : E)
  | tsub (a b : E)
  | tru (a : E) | itr (a : E)
  | dnew (t : Bool) | kv (k v r : E) | dsp (t : Bool) (kvs : E)
  | dc (own : List Nat) (t : Bool) (tg it c k v : E)
  | dit (a : E)
  | lck (i : Nat) (a : E)
  | fld (x : Str) | isx (c : Nat) | kin (x : Str) (cs : List Nat)
  | bad
inductive S where
  | nil | seq (a b : S)
  | asg (tg : E) (e : E)
  | par (i j : Nat) (es : E)
  | aug (i : Nat) (op : Operator) (e : E)
  | augS (a i : E) (op : Operator) (e : E)
  | ex (e : E)
  | ite (c : E) (a b : S)
  | for (tg it : E) (b : S)
  | lock (i : Nat) (b : S)
  | while (c : E) (b : S)
  | brk | cnt
  | ret (e : E) | retN
  | raise (c : Nat) (es : E)
  | try (b : S) (hs : S)
  | hnil | hcons (c : Nat) (slot : Nat) (e : E) (hs : S)
  | bad


/-- targets of names and tuples of them -/
def asgT : E → D → Env → Option Env
  | .slot i, d, env => if i < env.length then some (env.set i (some d)) else none
  | .tup es, .tup xs, env => asgTs es xs env
  | _, _, _ => none
where asgTs : E → List D → Env → Option Env
  | .nil, [], env => some env
  | .cons a b, x :: xs, env => match asgT a x env with
    | some env' => asgTs b xs env'
    | none => none
  | _, _, _ => none
def wipeD (env : Env) : List Nat → Env
  | [] => env
  | v :: vs => (wipeD env vs).set v none
/-- what a loop walks: the items, and the lists that must stay as they are -/
abbrev Src := List (Nat × List D)
def chk (src : Src) (h : List O) : Bool := src.all fun p => match rdLst h p.1 with
  | some xs => D.beqL xs p.2
  | none => false
def lcGo (src : Src) (f : D → List O → Option (R (Option D))) : List D → List D → List O → Option (R (List D))
  | [], acc, h => if chk src h then some (.ok acc h) else none
  | x :: xs, acc, h => if chk src h then match f x h with
      | some (.ok (some y) h') => if acc.length < lim then lcGo src f xs (acc ++ [y]) h' else none
      | some (.ok none h') => lcGo src f xs acc h'
      | _ => none
    else none
/-- a dict comprehension's turns -/
def dcGo (src : Src) (t : Bool) (f : D → List O → Option (R (Option (D × D)))) : List D → List (D × D) → List O → Option (R (List (D × D)))
  | [], acc, h => if chk src h then some (.ok acc h) else none
  | x :: xs, acc, h => if chk src h then match f x h with
      | some (.ok (some (k, v)) h') => if okK t k && decide (acc.length < lim) then dcGo src t f xs (dPut acc k v) h' else none
      | some (.ok none h') => dcGo src t f xs acc h'
      | _ => none
    else none
/-- what runs while the dict n is locked -/
def lockE (n : Nat) (f : List O → Option (R D)) (h : List O) : Option (R D) :=
  match h[n]? with
  | some (.dct true _ _) => f h
  | some (.dct false t kvs) => match f (setH h n (.dct true t kvs)) with
    | some (.ok d h') => match h'[n]? with
      | some (.dct true t' kvs') => some (.ok d (setH h' n (.dct false t' kvs')))
      | _ => none
    | _ => none
  | _ => none
def rangeD (vs : List D) : Option (List D) :=
  match vs with
  | [.int j] => if -(2 ^ 62) ≤ j ∧ j < 2 ^ 62 then some ((List.range j.toNat).map fun k : Nat => .int (0 + (k : Int))) else none
  | [.int i, .int j] => if -(2 ^ 62) ≤ i ∧ i < 2 ^ 62 ∧ -(2 ^ 62) ≤ j ∧ j < 2 ^ 62 then some ((List.range (j - i).toNat).map fun k : Nat => .int (i + (k : Int))) else none
  | _ => none
def enumD : Nat → List D → List D
  | _, [] => []
  | k, x :: xs => .tup [.int k, x] :: enumD (k + 1) xs
def zipD : List D → List D → List D
  | x :: xs, y :: ys => .tup [x, y] :: zipD xs ys
  | _, _ => []
/-- the items of a list or tuple, and whether it must stay -/
def itemsOf (d : D) (h : List O) : Option (List D × Src) :=
  match d with
  | .tup xs => some (xs, [])
  | .ref n => match rdLst h n with
    | some xs => some (xs, [(n, xs)])
    | none => match lkDct h n with
      | some (_, kvs) => some (kvs.map (·.1), [])
      | none => match rdTpl h n with
        | some xs => some (xs, [])
        | none => none
  | _ => none
/-- the pairs of a dict -/
def ditP (x : D) (h : List O) : Option (List D × Src) := match x with
  | .ref n => match lkDct h n with
    | some (_, kvs) => some (kvs.map (fun p => .tup [p.1, p.2]), [])
    | none => none
  | _ => none
def enumP (x : D) (h : List O) : Option (List D × Src) := match x with
  | .ref n => match rdLst h n with
    | some xs => some (enumD 0 xs, [(n, xs)])
    | none => none
  | _ => none
def zipP (x y : D) (h : List O) : Option (List D × Src) := match x, y with
  | .tup xs, .tup ys => some (zipD xs ys, [])
  | .ref m, .ref n => match rdLst h m, rdLst h n with
    | some xs, some ys => some (zipD xs ys, [(m, xs), (n, ys)])
    | _, _ => none
  | _, _ => none
section
variable (call : Nat → List D → List O → Option (R D))
mutual
def ev : E → Env → List O → Option (R D)
  | .non, _, h => some (.ok .non h)
  | .bl b, _, h => some (.ok (.bl b) h)
  | .int i, _, h => some (.ok (.int i) h)
  | .str s, _, h => some (.ok (.str s) h)
  | .slot i, env, h => match env[i]? with
    | some (some d) => some (.ok d h)
    | _ => none
  | .con d _, _, h => some (.ok d h)
  | .bin op a b, env, h => bnd (ev a env h) fun x h1 => bnd (ev b env h1) fun y h2 => binD op x y h2
  | .neg a, env, h => bnd (ev a env h) fun x h1 => match x with
    | .int i => okI (-i) h1
    | _ => none
  | .cmp op a b, env, h => bnd (ev a env h) fun x h1 => bnd (ev b env h1) fun y h2 => match cmpD op x y h2 with
    | some c => okB c (gc h (.bl c) h2)
    | none => none
  | .chn op op' a b c, env, h => bnd (ev a env h) fun x h1 => bnd (ev b env h1) fun y h2 => match cmpD op x y h2 with
    | some true => bnd (ev c env h2) fun z h3 => match cmpD op' y z h3 with
      | some r => okB r h3
      | none => none
    | some false => okB false h2
    | none => none
  | .and a b, env, h => bnd (ev a env h) fun x h1 => match truth h1 x with
    | some true => ev b env h1
    | some false => some (.ok x h1)
    | none => none
  | .or a b, env, h => bnd (ev a env h) fun x h1 => match truth h1 x with
    | some true => some (.ok x h1)
    | some false => ev b env h1
    | none => none
  | .ntv a, env, h => bnd (ev a env h) fun x h1 => match truth h1 x with
    | some b => okB (!b) h1
    | none => none
  | .ifx c a b, env, h => bnd (evt c env h) fun x h1 => if x then ev a env h1 else ev b env h1
  | .tup es, env, h => bnd (evs es env h) fun xs h1 => if xs.length ≤ lim then some (.ok (.tup xs) h1) else none
  | .lst es, env, h => bnd (evs es env h) fun xs h1 => if xs.length ≤ lim then alloc (.lst xs) h1 else none
  | .ix a b, env, h => bnd (ev a env h) fun x h1 => bnd (ev b env h1) fun y h2 => ixG x y h2
  | .sl a lo hi, env, h => bnd (ev a env h) fun x h1 => bnd (evo lo env h1) fun l h2 => bnd (evo hi env h2) fun u h3 => slG x l u h3
  | .rev a, env, h => bnd (ev a env h) fun x h1 => match x with
    | .tup xs => some (.ok (.tup xs.reverse) h1)
    | .ref n => match rdLst h1 n with
      | some xs => alloc (.lst xs.reverse) h1
      | none => none
    | _ => none
  | .call f es ds, env, h => bnd (evs es env h) fun vs h1 => call f (vs ++ ds) h1
  | .bi b es, env, h => bnd (evs es env h) fun vs h1 => bnd (biD b vs h1) fun d h2 => some (.ok d (gc h d h2))
  | .isi a t, env, h => bnd (ev a env h) fun x h1 => match isiD h1 t x with
    | some r => okB r h1
    | none => none
  | .mt m o es, env, h => bnd (ev o env h) fun x h1 => if mtPre m x h1 then bnd (evs es env h1) fun vs h2 => mtD m x vs h2 else none
  | .lc own tg it c elt, env, h => bnd (evi it env h) fun p h1 =>
      bnd (lcGo p.2 (fun x h => match asgT tg x (wipeD env own) with
        | some env2 => bnd (evt c env2 h) fun b h2 => if b then bnd (ev elt env2 h2) fun y h3 => some (.ok (some y) h3) else some (.ok none h2)
        | none => none) p.1 [] h1) fun ys h4 => alloc (.lst ys) h4
  | .dnew t, _, h => alloc (.dct false t []) h
  | .dsp t kvs, env, h => bnd (evk kvs env h) fun ps h1 => if ps.all (fun p => okK t p.1) && decide (ps.length ≤ 15) then alloc (.dct false t (ps.foldl (fun acc p => dPut acc p.1 p.2) [])) h1 else none
  | .dc own t tg it c k v, env, h => bnd (evi it env h) fun p h1 =>
      bnd (dcGo p.2 t (fun x h => match asgT tg x (wipeD env own) with
        | some env2 => bnd (evt c env2 h) fun b h2 => if b then bnd (ev k env2 h2) fun y h3 => bnd (ev v env2 h3) fun z h4 => some (.ok (some (y, z)) h4) else some (.ok none h2)
        | none => none) p.1 [] h1) fun ys h4 => alloc (.dct false t ys) h4
  | .lck i a, env, h => match env[i]? with
    | some (some (.ref n)) => lockE n (fun h => ev a env h) h
    | _ => none
  | _, _, _ => none
/-- the pairs of a display -/
def evk : E → Env → List O → Option (R (List (D × D)))
  | .nil, _, h => some (.ok [] h)
  | .kv k v r, env, h => bnd (ev k env h) fun x h1 => bnd (ev v env h1) fun y h2 => bnd (evk r env h2) fun ps h3 => some (.ok ((x, y) :: ps) h3)
  | _, _, _ => none
def evs : E → Env → List O → Option (R (List D))
  | .nil, _, h => some (.ok [] h)
  | .cons a b, env, h => bnd (ev a env h) fun x h1 => bnd (evs b env h1) fun xs h2 => some (.ok (x :: xs) h2)
  | _, _, _ => none
def evo : E → Env → List O → Option (R (Option Int))
  | .omit, _, h => some (.ok none h)
  | .cons a _, env, h => bnd (ev a env h) fun x h1 => match x with
    | .int i => some (.ok (some i) h1)
    | _ => none
  | _, _, _ => none
def evt : E → Env → List O → Option (R Bool)
  | .and a b, env, h => bnd (evt a env h) fun x h1 => if x then evt b env h1 else some (.ok false h1)
  | .or a b, env, h => bnd (evt a env h) fun x h1 => if x then some (.ok true h1) else evt b env h1
  | .nt a, env, h => bnd (evt a env h) fun x h1 => some (.ok (!x) h1)
  | .tru a, env, h => bnd (ev a env h) fun x h1 => match truth h1 x with
    | some b => some (.ok b h1)
    | none => none
  | .omit, _, h => some (.ok true h)
  | _, _, _ => none
def evi : E → Env → List O → Option (R (List D × Src))
  | .rng es, env, h => bnd (evs es env h) fun vs h1 => match rangeD vs with
    | some xs => some (.ok (xs, []) h1)
    | none => none
  | .enu a, env, h => bnd (ev a env h) fun x h1 => match enumP x h1 with
    | some p => some (.ok p h1)
    | none => none
  | .zip a b, env, h => bnd (ev a env h) fun x h1 => bnd (ev b env h1) fun y h2 => match zipP x y h2 with
    | some p => some (.ok p h2)
    | none => none
  | .itr a, env, h => bnd (ev a env h) fun x h1 => match itemsOf x h1 with
    | some p => some (.ok p h1)
    | none => none
  | .dit a, env, h => bnd (ev a env h) fun x h1 => match ditP x h1 with
    | some p => some (.ok p h1)
    | none => none
  | _, _, _ => none
end

/-! ### statements -/
inductive Fl where
  | nx (env : Env) | rt (d : D) | bk (env : Env) | ct (env : Env)
inductive RS where
  | fl (f : Fl) (h : List O) | exc (c : Nat) (fs : List D) (env : Env) (h : List O)
/-- an expression's end within a statement -/
def bns {α : Type} (m : Option (R α)) (env : Env) (f : α → List O → Option RS) : Option RS :=
  match m with
  | none => none
  | some (.exc c fs h) => some (.exc c fs env h)
  | some (.ok a h) => f a h
@[simp] theorem bns_ok {α : Type} (a : α) (h : List O) (env : Env) (f : α → List O → Option RS) : bns (some (.ok a h)) env f = f a h := rfl
@[simp] theorem bns_exc {α : Type} (c : Nat) (fs : List D) (h : List O) (env : Env) (f : α → List O → Option RS) : bns (some (.exc c fs h)) env f = some (.exc c fs env h) := rfl
@[simp] theorem bns_none {α : Type} (env : Env) (f : α → List O → Option RS) : bns none env f = none := rfl
/-- a list of ours -/
def lstB (h : List O) (o : D) : Bool := match o with
  | .ref n => (isLst h n).isSome || (isDct h n).isSome
  | _ => false
/-- .. of a dict -/
def setK (o i d : D) (h : List O) : Option (List O) :=
  match o with
  | .ref n => match isDct h n with
    | some (t, kvs) => if okK t i && decide (kvs.length < lim) then some (setH h n (.dct false t (dPut kvs i d))) else none
    | none => none
  | _ => none
/-- o[i] = d -/
def setI (o i d : D) (h : List O) : Option (List O) :=
  match o, i with
  | .ref n, .int k => match isLst h n with
    | some xs => match ixD xs.length k with
      | some j => some (setH h n (.lst (xs.set j d)))
      | none => none
    | none => setK o i d h
  | _, _ => setK o i d h
/-- an end that raises nothing -/
def onlyOk {α : Type} : Option (R α) → Option (α × List O)
  | some (.ok a h) => some (a, h)
  | _ => none
/-- targets of a statement -/
def asgS : E → D → Env → List O → Option (Env × List O)
  | .slot i, d, env, h => if i < env.length then some (env.set i (some d), h) else none
  | .tup es, .tup xs, env, h => asgSs es xs env h
  | .tsub a b, d, env, h => match onlyOk (ev call a env h) with
    | some (x, h1) => match onlyOk (ev call b env h1) with
      | some (y, h2) => match setI x y d h2 with
        | some h3 => some (env, h3)
        | none => none
      | none => none
    | none => none
  | _, _, _, _ => none
where asgSs : E → List D → Env → List O → Option (Env × List O)
  | .nil, [], env, h => some (env, h)
  | .cons a b, x :: xs, env, h => match asgS a x env h with
    | some (env', h1) => asgSs b xs env' h1
    | none => none
  | _, _, _, _ => none
def forGo (src : Src) (f : D → Env → List O → Option RS) : List D → Env → List O → Option RS
  | [], env, h => if chk src h then some (.fl (.nx env) h) else none
  | x :: xs, env, h => if chk src h then match f x env h with
      | some (.fl (.nx e) h') => forGo src f xs e h'
      | some (.fl (.ct e) h') => forGo src f xs e h'
      | some (.fl (.bk e) h') => some (.fl (.nx e) h')
      | r => r
    else none
def whileGo (c : Env → List O → Option (R Bool)) (b : Env → List O → Option RS) : Nat → Env → List O → Option RS
  | 0, _, _ => none
  | n + 1, env, h => bns (c env h) env fun x h1 => if x then match b env h1 with
      | some (.fl (.nx e) h') => whileGo c b n e h'
      | some (.fl (.ct e) h') => whileGo c b n e h'
      | some (.fl (.bk e) h') => some (.fl (.nx e) h')
      | r => r
    else some (.fl (.nx env) h1)
def wFuel : Nat := 1000000
/-- classes of exceptions: the ancestors (itself among them), the names of the fields -/
structure Cl where
  anc : List Nat
  flds : List Str
variable (C : List Cl)
def isAnc (c a : Nat) : Bool := match C[c]? with
  | some k => k.anc.contains a
  | none => false
def fldOf (c : Nat) (fs : List D) (x : Str) : Option D := match C[c]? with
  | some k => (k.flds.zip fs).lookup x
  | none => none
def canR (c : Nat) : Bool := match C[c]? with
  | some k => !k.flds.isEmpty
  | none => false
/-- as many arguments as the class has fields -/
def okFl (c : Nat) (vs : List D) : Bool := match C[c]? with
  | some k => decide (vs.length = k.flds.length) && !k.flds.isEmpty && decide (vs.length ≤ 1000)
  | none => false
/-- the value of a handler's suite -/
def evX (c : Nat) (fs : List D) : E → List O → Option (D × List O)
  | .non, h => some (.non, h)
  | .bl b, h => some (.bl b, h)
  | .int i, h => some (.int i, h)
  | .str s, h => some (.str s, h)
  | .fld x, h => match fldOf C c fs x with
    | some d => some (d, h)
    | none => none
  | .isx a, h => some (.bl (isAnc C c a), h)
  | .tup es, h => match evXs es h with
    | some (xs, h1) => if xs.length ≤ lim then some (.tup xs, h1) else none
    | none => none
  | .lst .nil, h => some (.ref h.length, h ++ [.lst []])
  | .kin _ cs, h => some (.ref h.length, h ++ [.lst (cs.map fun a => .bl (isAnc C c a))])
  | .and a b, h => match evX c fs a h with
    | some (.bl true, h1) => evX c fs b h1
    | some (.bl false, h1) => some (.bl false, h1)
    | _ => none
  | .ifx k a b, h => match evX c fs k h with
    | some (.bl true, h1) => evX c fs a h1
    | some (.bl false, h1) => evX c fs b h1
    | _ => none
  | _, _ => none
where evXs : E → List O → Option (List D × List O)
  | .nil, h => some ([], h)
  | .cons a b, h => match evX c fs a h with
    | some (x, h1) => match evXs b h1 with
      | some (xs, h2) => some (x :: xs, h2)
      | none => none
    | none => none
  | _, _ => none
def handle (c : Nat) (fs : List D) (env : Env) (h : List O) : S → Option RS
  | .hnil => some (.exc c fs env h)
  | .hcons a i e hs => if isAnc C c a then match evX C c fs e h with
      | some (d, h1) => if i < env.length then some (.fl (.rt d) h1) else none
      | none => none
    else handle c fs env h hs
  | _ => none
/-- the end of what ran while the dict n was locked -/
def unlk (n : Nat) : Option RS → Option RS
  | some (.fl f h) => match h[n]? with
    | some (.dct true t kvs) => some (.fl f (setH h n (.dct false t kvs)))
    | _ => none
  | _ => none
def exec : S → Env → List O → Option RS
  | .nil, env, h => some (.fl (.nx env) h)
  | .seq a b, env, h => match exec a env h with
    | some (.fl (.nx e) h') => exec b e h'
    | r => r
  | .asg tg e, env, h => bns (ev call e env h) env fun d h1 => match asgS call tg d env h1 with
    | some (env', h2) => some (.fl (.nx env') h2)
    | none => none
  | .par i j es, env, h => bns (evs call es env h) env fun vs h1 => match vs with
    | [x, y] => if i < env.length ∧ j < env.length then some (.fl (.nx ((env.set i (some x)).set j (some y))) h1) else none
    | _ => none
  | .aug i op e, env, h => match env[i]? with
    | some (some x) => bns (ev call e env h) env fun y h1 => bns (augD op x y h1) env fun z h2 => some (.fl (.nx (env.set i (some z))) h2)
    | _ => none
  | .augS a i op e, env, h => bns (ev call a env h) env fun o h1 => bns (ev call i env h1) env fun k h2 => if lstB h2 o then bns (ixG o k h2) env fun x h3 => bns (ev call e env h3) env fun y h4 => bns (augD op x y h4) env fun z h5 => match setI o k z h5 with
    | some h6 => some (.fl (.nx env) h6)
    | none => none
    else none
  | .ex e, env, h => bns (ev call e env h) env fun _ h1 => some (.fl (.nx env) h1)
  | .ite c a b, env, h => bns (evt call c env h) env fun x h1 => if x then exec a env h1 else exec b env h1
  | .for tg it b, env, h => bns (evi call it env h) env fun p h1 => forGo p.2 (fun x env h => match asgT tg x env with
      | some env2 => exec b env2 h
      | none => none) p.1 env h1
  | .lock i b, env, h => match env[i]? with
    | some (some (.ref n)) => match h[n]? with
      | some (.dct true _ _) => exec b env h
      | some (.dct false t kvs) => unlk n (exec b env (setH h n (.dct true t kvs)))
      | _ => none
    | _ => none
  | .while c b, env, h => whileGo (fun env h => evt call c env h) (fun env h => exec b env h) wFuel env h
  | .brk, env, h => some (.fl (.bk env) h)
  | .cnt, env, h => some (.fl (.ct env) h)
  | .ret e, env, h => bns (ev call e env h) env fun d h1 => some (.fl (.rt d) h1)
  | .retN, _, h => some (.fl (.rt .non) h)
  | .raise c es, env, h => if canR C c then bns (evs call es env h) env fun vs h1 => if okFl C c vs then some (.exc c vs env h1) else none else none
  | .try b hs, env, h => match exec b env h with
    | some (.exc c fs env' h') => handle C c fs env' h' hs
    | r => r
  | _, _, _ => none
end
/-- a def: its parameters, its names, its body -/
structure Fn where
  np : Nat
  nl : Nat
  body : S
def startD (nl : Nat) (vs : List D) : Env := vs.map some ++ List.replicate (nl - vs.length) none
def runB (call : Nat → List D → List O → Option (R D)) (C : List Cl) (f : Fn) (vs : List D) (h : List O) : Option (R D) :=
  match exec call C f.body (startD f.nl vs) h with
  | some (.fl (.rt d) h') => some (.ok d h')
  | some (.fl (.nx _) h') => some (.ok .non h')
  | some (.exc c fs _ h') => some (.exc c fs h')
  | _ => none
/-- what a call of pure arguments leaves: the value and the objects it leans on -/
def tidy (d : D) (g : List O) : D × List O :=
  if d.pure then (d, []) else match d with
    | .ref m => match g[m]? with
      | some o => if o.pure then (.ref 0, [o]) else (d, g)
      | none => (d, g)
    | _ => (d, g)
def callF (P : List Fn) (C : List Cl) : Nat → Nat → List D → List O → Option (R D)
  | 0, _, _, _ => none
  | n + 1, f, vs, h => match P[f]? with
    | none => none
    | some fn => if vs.length = fn.np then
        if D.pureL vs then match runB (callF P C n) C fn vs [] with
          | some (.ok d g) => some (.ok ((tidy d g).1.shift h.length) (h ++ shiftH h.length (tidy d g).2))
          | some (.exc c fs g) => if D.pureL fs then some (.exc c fs h) else none
          | none => none
        else match runB (callF P C n) C fn vs h with
          | some (.ok d h') => some (.ok d (gc h d h'))
          | r => r
      else none
end Mini
end

section
/-! Mini: how values and objects of the evaluator stand in the model's heap (own work). -/
namespace Mini
open PySem PySem.Spec PyProof.Rows L2

mutual
/-- the value v is d -/
def RV (K : PySem.W.Frag) (ρ : List Addr) (H : Hp) : V → D → Prop
  | v, .non => v = .non
  | v, .bl b => v = .bl b
  | v, .int i => v = .int i
  | v, .str s => v = .str s
  | v, .tup xs => ∃ a vs, v = .ref a ∧ H a = some (.tup vs) ∧ RVs K ρ H vs xs
  | v, .ref n => ∃ a, v = .ref a ∧ ρ[n]? = some a
def RVs (K : PySem.W.Frag) (ρ : List Addr) (H : Hp) : List V → List D → Prop
  | vs, [] => vs = []
  | vs, x :: xs => ∃ v r, vs = v :: r ∧ RV K ρ H v x ∧ RVs K ρ H r xs
end
/-- a key of a dict, as a value -/
def kD : Key → D
  | .inl i => .int i
  | .inr s => .str s
/-- the object at a is o -/
def OR (K : PySem.W.Frag) (ρ : List Addr) (H : Hp) (a : Addr) : O → Prop
  | .lst xs => ∃ vs, H a = some (.lst vs) ∧ RVs K ρ H vs xs
  | .ro xs => ∃ o vs, H a = some (.frz o (.lst vs)) ∧ RVs K ρ H vs xs
  | .dct lk false kvs => ∃ ws : List (Key × V), (if lk then ∃ o, H a = some (.frz o (.dK ws)) else H a = some (.dK ws)) ∧ ws.map (fun p => kD p.1) = kvs.map (·.1) ∧ RVs K ρ H (ws.map (·.2)) (kvs.map (·.2))
  | .dct lk true kvs => ∃ ws : List (List Key × V), (if lk then ∃ o, H a = some (.frz o (.dT ws)) else H a = some (.dT ws)) ∧ ws.map (fun p => D.tup (p.1.map kD)) = kvs.map (·.1) ∧ RVs K ρ H (ws.map (·.2)) (kvs.map (·.2))
  | .tpl xs => ∃ o vs, H a = some (.frz o (.tup vs)) ∧ o.dict = none ∧ RVs K ρ H vs xs
theorem or_tpl {K : PySem.W.Frag} {ρ : List Addr} {H : Hp} {a : Addr} {xs : List D} (r : OR K ρ H a (.tpl xs)) : ∃ o vs, H a = some (.frz o (.tup vs)) ∧ o.dict = none ∧ RVs K ρ H vs xs := r
theorem or_dct {K : PySem.W.Frag} {ρ : List Addr} {H : Hp} {a : Addr} {lk t : Bool} {kvs : List (D × D)} (r : OR K ρ H a (.dct lk t kvs)) : ∃ u : HO, ((∃ ws, u = .dK ws) ∨ ∃ ws, u = .dT ws) ∧ (H a = some u ∨ ∃ o, H a = some (.frz o u)) := by
  cases t with
  | false =>
    obtain ⟨ws, e, _⟩ := r
    refine ⟨.dK ws, .inl ⟨ws, rfl⟩, ?_⟩
    cases lk with
    | true => exact .inr e
    | false => exact .inl e
  | true =>
    obtain ⟨ws, e, _⟩ := r
    refine ⟨.dT ws, .inr ⟨ws, rfl⟩, ?_⟩
    cases lk with
    | true => exact .inr e
    | false => exact .inl e
structure Wd (K : PySem.W.Frag) (ρ : List Addr) (h : List O) (H : Hp) : Prop where
  len : ρ.length = h.length
  nd : ρ.Nodup
  obj : ∀ (i : Nat) (o : O) (a : Addr), h[i]? = some o → ρ[i]? = some a → OR K ρ H a o
structure Xt (ρ : List Addr) (H : Hp) (ρ' : List Addr) (H' : Hp) : Prop where
  pre : ∃ τ, ρ' = ρ ++ τ ∧ ∀ a ∈ τ, H a = none
  frame : ∀ a o, H a = some o → a ∉ ρ → H' a = some o
  keep : ∀ a, H a ≠ none → H' a ≠ none
  frz : ∀ a o u, H a = some (.frz o u) → H' a = some (.frz o u)

variable {K : PySem.W.Frag} {ρ ρ' ρ1 ρ2 : List Addr} {h h' : List O} {H H' H1 H2 : Hp}
theorem Xt.refl : Xt ρ H ρ H := ⟨⟨[], by simp, by simp⟩, fun _ _ e _ => e, fun _ e => e, fun _ _ _ e => e⟩
theorem Xt.trans (x : Xt ρ H ρ1 H1) (y : Xt ρ1 H1 ρ2 H2) : Xt ρ H ρ2 H2 := by
  obtain ⟨⟨τ, e1, n1⟩, f1, k1, z1⟩ := x
  obtain ⟨⟨τ2, e2, n2⟩, f2, k2, z2⟩ := y
  have key : ∀ a o, H a = some o → a ∉ ρ → H1 a = some o ∧ a ∉ ρ1 := fun a o e n => ⟨f1 a o e n, fun m => by
    rw [e1] at m
    rcases List.mem_append.mp m with m | m
    · exact n m
    · rw [n1 a m] at e; cases e⟩
  refine ⟨⟨τ ++ τ2, by rw [e2, e1, List.append_assoc], fun a m => ?_⟩, fun a o e n => ?_, fun a e => k2 a (k1 a e), fun a o u e => z2 a o u (z1 a o u e)⟩
  · rcases List.mem_append.mp m with m | m
    · exact n1 a m
    · cases q : H a with
      | none => rfl
      | some o => exact absurd (n2 a m) (k1 a (by rw [q]; simp))
  · obtain ⟨a1, a2⟩ := key a o e n
    exact f2 a o a1 a2
theorem mem_of_get {α : Type} {l : List α} {i : Nat} {a : α} (e : l[i]? = some a) : a ∈ l := List.mem_of_getElem? e
theorem Wd.get (w : Wd K ρ h H) {n : Nat} {a : Addr} (e : ρ[n]? = some a) : ∃ o, h[n]? = some o ∧ OR K ρ H a o := by
  have hl : n < h.length := by
    rw [← w.len]
    exact (List.getElem?_eq_some_iff.mp e).1
  exact ⟨h[n], List.getElem?_eq_getElem hl, w.obj n _ a (List.getElem?_eq_getElem hl) e⟩
theorem Wd.addr (w : Wd K ρ h H) {n : Nat} {o : O} (e : h[n]? = some o) : ∃ a, ρ[n]? = some a ∧ OR K ρ H a o := by
  have hl : n < ρ.length := by
    rw [w.len]
    exact (List.getElem?_eq_some_iff.mp e).1
  exact ⟨ρ[n], List.getElem?_eq_getElem hl, w.obj n o _ e (List.getElem?_eq_getElem hl)⟩
/-- what stands at an address of ours is no tuple -/
theorem Wd.notup (w : Wd K ρ h H) {a : Addr} (m : a ∈ ρ) {vs : List V} : ¬ H a = some (.tup vs) := by
  obtain ⟨n, hn, e⟩ := List.getElem_of_mem m
  obtain ⟨o, _, r⟩ := w.get (n := n) (a := a) (by rw [List.getElem?_eq_getElem hn, e])
  intro q
  cases o with
  | lst xs =>
    obtain ⟨ws, e1, _⟩ := r
    rw [e1] at q; cases q
  | ro xs =>
    obtain ⟨o', ws, e1, _⟩ := r
    rw [e1] at q; cases q
  | dct lk t kvs =>
    obtain ⟨u, hu, e⟩ := or_dct r
    rcases hu with ⟨ws, rfl⟩ | ⟨ws, rfl⟩ <;> rcases e with e | ⟨o, e⟩ <;> (rw [e] at q; cases q)
  | tpl xs =>
    obtain ⟨o', ws, e1, _⟩ := r
    rw [e1] at q; cases q
theorem Wd.there (w : Wd K ρ h H) {a : Addr} (m : a ∈ ρ) : H a ≠ none := by
  obtain ⟨n, hn, e⟩ := List.getElem_of_mem m
  obtain ⟨o, _, r⟩ := w.get (n := n) (a := a) (by rw [List.getElem?_eq_getElem hn, e])
  cases o with
  | lst xs => obtain ⟨ws, e1, _⟩ := r; rw [e1]; simp
  | ro xs => obtain ⟨o', ws, e1, _⟩ := r; rw [e1]; simp
  | dct lk t kvs =>
    obtain ⟨u, _, e⟩ := or_dct r
    rcases e with e | ⟨o, e⟩ <;> (rw [e]; simp)
  | tpl xs => obtain ⟨o', ws, e1, _⟩ := r; rw [e1]; simp
/-- tuples stay -/
def TS' (K : PySem.W.Frag) (H H' : Hp) : Prop := ∀ a vs, H a = some (.tup vs) → H' a = some (.tup vs)
theorem TS'.refl : TS' K H H := fun _ _ e => e
theorem Wd.tups (w : Wd K ρ h H) (x : Xt ρ H ρ' H') : TS' K H H' := by
  intro a vs q
  exact x.frame a _ q fun m => w.notup m q
mutual
theorem RV.mono (t : TS' K H H') (p : ∀ (n : Nat) a, ρ[n]? = some a → ρ'[n]? = some a) : ∀ (d : D) (v : V), RV K ρ H v d → RV K ρ' H' v d
  | .non, v, e => e
  | .bl b, v, e => e
  | .int i, v, e => e
  | .str s, v, e => e
  | .tup xs, v, ⟨a, vs, e, q, r⟩ => ⟨a, vs, e, t a vs q, RVs.mono t p xs vs r⟩
  | .ref n, v, ⟨a, e, q⟩ => ⟨a, e, p n a q⟩
theorem RVs.mono (t : TS' K H H') (p : ∀ (n : Nat) a, ρ[n]? = some a → ρ'[n]? = some a) : ∀ (xs : List D) (vs : List V), RVs K ρ H vs xs → RVs K ρ' H' vs xs
  | [], vs, e => e
  | x :: xs, vs, ⟨v, r, e, q, s⟩ => ⟨v, r, e, RV.mono t p x v q, RVs.mono t p xs r s⟩
end
mutual
theorem RV.any (t : TS' K H H') : ∀ (d : D) (v : V), d.pure = true → RV K ρ H v d → RV K ρ' H' v d
  | .non, v, _, e => e
  | .bl b, v, _, e => e
  | .int i, v, _, e => e
  | .str s, v, _, e => e
  | .tup xs, v, hp, ⟨a, vs, e, q, r⟩ => ⟨a, vs, e, t a vs q, RVs.any t xs vs (by simpa [D.pure] using hp) r⟩
  | .ref n, v, hp, _ => by simp [D.pure] at hp
theorem RVs.any (t : TS' K H H') : ∀ (xs : List D) (vs : List V), D.pureL xs = true → RVs K ρ H vs xs → RVs K ρ' H' vs xs
  | [], vs, _, e => e
  | x :: xs, vs, hp, ⟨v, r, e, q, s⟩ => by
    have hp' : x.pure = true ∧ D.pureL xs = true := by simpa [D.pureL] using hp
    exact ⟨v, r, e, RV.any t x v hp'.1 q, RVs.any t xs r hp'.2 s⟩
end
mutual
theorem RV.shifted {α : List Addr} (t : TS' K H H') : ∀ (d : D) (v : V), RV K ρ H v d → RV K (α ++ ρ) H' v (d.shift α.length)
  | .non, v, e => e
  | .bl b, v, e => e
  | .int i, v, e => e
  | .str s, v, e => e
  | .tup xs, v, ⟨a, vs, e, q, r⟩ => ⟨a, vs, e, t a vs q, RVs.shifted t xs vs r⟩
  | .ref n, v, ⟨a, e, q⟩ => ⟨a, e, by
      show (α ++ ρ)[n + α.length]? = some a
      rw [List.getElem?_append_right (Nat.le_add_left _ _), Nat.add_sub_cancel]; exact q⟩
theorem RVs.shifted {α : List Addr} (t : TS' K H H') : ∀ (xs : List D) (vs : List V), RVs K ρ H vs xs → RVs K (α ++ ρ) H' vs (D.shiftL α.length xs)
  | [], vs, e => e
  | x :: xs, vs, ⟨v, r, e, q, s⟩ => ⟨v, r, e, RV.shifted t x v q, RVs.shifted t xs r s⟩
end
theorem Xt.get (x : Xt ρ H ρ' H') (n : Nat) (a : Addr) (e : ρ[n]? = some a) : ρ'[n]? = some a := by
  obtain ⟨⟨τ, e1, _⟩, _, _, _⟩ := x
  rw [e1, List.getElem?_append_left (List.getElem?_eq_some_iff.mp e).1]
  exact e
theorem Wd.rv (w : Wd K ρ h H) (x : Xt ρ H ρ' H') {v : V} {d : D} (r : RV K ρ H v d) : RV K ρ' H' v d := RV.mono (w.tups x) x.get d v r
theorem Wd.rvs (w : Wd K ρ h H) (x : Xt ρ H ρ' H') {v : List V} {d : List D} (r : RVs K ρ H v d) : RVs K ρ' H' v d := RVs.mono (w.tups x) x.get d v r
theorem RVs.len : ∀ {xs : List D} {vs : List V}, RVs K ρ H vs xs → vs.length = xs.length
  | [], vs, e => by cases e; rfl
  | x :: xs, vs, ⟨v, r, e, _, s⟩ => by rw [e]; simp [RVs.len s]
theorem RVs.get : ∀ {xs : List D} {vs : List V} {i : Nat} {d : D}, RVs K ρ H vs xs → xs[i]? = some d → ∃ v, vs[i]? = some v ∧ RV K ρ H v d
  | [], vs, i, d, _, e => by simp at e
  | x :: xs, vs, 0, d, ⟨v, r, e1, q, s⟩, e => by
    have e' : x = d := by simpa using e
    exact ⟨v, by rw [e1]; rfl, e' ▸ q⟩
  | x :: xs, vs, i + 1, d, ⟨v, r, e1, q, s⟩, e => by
    obtain ⟨u, a, b⟩ := RVs.get (i := i) s (by simpa using e)
    exact ⟨u, by rw [e1]; simpa using a, b⟩
theorem RVs.snoc : ∀ {xs : List D} {vs : List V} {x : D} {v : V}, RVs K ρ H vs xs → RV K ρ H v x → RVs K ρ H (vs ++ [v]) (xs ++ [x])
  | [], vs, x, v, r, q => by
    cases r
    exact ⟨v, [], rfl, q, rfl⟩
  | y :: xs, vs, x, v, ⟨u, us, e, q1, r⟩, q => ⟨u, us ++ [v], by rw [e]; rfl, q1, RVs.snoc r q⟩
theorem RVs.rev : ∀ {xs : List D} {vs : List V}, RVs K ρ H vs xs → RVs K ρ H vs.reverse xs.reverse
  | [], vs, r => by
    cases r
    exact rfl
  | x :: xs, vs, ⟨u, us, e, q1, r⟩ => by
    subst e
    rw [List.reverse_cons, List.reverse_cons]
    exact RVs.snoc (RVs.rev r) q1
theorem RVs.getD' : ∀ {xs : List D} {vs : List V} {i : Nat} {v : V}, RVs K ρ H vs xs → vs[i]? = some v → ∃ d, xs[i]? = some d ∧ RV K ρ H v d := fun {xs vs i v} r e => by
  have hl : i < xs.length := by rw [← r.len]; exact (List.getElem?_eq_some_iff.mp e).1
  obtain ⟨u, a, b⟩ := r.get (List.getElem?_eq_getElem hl)
  rw [e] at a; cases a
  exact ⟨_, List.getElem?_eq_getElem hl, b⟩
theorem RVs.append : ∀ {xs ys : List D} {vs ws : List V}, RVs K ρ H vs xs → RVs K ρ H ws ys → RVs K ρ H (vs ++ ws) (xs ++ ys)
  | [], ys, vs, ws, e, q => by cases e; exact q
  | x :: xs, ys, vs, ws, ⟨v, r, e, p, s⟩, q => ⟨v, r ++ ws, by rw [e]; rfl, p, RVs.append s q⟩
theorem RVs.one {d : D} {v : V} (r : RV K ρ H v d) : RVs K ρ H [v] [d] := ⟨v, [], rfl, r, rfl⟩
theorem RVs.set : ∀ {xs : List D} {vs : List V} {v : V} {d : D} (i : Nat), RVs K ρ H vs xs → RV K ρ H v d → RVs K ρ H (vs.set i v) (xs.set i d)
  | [], vs, v, d, i, e, _ => by cases e; exact rfl
  | x :: xs, vs, v, d, 0, ⟨u, r, e, p, s⟩, q => ⟨v, r, by rw [e]; rfl, q, s⟩
  | x :: xs, vs, v, d, i + 1, ⟨u, r, e, p, s⟩, q => ⟨u, r.set i v, by rw [e]; rfl, p, RVs.set i s q⟩
theorem RVs.take : ∀ {xs : List D} {vs : List V} (n : Nat), RVs K ρ H vs xs → RVs K ρ H (vs.take n) (xs.take n)
  | xs, vs, 0, _ => by simp; exact rfl
  | [], vs, n + 1, e => by cases e; exact rfl
  | x :: xs, vs, n + 1, ⟨v, r, e, p, s⟩ => ⟨v, r.take n, by rw [e]; rfl, p, RVs.take n s⟩
theorem RVs.drop : ∀ {xs : List D} {vs : List V} (n : Nat), RVs K ρ H vs xs → RVs K ρ H (vs.drop n) (xs.drop n)
  | xs, vs, 0, e => e
  | [], vs, n + 1, e => by cases e; exact rfl
  | x :: xs, vs, n + 1, ⟨v, r, e, p, s⟩ => by rw [e]; exact RVs.drop n s
theorem RVs.reverse : ∀ {xs : List D} {vs : List V}, RVs K ρ H vs xs → RVs K ρ H vs.reverse xs.reverse
  | [], vs, e => by cases e; exact rfl
  | x :: xs, vs, ⟨v, r, e, p, s⟩ => by
    rw [e, List.reverse_cons, List.reverse_cons]
    exact (RVs.reverse s).append (RVs.one p)
theorem RVs.dropLast {xs : List D} {vs : List V} (r : RVs K ρ H vs xs) : RVs K ρ H vs.dropLast xs.dropLast := by
  rw [List.dropLast_eq_take, List.dropLast_eq_take, r.len]
  exact r.take _
theorem RVs.rep {xs : List D} {vs : List V} (r : RVs K ρ H vs xs) : ∀ k : Nat, RVs K ρ H (List.replicate k vs).flatten (List.replicate k xs).flatten
  | 0 => rfl
  | k + 1 => by
    rw [List.replicate_succ, List.replicate_succ, List.flatten_cons, List.flatten_cons]
    exact r.append (RVs.rep r k)
theorem RVs.nil_iff {xs : List D} {vs : List V} (r : RVs K ρ H vs xs) : vs = [] ↔ xs = [] := by
  rw [← List.length_eq_zero_iff, ← List.length_eq_zero_iff, r.len]
theorem RVs.map_int {ns : List Int} : ∀ {xs : List D} {vs : List V}, RVs K ρ H vs xs → intsOf xs = some ns → vs = ns.map V.int := by
  intro xs
  induction xs generalizing ns with
  | nil => intro vs e q; cases e; simp [intsOf] at q; subst q; rfl
  | cons x xs ih =>
    rintro vs ⟨v, r, e, p, s⟩ q
    cases x with
    | int i =>
      simp only [intsOf, Option.map_eq_some_iff] at q
      obtain ⟨ms, q1, q2⟩ := q
      have p' : v = .int i := p
      rw [e, ih s q1, p', ← q2]; rfl
    | _ => simp [intsOf] at q
theorem RVs.map_bl {bs : List Bool} : ∀ {xs : List D} {vs : List V}, RVs K ρ H vs xs → boolsOf xs = some bs → vs = bs.map V.bl := by
  intro xs
  induction xs generalizing bs with
  | nil => intro vs e q; cases e; simp [boolsOf] at q; subst q; rfl
  | cons x xs ih =>
    rintro vs ⟨v, r, e, p, s⟩ q
    cases x with
    | bl i =>
      simp only [boolsOf, Option.map_eq_some_iff] at q
      obtain ⟨ms, q1, q2⟩ := q
      have p' : v = .bl i := p
      rw [e, ih s q1, p', ← q2]; rfl
    | _ => simp [boolsOf] at q
theorem RVs.of_ints : ∀ (ns : List Int), RVs K ρ H (ns.map V.int) (ns.map D.int)
  | [] => rfl
  | n :: r => ⟨_, _, rfl, rfl, RVs.of_ints r⟩

/-! ### lists of the heap -/
theorem rd_lst (w : Wd K ρ h H) {n : Nat} {xs : List D} {v : V} (r : RV K ρ H v (.ref n)) (e : rdLst h n = some xs) : ∃ a vs, v = .ref a ∧ ρ[n]? = some a ∧ SqL K H a vs ∧ RVs K ρ H vs xs := by
  obtain ⟨a, ev, ea⟩ := r
  unfold rdLst at e
  split at e
  · rename_i ys q; cases e
    obtain ⟨vs, e1, e2⟩ := w.obj n _ a q ea
    exact ⟨a, vs, ev, ea, .inl (.inl e1), e2⟩
  · rename_i ys q; cases e
    obtain ⟨o, vs, e1, e2⟩ := w.obj n _ a q ea
    exact ⟨a, vs, ev, ea, .inl (.inr ⟨o, e1⟩), e2⟩
  · cases e
theorem rd_tpl (w : Wd K ρ h H) {n : Nat} {xs : List D} {v : V} (r : RV K ρ H v (.ref n)) (e : rdTpl h n = some xs) : ∃ a o vs, v = .ref a ∧ ρ[n]? = some a ∧ H a = some (.frz o (.tup vs)) ∧ o.dict = none ∧ RVs K ρ H vs xs := by
  obtain ⟨a, ev, ea⟩ := r
  unfold rdTpl at e
  split at e
  · rename_i ys q; cases e
    obtain ⟨o, vs, e1, e2, e3⟩ := w.obj n _ a q ea
    exact ⟨a, o, vs, ev, ea, e1, e2, e3⟩
  · cases e
theorem is_lst (w : Wd K ρ h H) {n : Nat} {xs : List D} {v : V} (r : RV K ρ H v (.ref n)) (e : isLst h n = some xs) : ∃ a vs, v = .ref a ∧ ρ[n]? = some a ∧ h[n]? = some (.lst xs) ∧ H a = some (.lst vs) ∧ RVs K ρ H vs xs := by
  obtain ⟨a, ev, ea⟩ := r
  unfold isLst at e
  split at e
  · rename_i ys q; cases e
    obtain ⟨vs, e1, e2⟩ := w.obj n _ a q ea
    exact ⟨a, vs, ev, ea, q, e1, e2⟩
  · cases e
/-- a list or a tuple -/
theorem seq_of (w : Wd K ρ h H) {d : D} {xs : List D} {v : V} (r : RV K ρ H v d) (e : seqOf h d = some xs) : ∃ a vs, v = .ref a ∧ (SqL K H a vs ∨ SqT K H a vs) ∧ RVs K ρ H vs xs := by
  cases d with
  | tup ys =>
    simp only [seqOf, Option.some.injEq] at e; subst e
    obtain ⟨a, vs, e1, e2, e3⟩ := r
    exact ⟨a, vs, e1, .inr (.inl (.inl e2)), e3⟩
  | ref n =>
    obtain ⟨a, vs, e1, _, e2, e3⟩ := rd_lst w r e
    exact ⟨a, vs, e1, .inl e2, e3⟩
  | _ => simp [seqOf] at e
theorem TS'.upd {p : Addr} {o : HO} (n : H p = none) : TS' K H (upd H p o) := by
  intro a vs q
  rw [upd_ne (ne_of_none q n)]; exact q
theorem OR.mono (t : TS' K H H') (p : ∀ (n : Nat) a, ρ[n]? = some a → ρ'[n]? = some a) {a : Addr} {o : O} (e : H' a = H a) (r : OR K ρ H a o) : OR K ρ' H' a o := by
  cases o with
  | lst xs => obtain ⟨vs, e1, r⟩ := r; exact ⟨vs, by rw [e]; exact e1, RVs.mono t p _ _ r⟩
  | ro xs => obtain ⟨u, vs, e1, r⟩ := r; exact ⟨u, vs, by rw [e]; exact e1, RVs.mono t p _ _ r⟩
  | dct lk t kvs =>
    cases t with
    | false => obtain ⟨ws, e1, e2, r⟩ := r; exact ⟨ws, by rw [e]; exact e1, e2, RVs.mono ‹_› p _ _ r⟩
    | true => obtain ⟨ws, e1, e2, r⟩ := r; exact ⟨ws, by rw [e]; exact e1, e2, RVs.mono ‹_› p _ _ r⟩
  | tpl xs => obtain ⟨u, vs, e1, d, r⟩ := r; exact ⟨u, vs, by rw [e]; exact e1, d, RVs.mono ‹_› p _ _ r⟩
/-- a new object that we do not name -/
theorem xt_new {p : Addr} {o : HO} (n : H p = none) : Xt ρ H ρ (upd H p o) :=
  ⟨⟨[], by simp, by simp⟩, fun a u e _ => by rw [upd_ne (ne_of_none e n)]; exact e, fun a e => by
    by_cases q : a = p
    · rw [q, upd_same]; simp
    · rw [upd_ne q]; exact e, fun a o u e => by rw [upd_ne (ne_of_none e n)]; exact e⟩
theorem Wd.new (w : Wd K ρ h H) {p : Addr} {o : HO} (n : H p = none) : Wd K ρ h (upd H p o) := by
  refine ⟨w.len, w.nd, fun i u a e1 e2 => ?_⟩
  have hne : a ≠ p := fun q => w.there (mem_of_get e2) (by rw [q]; exact n)
  exact OR.mono (TS'.upd n) (fun _ _ e => e) (upd_ne hne) (w.obj i u a e1 e2)
/-- a new object of ours -/
theorem Wd.allocO (w : Wd K ρ h H) {p : Addr} {u : HO} {o : O} (n : H p = none) (r : OR K (ρ ++ [p]) (upd H p u) p o) :
    Xt ρ H (ρ ++ [p]) (upd H p u) ∧ Wd K (ρ ++ [p]) (h ++ [o]) (upd H p u) ∧ RV K (ρ ++ [p]) (upd H p u) (.ref p) (.ref h.length) := by
  have pn : p ∉ ρ := fun m => w.there m n
  have pre : ∀ (i : Nat) a, ρ[i]? = some a → (ρ ++ [p])[i]? = some a := fun i a e => by
    rw [List.getElem?_append_left (List.getElem?_eq_some_iff.mp e).1]; exact e
  refine ⟨⟨⟨[p], rfl, fun a m => by simp at m; rw [m]; exact n⟩, (xt_new (ρ := ρ) n).frame, (xt_new (ρ := ρ) n).keep, (xt_new (ρ := ρ) n).frz⟩, ⟨by simp [w.len], ?_, fun i o' a e1 e2 => ?_⟩, ⟨p, rfl, ?_⟩⟩
  · exact List.nodup_append.mpr ⟨w.nd, by simp, fun a m b mb e => by simp at mb; exact pn (by rw [← mb, ← e]; exact m)⟩
  · by_cases hi : i < h.length
    · rw [List.getElem?_append_left hi] at e1
      rw [List.getElem?_append_left (by rw [w.len]; exact hi)] at e2
      have hne : a ≠ p := fun q => pn (q ▸ mem_of_get e2)
      exact OR.mono (TS'.upd n) pre (upd_ne hne) (w.obj i o' a e1 e2)
    · have hi2 : i = h.length := by
        have := (List.getElem?_eq_some_iff.mp e1).1
        simp at this; omega
      subst hi2
      rw [List.getElem?_append_right (Nat.le_refl _)] at e1
      rw [← w.len, List.getElem?_append_right (Nat.le_refl _)] at e2
      simp at e1 e2
      subst e1; subst e2
      exact r
  · rw [← w.len, List.getElem?_append_right (Nat.le_refl _)]; simp
theorem pre_app {ρ τ : List Addr} (i : Nat) (a : Addr) (e : ρ[i]? = some a) : (ρ ++ τ)[i]? = some a := by
  rw [List.getElem?_append_left (List.getElem?_eq_some_iff.mp e).1]; exact e
/-- a new list -/
theorem Wd.alloc (w : Wd K ρ h H) {p : Addr} {vs : List V} {xs : List D} (n : H p = none) (r : RVs K ρ H vs xs) :
    Xt ρ H (ρ ++ [p]) (upd H p (.lst vs)) ∧ Wd K (ρ ++ [p]) (h ++ [.lst xs]) (upd H p (.lst vs)) ∧ RV K (ρ ++ [p]) (upd H p (.lst vs)) (.ref p) (.ref h.length) :=
  w.allocO n ⟨vs, upd_same, RVs.mono (TS'.upd n) pre_app xs vs r⟩
/-- what may be written -/
def MutO : HO → Prop
  | .lst _ => True
  | .dK _ => True
  | .dT _ => True
  | _ => False
theorem TS'.wr {a : Addr} {u u' : HO} (e : H a = some u) (m : MutO u) : TS' K H (L2.upd H a u') := by
  intro b ws q
  have : b ≠ a := fun z => by rw [z, e] at q; cases q; exact m
  rw [upd_ne this]; exact q
/-- an object of ours is changed -/
theorem Wd.writeO (w : Wd K ρ h H) {n : Nat} {a : Addr} {u u' : HO} {o : O} (ea : ρ[n]? = some a) (e : H a = some u) (m : MutO u) (r : OR K ρ (upd H a u') a o) :
    Xt ρ H ρ (upd H a u') ∧ Wd K ρ (setH h n o) (upd H a u') := by
  have t : TS' K H (upd H a u') := TS'.wr e m
  refine ⟨⟨⟨[], by simp, by simp⟩, fun b v q mb => ?_, fun b q => ?_, fun b o v q => ?_⟩, ⟨by simp [setH, w.len], w.nd, fun i o' b e1 e2 => ?_⟩⟩
  · have : b ≠ a := fun z => mb (z ▸ mem_of_get ea)
    rw [upd_ne this]; exact q
  · by_cases z : b = a
    · rw [z, upd_same]; simp
    · rw [upd_ne z]; exact q
  · have : b ≠ a := fun z => by rw [z, e] at q; cases q; exact m
    rw [upd_ne this]; exact q
  · by_cases hi : i = n
    · subst hi
      rw [ea] at e2; cases e2
      have hl : i < h.length := by
        rw [← w.len]; exact (List.getElem?_eq_some_iff.mp ea).1
      rw [setH, List.getElem?_set_self hl] at e1; cases e1
      exact r
    · rw [setH, List.getElem?_set_ne (Ne.symm hi)] at e1
      have hne : b ≠ a := fun z => hi (nd_ix w.nd e2 (z ▸ ea))
      exact OR.mono t (fun _ _ q => q) (upd_ne hne) (w.obj i o' b e1 e2)
/-- a list is changed -/
theorem Wd.write (w : Wd K ρ h H) {n : Nat} {a : Addr} {vs vs' : List V} {xs' : List D} (ea : ρ[n]? = some a) (e : H a = some (.lst vs)) (r : RVs K ρ H vs' xs') :
    Xt ρ H ρ (upd H a (.lst vs')) ∧ Wd K ρ (setH h n (.lst xs')) (upd H a (.lst vs')) :=
  w.writeO ea e trivial ⟨vs', upd_same, RVs.mono (TS'.wr e trivial) (fun _ _ q => q) xs' vs' r⟩

/-! ### equality of heaps, forgetting -/
mutual
theorem D.beq_eq : ∀ (x y : D), x.beq y = true → x = y
  | .non, y, e => by cases y <;> first | rfl | simp [D.beq] at e
  | .bl a, y, e => by cases y <;> first | (simp [D.beq] at e; rw [e]) | simp [D.beq] at e
  | .int a, y, e => by cases y <;> first | (simp [D.beq] at e; rw [e]) | simp [D.beq] at e
  | .str a, y, e => by cases y <;> first | (simp [D.beq] at e; rw [e]) | simp [D.beq] at e
  | .ref a, y, e => by cases y <;> first | (simp [D.beq] at e; rw [e]) | simp [D.beq] at e
  | .tup a, y, e => by
    cases y with
    | tup b => rw [D.beqL_eq a b (by simpa [D.beq] using e)]
    | _ => simp [D.beq] at e
theorem D.beqL_eq : ∀ (x y : List D), D.beqL x y = true → x = y
  | [], y, e => by cases y <;> first | rfl | simp [D.beqL] at e
  | a :: x, y, e => by
    cases y with
    | nil => simp [D.beqL] at e
    | cons b y =>
      have e' : a.beq b = true ∧ D.beqL x y = true := by simpa [D.beqL] using e
      rw [D.beq_eq a b e'.1, D.beqL_eq x y e'.2]
end
theorem D.beqK_eq : ∀ (x y : List (D × D)), D.beqK x y = true → x = y
  | [], y, e => by cases y <;> first | rfl | simp [D.beqK] at e
  | (a1, a2) :: x, y, e => by
    cases y with
    | nil => simp [D.beqK] at e
    | cons b y =>
      obtain ⟨b1, b2⟩ := b
      have e' : (a1.beq b1 = true ∧ a2.beq b2 = true) ∧ D.beqK x y = true := by simpa [D.beqK] using e
      rw [D.beq_eq a1 b1 e'.1.1, D.beq_eq a2 b2 e'.1.2, D.beqK_eq x y e'.2]
theorem O.beq_eq (x y : O) (e : x.beq y = true) : x = y := by
  cases x with
  | lst a => cases y <;> simp only [O.beq] at e <;> first | (rw [D.beqL_eq _ _ e]) | cases e
  | ro a => cases y <;> simp only [O.beq] at e <;> first | (rw [D.beqL_eq _ _ e]) | cases e
  | tpl a => cases y <;> simp only [O.beq] at e <;> first | (rw [D.beqL_eq _ _ e]) | cases e
  | dct l t a =>
    cases y with
    | dct l' t' b =>
      simp only [O.beq, Bool.and_eq_true, beq_iff_eq] at e
      rw [e.1.1, e.1.2, D.beqK_eq _ _ e.2]
    | _ => simp only [O.beq] at e <;> cases e
theorem beqH_eq : ∀ (x y : List O), beqH x y = true → x = y
  | [], y, e => by cases y <;> first | rfl | simp [beqH] at e
  | a :: x, y, e => by
    cases y with
    | nil => simp [beqH] at e
    | cons b y =>
      have e' : a.beq b = true ∧ beqH x y = true := by simpa [beqH] using e
      rw [O.beq_eq a b e'.1, beqH_eq x y e'.2]
/-- what was ahead may be told again where it did not change -/
theorem Wd.back (w : Wd K ρ h H) (x : Xt ρ H ρ' H') (w' : Wd K ρ' h' H') (e : h'.take h.length = h) : Wd K ρ h H' := by
  have x0 := x
  obtain ⟨⟨τ, e1, _⟩, f, k, _⟩ := x
  refine ⟨w.len, w.nd, fun i o a e2 e3 => ?_⟩
  have hi : i < h.length := (List.getElem?_eq_some_iff.mp e2).1
  have e4 : h'[i]? = some o := by
    rw [← e2, ← e]
    simp [List.getElem?_take, hi]
  have e5 : ρ'[i]? = some a := by
    rw [e1, List.getElem?_append_left (by rw [w.len]; exact hi)]; exact e3
  have r := w'.obj i o a e4 e5
  -- the references within lie below
  have r0 := w.obj i o a e2 e3
  have t := w.tups x0
  have low : ∀ (xs : List D) (vs us : List V), RVs K ρ H us xs → RVs K ρ' H' vs xs → RVs K ρ H' vs xs := by
    have both : (∀ (d : D) (v u : V), RV K ρ H u d → RV K ρ' H' v d → RV K ρ H' v d) := by
      intro d
      exact D.rec (motive_1 := fun d => ∀ (v u : V), RV K ρ H u d → RV K ρ' H' v d → RV K ρ H' v d)
        (motive_2 := fun xs => ∀ (vs us : List V), RVs K ρ H us xs → RVs K ρ' H' vs xs → RVs K ρ H' vs xs)
        (fun v u _ r => r) (fun b v u _ r => r) (fun i v u _ r => r) (fun s v u _ r => r)
        (fun xs ih v u ⟨a, us, _, _, r1⟩ ⟨b, vs, ev, q, r2⟩ => ⟨b, vs, ev, q, ih vs us r1 r2⟩)
        (fun n v u ⟨a, _, q1⟩ ⟨b, ev, q2⟩ => ⟨b, ev, by
          rw [e1, List.getElem?_append_left (List.getElem?_eq_some_iff.mp q1).1] at q2
          exact q2⟩)
        (fun vs us _ r => r)
        (fun x xs ih1 ih2 vs us ⟨u, ur, _, p1, s1⟩ ⟨v, vr, ev, p2, s2⟩ => ⟨v, vr, ev, ih1 v u p1 p2, ih2 vr ur s1 s2⟩) d
    intro xs
    induction xs with
    | nil => exact fun vs us _ r => r
    | cons x xs ih => exact fun vs us ⟨u, ur, _, p1, s1⟩ ⟨v, vr, ev, p2, s2⟩ => ⟨v, vr, ev, both x v u p1 p2, ih vr ur s1 s2⟩
  cases o with
  | lst xs =>
    obtain ⟨vs, q1, q2⟩ := r
    obtain ⟨us, _, p2⟩ := r0
    exact ⟨vs, q1, low xs vs us p2 q2⟩
  | ro xs =>
    obtain ⟨u, vs, q1, q2⟩ := r
    obtain ⟨_, us, _, p2⟩ := r0
    exact ⟨u, vs, q1, low xs vs us p2 q2⟩
  | dct lk t kvs =>
    cases t with
    | false =>
      obtain ⟨vs, q1, q3, q2⟩ := r
      obtain ⟨us, _, _, p2⟩ := r0
      exact ⟨vs, q1, q3, low _ _ _ p2 q2⟩
    | true =>
      obtain ⟨vs, q1, q3, q2⟩ := r
      obtain ⟨us, _, _, p2⟩ := r0
      exact ⟨vs, q1, q3, low _ _ _ p2 q2⟩
  | tpl xs =>
    obtain ⟨u, vs, q1, q3, q2⟩ := r
    obtain ⟨_, us, _, _, p2⟩ := r0
    exact ⟨u, vs, q1, q3, low xs vs us p2 q2⟩
theorem Xt.cut (x : Xt ρ H ρ' H') : Xt ρ H ρ H' := ⟨⟨[], by simp, by simp⟩, x.frame, x.keep, x.frz⟩
/-- behind gc: some naming of the objects -/
theorem gc_ok (w : Wd K ρ h H) (x : Xt ρ H ρ' H') (w' : Wd K ρ' h' H') {v : V} {d : D} (r : RV K ρ' H' v d) : ∃ ρ'', Xt ρ H ρ'' H' ∧ Wd K ρ'' (gc h d h') H' ∧ RV K ρ'' H' v d := by
  unfold gc
  split
  · exact ⟨ρ', x, w', r⟩
  · split
    · rename_i q
      simp only [Bool.and_eq_true] at q
      have e := beqH_eq _ _ q.2
      exact ⟨ρ, x.cut, w.back x w' e, RV.any TS'.refl d v q.1 r⟩
    · exact ⟨ρ', x, w', r⟩
/-! ### dicts -/
theorem flatK_kD : ∀ {d : D}, flatK d = true → ∃ k : Key, kD k = d
  | .int i, _ => ⟨.inl i, rfl⟩
  | .str s, _ => ⟨.inr s, rfl⟩
theorem flatK_all : ∀ {xs : List D}, xs.all flatK = true → ∃ ks : List Key, ks.map kD = xs
  | [], _ => ⟨[], rfl⟩
  | x :: xs, h => by
    have h' : flatK x = true ∧ xs.all flatK = true := by simpa using h
    obtain ⟨k, e⟩ := flatK_kD h'.1
    obtain ⟨ks, e2⟩ := flatK_all h'.2
    exact ⟨k :: ks, by rw [List.map_cons, e, e2]⟩
theorem kD_inj {k j : Key} (e : kD k = kD j) : k = j := by
  cases k <;> cases j <;> cases e <;> rfl
theorem kDs_inj : ∀ {ks js : List Key}, ks.map kD = js.map kD → ks = js
  | [], [], _ => rfl
  | k :: ks, j :: js, e => by
    simp only [List.map_cons, List.cons.injEq] at e
    rw [kD_inj e.1, kDs_inj e.2]
/-- the keys of a kind, as values -/
def keyT (ks : List Key) : D := .tup (ks.map kD)
theorem keyT_inj {ks js : List Key} (e : keyT ks = keyT js) : ks = js := kDs_inj (D.tup.inj e)
theorem okK_f {k : D} (h : okK false k = true) : ∃ j : Key, kD j = k := by
  cases k <;> first | (simp [okK] at h; done) | exact flatK_kD rfl
theorem okK_t {k : D} (h : okK true k = true) : ∃ js : List Key, keyT js = k := by
  cases k <;> first | (simp [okK] at h; done) | skip
  obtain ⟨ks, e⟩ := flatK_all (by simpa [okK] using h)
  exact ⟨ks, by rw [keyT, e]⟩
theorem kD_rv {v : V} {k : Key} (r : RV K ρ H v (kD k)) : v = kV k := by
  cases k <;> exact r
theorem kV_rv (k : Key) : RV K ρ H (kV k) (kD k) := by
  cases k <;> exact rfl
theorem kVs_rv : ∀ ks : List Key, RVs K ρ H (ks.map kV) (ks.map kD)
  | [] => rfl
  | k :: ks => ⟨kV k, ks.map kV, rfl, kV_rv k, kVs_rv ks⟩
theorem kDs_rv : ∀ {ks : List Key} {vs : List V}, RVs K ρ H vs (ks.map kD) → vs = ks.map kV
  | [], vs, r => r
  | k :: ks, vs, ⟨v, us, e, r, s⟩ => by rw [e, kD_rv r, kDs_rv s]; rfl
theorem keyT_rv {v : V} {ks : List Key} (r : RV K ρ H v (keyT ks)) : ∃ b, v = .ref b ∧ H b = some (.tup (ks.map kV)) := by
  obtain ⟨b, vs, e, q, s⟩ := r
  exact ⟨b, e, by rw [q, kDs_rv s]⟩
/-- an assoc list of the heap is that of the evaluator; f embeds the keys -/
def DR {κ : Type} (K : PySem.W.Frag) (ρ : List Addr) (H : Hp) (f : κ → D) (ws : List (κ × V)) (kvs : List (D × D)) : Prop := ws.map (fun p => f p.1) = kvs.map (·.1) ∧ RVs K ρ H (ws.map (·.2)) (kvs.map (·.2))
section
variable {κ : Type} [DecidableEq κ] {f : κ → D}
theorem beq_iff {x y : D} : x.beq y = true ↔ x = y := ⟨D.beq_eq x y, fun e => by
  subst e
  exact D.rec (motive_1 := fun x => x.beq x = true) (motive_2 := fun xs => D.beqL xs xs = true) rfl (fun b => by simp [D.beq]) (fun i => by simp [D.beq]) (fun s => by simp [D.beq]) (fun xs ih => by simpa [D.beq] using ih) (fun n => by simp [D.beq]) rfl (fun x xs h1 h2 => by simp [D.beqL, h1, h2]) x⟩
theorem DR.nil : DR K ρ H f [] [] := ⟨rfl, rfl⟩
theorem DR.len {ws : List (κ × V)} {kvs : List (D × D)} (r : DR K ρ H f ws kvs) : ws.length = kvs.length := by
  have := congrArg List.length r.1
  simpa using this
theorem DR.cons {q : κ × V} {ws : List (κ × V)} {p : D × D} {kvs : List (D × D)} : DR K ρ H f (q :: ws) (p :: kvs) ↔ f q.1 = p.1 ∧ RV K ρ H q.2 p.2 ∧ DR K ρ H f ws kvs := by
  constructor
  · rintro ⟨a, v, r, e, b, c⟩
    simp only [List.map_cons, List.cons.injEq] at a e
    refine ⟨a.1, by rw [e.1]; exact b, a.2, by rw [e.2]; exact c⟩
  · rintro ⟨a, b, c, d⟩
    exact ⟨by simp [a, c], q.2, ws.map (·.2), rfl, b, d⟩
theorem dGet_pos {p : D × D} {kvs : List (D × D)} {k : D} (e : p.1 = k) : dGet (p :: kvs) k = some p.2 := by
  unfold dGet
  rw [List.find?_cons, beq_iff.mpr e]; rfl
theorem dGet_neg {p : D × D} {kvs : List (D × D)} {k : D} (e : ¬ p.1 = k) : dGet (p :: kvs) k = dGet kvs k := by
  unfold dGet
  rw [List.find?_cons]
  have : p.1.beq k = false := by
    cases q : p.1.beq k with
    | false => rfl
    | true => exact absurd (beq_iff.mp q) e
  rw [this]
theorem DR.get (inj : ∀ a b, f a = f b → a = b) : ∀ {ws : List (κ × V)} {kvs : List (D × D)} (k : κ), DR K ρ H f ws kvs → (∃ v d, valV ws k = some v ∧ dGet kvs (f k) = some d ∧ RV K ρ H v d) ∨ (valV ws k = none ∧ dGet kvs (f k) = none)
  | [], [], k, _ => .inr ⟨rfl, rfl⟩
  | [], _ :: _, k, r => by cases r.1
  | _ :: _, [], k, r => by cases r.1
  | q :: ws, p :: kvs, k, r => by
    obtain ⟨a, b, c⟩ := DR.cons.mp r
    by_cases e : q.1 = k
    · refine .inl ⟨q.2, p.2, valV_pos e, ?_, b⟩
      exact dGet_pos (by rw [← a, e])
    · rw [valV_neg e, dGet_neg (by rw [← a]; exact fun z => e (inj _ _ z))]
      exact DR.get inj k c
theorem DR.anyK (inj : ∀ a b, f a = f b → a = b) : ∀ {ws : List (κ × V)} {kvs : List (D × D)} (k : κ), DR K ρ H f ws kvs → (ws.any fun kv => decide (kv.1 = k)) = kvs.any fun p => p.1.beq (f k)
  | [], [], k, _ => rfl
  | [], _ :: _, k, r => by cases r.1
  | _ :: _, [], k, r => by cases r.1
  | q :: ws, p :: kvs, k, r => by
    obtain ⟨a, b, c⟩ := DR.cons.mp r
    rw [List.any_cons, List.any_cons, DR.anyK inj k c]
    congr 1
    rw [Bool.eq_iff_iff, decide_eq_true_eq, beq_iff, ← a]
    exact ⟨fun e => by rw [e], fun e => inj _ _ e⟩
theorem DR.repl (inj : ∀ a b, f a = f b → a = b) {v : V} {d : D} (rd : RV K ρ H v d) : ∀ {ws : List (κ × V)} {kvs : List (D × D)} (k : κ), DR K ρ H f ws kvs →
    DR K ρ H f (ws.map fun kv => if kv.1 = k then (kv.1, v) else kv) (kvs.map fun p => if p.1.beq (f k) then (p.1, d) else p)
  | [], [], k, r => r
  | [], _ :: _, k, r => by cases r.1
  | _ :: _, [], k, r => by cases r.1
  | q :: ws, p :: kvs, k, r => by
    obtain ⟨a, b, c⟩ := DR.cons.mp r
    rw [List.map_cons, List.map_cons]
    refine DR.cons.mpr ?_
    by_cases e : q.1 = k
    · rw [if_pos e, if_pos (beq_iff.mpr (by rw [← a, e]))]
      exact ⟨a, rd, DR.repl inj rd k c⟩
    · rw [if_neg e, if_neg (fun z => e (inj _ _ (by rw [a]; exact beq_iff.mp z)))]
      exact ⟨a, b, DR.repl inj rd k c⟩
theorem DR.snoc {v : V} {d : D} {k : κ} (rd : RV K ρ H v d) {ws : List (κ × V)} {kvs : List (D × D)} (r : DR K ρ H f ws kvs) : DR K ρ H f (ws ++ [(k, v)]) (kvs ++ [(f k, d)]) := by
  refine ⟨by simp [r.1], ?_⟩
  rw [List.map_append, List.map_append]
  exact r.2.append (RVs.one rd)
theorem DR.put (inj : ∀ a b, f a = f b → a = b) {v : V} {d : D} (rd : RV K ρ H v d) {ws : List (κ × V)} {kvs : List (D × D)} (k : κ) (r : DR K ρ H f ws kvs) : DR K ρ H f (putK ws k v) (dPut kvs (f k) d) := by
  unfold putK dPut
  rw [DR.anyK inj k r]
  split
  · exact DR.repl inj rd k r
  · exact r.snoc rd
theorem DR.mono (t : TS' K H H') (p : ∀ (n : Nat) a, ρ[n]? = some a → ρ'[n]? = some a) {ws : List (κ × V)} {kvs : List (D × D)} (r : DR K ρ H f ws kvs) : DR K ρ' H' f ws kvs := ⟨r.1, RVs.mono t p _ _ r.2⟩
theorem DR.at {ws : List (κ × V)} {kvs : List (D × D)} (r : DR K ρ H f ws kvs) {i : Nat} {p : D × D} (e : kvs[i]? = some p) : ∃ k v, ws[i]? = some (k, v) ∧ f k = p.1 ∧ RV K ρ H v p.2 := by
  have hl : i < ws.length := by rw [r.len]; exact (List.getElem?_eq_some_iff.mp e).1
  have e1 : ws[i]? = some ws[i] := List.getElem?_eq_getElem hl
  have k1 := congrArg (·[i]?) r.1
  simp only [List.getElem?_map, e, e1, Option.map_some, Option.some.injEq] at k1
  obtain ⟨v, e2, rv⟩ := r.2.get (i := i) (d := p.2) (by rw [List.getElem?_map, e]; rfl)
  rw [List.getElem?_map, e1] at e2
  cases e2
  exact ⟨_, _, e1, k1, rv⟩
end
/-- a dict of ours, as it stands -/
theorem rd_dct (w : Wd K ρ h H) {n : Nat} {t : Bool} {kvs : List (D × D)} {v : V} (r : RV K ρ H v (.ref n)) (e : rdDct h n = some (t, kvs)) :
    ∃ a, v = .ref a ∧ ρ[n]? = some a ∧ ((t = false ∧ ∃ ws, Rd H a (.dK ws) ∧ DR K ρ H kD ws kvs) ∨ (t = true ∧ ∃ ws, Rd H a (.dT ws) ∧ DR K ρ H keyT ws kvs)) := by
  obtain ⟨a, ev, ea⟩ := r
  unfold rdDct at e
  split at e
  · rename_i lk t' kvs' q
    simp only [Option.some.injEq, Prod.mk.injEq] at e
    obtain ⟨e1, e2⟩ := e
    subst e1; subst e2
    refine ⟨a, ev, ea, ?_⟩
    have o := w.obj n _ a q ea
    cases t' with
    | false =>
      obtain ⟨ws, h1, h2, h3⟩ := o
      refine .inl ⟨rfl, ws, ?_, h2, h3⟩
      cases lk with
      | true => exact .inr h1
      | false => exact .inl h1
    | true =>
      obtain ⟨ws, h1, h2, h3⟩ := o
      refine .inr ⟨rfl, ws, ?_, h2, h3⟩
      cases lk with
      | true => exact .inr h1
      | false => exact .inl h1
  · cases e
theorem lk_dct (w : Wd K ρ h H) {n : Nat} {t : Bool} {kvs : List (D × D)} {v : V} (r : RV K ρ H v (.ref n)) (e : lkDct h n = some (t, kvs)) :
    ∃ a, v = .ref a ∧ ρ[n]? = some a ∧ ((t = false ∧ ∃ o ws, H a = some (.frz o (.dK ws)) ∧ DR K ρ H kD ws kvs) ∨ (t = true ∧ ∃ o ws, H a = some (.frz o (.dT ws)) ∧ DR K ρ H keyT ws kvs)) := by
  obtain ⟨a, ev, ea⟩ := r
  unfold lkDct at e
  split at e
  · rename_i t' kvs' q
    simp only [Option.some.injEq, Prod.mk.injEq] at e
    obtain ⟨e1, e2⟩ := e
    subst e1; subst e2
    refine ⟨a, ev, ea, ?_⟩
    have o := w.obj n _ a q ea
    cases t' with
    | false =>
      obtain ⟨ws, ⟨o, h1⟩, h2, h3⟩ := o
      exact .inl ⟨rfl, o, ws, h1, h2, h3⟩
    | true =>
      obtain ⟨ws, ⟨o, h1⟩, h2, h3⟩ := o
      exact .inr ⟨rfl, o, ws, h1, h2, h3⟩
  · cases e
theorem is_dct (w : Wd K ρ h H) {n : Nat} {t : Bool} {kvs : List (D × D)} {v : V} (r : RV K ρ H v (.ref n)) (e : isDct h n = some (t, kvs)) :
    ∃ a, v = .ref a ∧ ρ[n]? = some a ∧ ((t = false ∧ ∃ ws, H a = some (.dK ws) ∧ DR K ρ H kD ws kvs) ∨ (t = true ∧ ∃ ws, H a = some (.dT ws) ∧ DR K ρ H keyT ws kvs)) := by
  obtain ⟨a, ev, ea⟩ := r
  unfold isDct at e
  split at e
  · rename_i t' kvs' q
    simp only [Option.some.injEq, Prod.mk.injEq] at e
    obtain ⟨e1, e2⟩ := e
    subst e1; subst e2
    refine ⟨a, ev, ea, ?_⟩
    have o := w.obj n _ a q ea
    cases t' with
    | false =>
      obtain ⟨ws, h1, h2, h3⟩ := o
      exact .inl ⟨rfl, ws, h1, h2, h3⟩
    | true =>
      obtain ⟨ws, h1, h2, h3⟩ := o
      exact .inr ⟨rfl, ws, h1, h2, h3⟩
  · cases e
/-- what d[k] holds -/
theorem dget_at {a : Addr} {t : Bool} {kvs : List (D × D)} {k : D} {y : V} (q : (t = false ∧ ∃ ws, Rd H a (.dK ws) ∧ DR K ρ H kD ws kvs) ∨ (t = true ∧ ∃ ws, Rd H a (.dT ws) ∧ DR K ρ H keyT ws kvs)) (hk : okK t k = true) (r : RV K ρ H y k) :
    (∃ v d, DGet H a y (some v) ∧ dGet kvs k = some d ∧ RV K ρ H v d) ∨ (DGet H a y none ∧ dGet kvs k = none) := by
  rcases q with ⟨rfl, ws, e, dr⟩ | ⟨rfl, ws, e, dr⟩
  · obtain ⟨j, rfl⟩ := okK_f hk
    have ey := kD_rv r
    subst ey
    rcases dr.get (fun _ _ => kD_inj) j with ⟨v, d, h1, h2, h3⟩ | ⟨h1, h2⟩
    · exact .inl ⟨v, d, .inl ⟨ws, j, e, rfl, h1.symm⟩, h2, h3⟩
    · exact .inr ⟨.inl ⟨ws, j, e, rfl, h1.symm⟩, h2⟩
  · obtain ⟨js, rfl⟩ := okK_t hk
    obtain ⟨b, rfl, eb⟩ := keyT_rv r
    rcases dr.get (fun _ _ => keyT_inj) js with ⟨v, d, h1, h2, h3⟩ | ⟨h1, h2⟩
    · exact .inl ⟨v, d, .inr ⟨ws, js, b, e, rfl, eb, h1.symm⟩, h2, h3⟩
    · exact .inr ⟨.inr ⟨ws, js, b, e, rfl, eb, h1.symm⟩, h2⟩
/-- d[k] = v -/
theorem dput_at (w : Wd K ρ h H) {n : Nat} {a : Addr} {t : Bool} {kvs : List (D × D)} {k d : D} {y v : V} (ea : ρ[n]? = some a) (q : (t = false ∧ ∃ ws, H a = some (.dK ws) ∧ DR K ρ H kD ws kvs) ∨ (t = true ∧ ∃ ws, H a = some (.dT ws) ∧ DR K ρ H keyT ws kvs)) (hk : okK t k = true) (hl : kvs.length < sizeLine)
    (r : RV K ρ H y k) (rd : RV K ρ H v d) : ∃ H', DPut H a y v H' ∧ Xt ρ H ρ H' ∧ Wd K ρ (setH h n (.dct false t (dPut kvs k d))) H' := by
  rcases q with ⟨rfl, ws, e, dr⟩ | ⟨rfl, ws, e, dr⟩
  · obtain ⟨j, rfl⟩ := okK_f hk
    have ey := kD_rv r
    subst ey
    obtain ⟨x1, w1⟩ := w.writeO (u' := .dK (putK ws j v)) (o := .dct false false (dPut kvs (kD j) d)) ea e trivial ⟨_, upd_same, DR.mono (TS'.wr e trivial) (fun _ _ q => q) (dr.put (fun _ _ => kD_inj) rd j)⟩
    exact ⟨_, .inl ⟨ws, j, e, rfl, by rw [dr.len]; exact hl, rfl⟩, x1, w1⟩
  · obtain ⟨js, rfl⟩ := okK_t hk
    obtain ⟨b, rfl, eb⟩ := keyT_rv r
    obtain ⟨x1, w1⟩ := w.writeO (u' := .dT (putK ws js v)) (o := .dct false true (dPut kvs (keyT js) d)) ea e trivial ⟨_, upd_same, DR.mono (TS'.wr e trivial) (fun _ _ q => q) (dr.put (fun _ _ => keyT_inj) rd js)⟩
    exact ⟨_, .inr ⟨ws, js, b, e, rfl, eb, by rw [dr.len]; exact hl, rfl⟩, x1, w1⟩
end Mini
end

section
/-! Mini: the evaluator's expressions are the model's (own work). -/
namespace Mini
open PySem PySem.Spec PyProof.Rows L2

/-! ### what is wanted of an end -/
/-- the fields of an exception's own dict -/
def XF (K : PySem.W.Frag) (C : List Cl) (ρ : List Addr) (H : Hp) (c : Nat) (fs : List D) (fl : List (Str × V)) : Prop :=
  ∃ k : Cl, C[c]? = some k ∧ ∀ x d, (k.flds.zip fs).lookup x = some d → ∃ v, fl.lookup x = some v ∧ RV K ρ H v d
def ExP (K : PySem.W.Frag) (C : List Cl) (ca : Nat → Addr) (ρ : List Addr) (H : Hp) (Wc : Value → Option Addr → Hp → Prop) (c : Nat) (fs : List D) (h' : List O) : Prop :=
  ∀ ρ' H' dd fl, Xt ρ H ρ' H' → Wd K ρ' h' H' → H' dd = some (.xd fl) → XF K C ρ' H' c fs fl → Wc (.ref (ca c)) (some dd) H'
/-- the context that stands still -/
structure Ct where
  K : PySem.W.Frag
  C : List Cl
  ca : Nat → Addr
abbrev Rel (α β : Type) := List Addr → Hp → β → α → Prop
def Post (Z : Ct) {α β : Type} (ρ : List Addr) (H : Hp) (rel : Rel α β) (Wc : Value → Option Addr → Hp → Prop) (Q : β → Hp → Prop) : Option (R α) → Prop
  | none => False
  | some (.ok a h') => ∀ ρ' H' b, Xt ρ H ρ' H' → Wd Z.K ρ' h' H' → rel ρ' H' b a → Q b H'
  | some (.exc c fs h') => ExP Z.K Z.C Z.ca ρ H Wc c fs h'
section
variable {Z : Ct} {α β γ δ : Type} {ρ ρ1 : List Addr} {H H1 : Hp} {rel : Rel α β} {rel2 : Rel γ δ} {Wc : Value → Option Addr → Hp → Prop} {Q : β → Hp → Prop} {Q2 : δ → Hp → Prop}
theorem ExP.fwd {c : Nat} {fs : List D} {h' : List O} (x : Xt ρ H ρ1 H1) (p : ExP Z.K Z.C Z.ca ρ H Wc c fs h') : ExP Z.K Z.C Z.ca ρ1 H1 Wc c fs h' :=
  fun ρ' H' dd fl x' w e f => p ρ' H' dd fl (x.trans x') w e f
theorem Post.fwd {r : Option (R α)} (x : Xt ρ H ρ1 H1) (p : Post Z ρ H rel Wc Q r) : Post Z ρ1 H1 rel Wc Q r := by
  cases r with
  | none => exact p
  | some r =>
    cases r with
    | ok a h' => exact fun ρ' H' b x' w q => p ρ' H' b (x.trans x') w q
    | exc c fs h' => exact ExP.fwd x p
theorem Post.ok {a : α} {h' : List O} (p : Post Z ρ H rel Wc Q (some (.ok a h'))) {ρ' H' b} (x : Xt ρ H ρ' H') (w : Wd Z.K ρ' h' H') (q : rel ρ' H' b a) : Q b H' := p ρ' H' b x w q
/-- the first of two in a row -/
theorem Post.bnd {m : Option (R α)} {f : α → List O → Option (R γ)} {Q1 : β → Hp → Prop} (p : Post Z ρ H rel2 Wc Q2 (Mini.bnd m f))
    (k : ∀ a h1 ρ1 H1 b, Post Z ρ1 H1 rel2 Wc Q2 (f a h1) → Xt ρ H ρ1 H1 → Wd Z.K ρ1 h1 H1 → rel ρ1 H1 b a → Q1 b H1) : Post Z ρ H rel Wc Q1 m := by
  cases m with
  | none => exact p
  | some r =>
    cases r with
    | ok a h' => exact fun ρ' H' b x' w q => k a h' ρ' H' b (Post.fwd x' p) x' w q
    | exc c fs h' => exact p
theorem Post.imp {r : Option (R α)} {Q1 : β → Hp → Prop} (p : Post Z ρ H rel Wc Q r) (k : ∀ b H', Q b H' → Q1 b H') : Post Z ρ H rel Wc Q1 r := by
  cases r with
  | none => exact p
  | some r =>
    cases r with
    | ok a h' => exact fun ρ' H' b x' w q => k _ _ (p ρ' H' b x' w q)
    | exc c fs h' => exact p
end
/-- env is what the slots hold -/
structure EnvR (K : PySem.W.Frag) (ρ : List Addr) (H : Hp) (σ : L2.St) (env : Env) : Prop where
  len : σ.length = env.length
  at' : ∀ (i : Nat) d, env[i]? = some (some d) → ∃ v, σ[i]? = some (some v) ∧ RV K ρ H v d
section
variable {K : PySem.W.Frag} {ρ ρ' : List Addr} {H H' : Hp} {h : List O} {σ : L2.St} {env : Env}
theorem EnvR.fwd (w : Wd K ρ h H) (x : Xt ρ H ρ' H') (e : EnvR K ρ H σ env) : EnvR K ρ' H' σ env :=
  ⟨e.len, fun i d q => let ⟨v, a, b⟩ := e.at' i d q; ⟨v, a, w.rv x b⟩⟩
theorem EnvR.set (e : EnvR K ρ H σ env) {i : Nat} {v : V} {d : D} (r : RV K ρ H v d) : EnvR K ρ H (σ.set i (some v)) (env.set i (some d)) := by
  refine ⟨by simp [e.len], fun j d' q => ?_⟩
  by_cases hj : i = j
  · subst hj
    have hl : i < env.length := by
      have := (List.getElem?_eq_some_iff.mp q).1
      simpa using this
    rw [List.getElem?_set_self hl] at q; cases q
    exact ⟨v, by rw [List.getElem?_set_self (by rw [e.len]; exact hl)], r⟩
  · rw [List.getElem?_set_ne hj] at q
    obtain ⟨u, a, b⟩ := e.at' j d' q
    exact ⟨u, by rw [List.getElem?_set_ne hj]; exact a, b⟩
theorem EnvR.wipe (e : EnvR K ρ H σ env) : ∀ vs : List Nat, EnvR K ρ H (wipe σ vs) (wipeD env vs)
  | [] => e
  | v :: vs => by
    have ih := EnvR.wipe e vs
    refine ⟨by show ((L2.wipe σ vs).set v none).length = ((wipeD env vs).set v none).length; simp [ih.len], fun j d q => ?_⟩
    have q' : ((wipeD env vs).set v none)[j]? = some (some d) := q
    by_cases hj : v = j
    · subst hj
      by_cases hl : v < (wipeD env vs).length
      · rw [List.getElem?_set_self hl] at q'; cases q'
      · rw [List.getElem?_eq_none (by simpa using hl)] at q'; cases q'
    · rw [List.getElem?_set_ne hj] at q'
      obtain ⟨u, a, b⟩ := ih.at' j d q'
      exact ⟨u, by show ((L2.wipe σ vs).set v none)[j]? = _; rw [List.getElem?_set_ne hj]; exact a, b⟩
end

/-! ### a def's promise, wherever no repr runs -/
structure FnG (P : Program) (w : World) (K : PySem.W.Frag) (mg : Str → Option Value) (base : Heap) (k : Nat) (f : Addr) (fd : FuncData) (ps : List Str) (sp : Sp) : Prop where
  len : ∀ vs H Q E, sp vs H Q E → vs.length = ps.length
  run : ∀ (A : Around) (outer : List PySem.Env) (s : Shared) (H : Hp) (args : Args) (us : List Value) (vs : List V) (Q : VK) (E : XK), Room (k + 3) A → A.guards = some [] →
    Env0 P w K mg base A outer s H → BindsTo s fd args (ps.zip us) → Vals vs us → sp vs H Q E → codeAny (model P w) A (.call (.ref f) args) (CR (L2.CX P w) outer P w H s Q E) s
/-- a call of a def of the text -/
theorem pe_callG {X : Cx} {W : WX} {k : Nat} {f : Addr} {fd : FuncData} {ps : List Str} {sp : Sp} {dvs : List V} {ds : List Value} {x : Str} {p pos : Pos} {e : Expr} {es : List Expr} {t : TA}
    (F : FnG X.prog X.w X.K X.mg X.base k f fd ps sp) (hr : Room (k + 3) X.A) (hgd : X.A.guards = some []) (hg : Gl X x) (hm : X.mg x = some (.ref f)) (hk : PySem.W.keepIn X.K (.ref f) = true)
    (hb : Binds X.K fd ps ds) (hd : Vals dvs ds) (tk : Takes X W) (ha : PA X (e :: es) t) (hdb : (x == ("__debug__" : Str)) = false)
    (he : starEach (e :: es) X.env = (false, eval e X.env) :: starEach es X.env) (hpl : (backTo pos (starEach es X.env)).any (·.1) = false) :
    PE X (.Call (.Name x p) (e :: es) [] pos) (fun σ H Q => t σ H fun vs H1 => sp (vs ++ dvs) H1 Q fun c d H' => W c d σ H') := by
  constructor
  intro pins s σ H Q I hw
  apply wpAny_Call_Name_kw
  apply ld_glob I hg hm ?_ hdb
  apply PySem.W.callWith_K (h₀ := X.base) I.ok.mod.kin hk ?_ he hpl
  refine thn (ha.run pos pins s σ H _ I hw) fun us s1 hq => ?_
  obtain ⟨vs, H1, I1, r, q⟩ := hq
  refine ⟨I1.kIn, ?_⟩
  have r2 : Vals (vs ++ dvs) (us ++ ds) := r.append hd
  have hl : (us ++ ds).length = ps.length := by
    rw [← r2.length]
    exact F.len _ _ _ _ q
  have run := F.run X.A X.stack s1 H1 ⟨us, []⟩ (us ++ ds) (vs ++ dvs) Q _ hr hgd I1.env0 (hb s1 us I1.kIn hl) r2 q
  apply wpAny_call
  refine codeAny_mono run fun z s' hz => ?_
  cases z with
  | error er => exact tk er s' (XE.of_call I1 (fun _ _ _ h => h) hz)
  | ok fl =>
    cases fl with
    | ret u => exact I1.after hz
    | next => exact hz.elim
    | brk => exact hz.elim
    | cont => exact hz.elim

/-- .. without arguments -/
theorem pe_callG0 {X : Cx} {W : WX} {k : Nat} {f : Addr} {fd : FuncData} {ps : List Str} {sp : Sp} {dvs : List V} {ds : List Value} {x : Str} {p pos : Pos}
    (F : FnG X.prog X.w X.K X.mg X.base k f fd ps sp) (hr : Room (k + 3) X.A) (hgd : X.A.guards = some []) (hg : Gl X x) (hm : X.mg x = some (.ref f)) (hk : PySem.W.keepIn X.K (.ref f) = true)
    (hb : Binds X.K fd ps ds) (hd : Vals dvs ds) (tk : Takes X W) (hdb : (x == ("__debug__" : Str)) = false) :
    PE X (.Call (.Name x p) [] [] pos) (fun σ H Q => sp dvs H Q fun c d H' => W c d σ H') := by
  constructor
  intro pins s σ H Q I q
  apply wpAny_Call_Name_kw
  apply ld_glob I hg hm ?_ hdb
  apply PySem.W.callWith_K0 I.kIn hk
  have hl : ([] ++ ds).length = ps.length := by
    rw [List.nil_append, ← hd.length]
    exact F.len _ _ _ _ q
  have run := F.run X.A X.stack s H ⟨[], []⟩ ds dvs Q _ hr hgd I.env0 (hb s [] I.kIn hl) hd q
  apply wpAny_call
  refine codeAny_mono run fun z s' hz => ?_
  cases z with
  | error er => exact tk er s' (XE.of_call I (fun _ _ _ h => h) hz)
  | ok fl =>
    cases fl with
    | ret u => exact I.after hz
    | next => exact hz.elim
    | brk => exact hz.elim
    | cont => exact hz.elim

/-! ### shapes of the text -/
def plainX : PySem.Expr → Bool
  | .Starred .. => false
  | .Slice .. => false
  | .Set .. => false
  | .NamedExpr .. => false
  | _ => true
theorem plain_star {e : PySem.Expr} (h : plainX e = true) (es : List PySem.Expr) (env : PySem.Env) : starEach (e :: es) env = (false, eval e env) :: starEach es env := by
  cases e <;> first | rfl | cases h
theorem plain_ix {e : PySem.Expr} (h : plainX e = true) : PlainIx e := fun o i => by
  cases e <;> first | rfl | cases h
theorem plain_set {e : PySem.Expr} (h : plainX e = true) (env : PySem.Env) (x : Value) : foldedSetIterable e env x = pure x := by
  cases e <;> first | rfl | cases h
theorem plain_mark {e : PySem.Expr} (h : plainX e = true) (op : CmpOp) : behindInMarks op e = false := by
  cases e <;> first | rfl | cases h
theorem plain_any {pos : Pos} {env : PySem.Env} : ∀ {es : List PySem.Expr}, es.all plainX = true → (backTo pos (starEach es env)).any (·.1) = false
  | [], _ => rfl
  | e :: es, h => by
    have h' : plainX e = true ∧ es.all plainX = true := by simpa using h
    rw [plain_star h'.1]
    show (false || (backTo pos (starEach es env)).any (·.1)) = false
    rw [plain_any h'.2]; rfl
end Mini
end

section
/-! Mini: operators, comparisons, truth, built-ins by values (own work). -/
namespace Mini
open PySem PySem.Spec PyProof.Rows L2

theorem sqt {K : PySem.W.Frag} {H : Hp} {a : Addr} {vs : List V} (q : H a = some (.tup vs)) : SqT K H a vs := .inl (.inl q)
theorem lim_eq : lim = sizeLine := by rw [sizeLine_eq]; rfl
abbrev relD (K : PySem.W.Frag) : Rel D V := fun ρ H v d => RV K ρ H v d
abbrev relL (K : PySem.W.Frag) : Rel (List D) (List V) := fun ρ H v d => RVs K ρ H v d
abbrev relB : Rel Bool Bool := fun _ _ b a => b = a
abbrev relO : Rel (Option Int) (Option Int) := fun _ _ b a => b = a
section
variable {Z : Ct} {ρ : List Addr} {H : Hp} {h : List O} {Wc : Value → Option Addr → Hp → Prop} {Q : VK}
theorem post_int {i : Int} (w : Wd Z.K ρ h H) (p : Post Z ρ H (relD Z.K) Wc Q (okI i h)) : Q (.int i) H := p.ok Xt.refl w rfl
theorem post_bl {b : Bool} (w : Wd Z.K ρ h H) (p : Post Z ρ H (relD Z.K) Wc Q (okB b h)) : Q (.bl b) H := p.ok Xt.refl w rfl
theorem post_alloc {vs : List V} {xs : List D} (w : Wd Z.K ρ h H) (r : RVs Z.K ρ H vs xs) (p : Post Z ρ H (relD Z.K) Wc Q (alloc (.lst xs) h)) : ∀ a, H a = none → Q (.ref a) (upd H a (.lst vs)) := fun a n => by
  obtain ⟨x, w', r'⟩ := w.alloc n r
  exact p.ok x w' r'
theorem post_tup {vs : List V} {xs : List D} (w : Wd Z.K ρ h H) (r : RVs Z.K ρ H vs xs) (p : Post Z ρ H (relD Z.K) Wc Q (some (.ok (.tup xs) h))) : ∀ a, H a = none → Q (.ref a) (upd H a (.tup vs)) := fun a n =>
  p.ok (xt_new n) (w.new n) ⟨a, vs, rfl, upd_same, RVs.mono (TS'.upd n) (fun _ _ e => e) _ _ r⟩
end
/-- an operator by values: what the evaluator makes is what the rule wants -/
def OpS (X : Cx) (C : List Cl) (ca : Nat → Addr) (f : Value → Value → Sem Value) (g : D → D → List O → Option (R D)) : Prop :=
  ∃ r : R2, OpR X f r ∧ ∀ {ρ : List Addr} {H : Hp} {h : List O} {Wc : Value → Option Addr → Hp → Prop} {Q : VK} {u v : V} {x y : D}, Wd X.K ρ h H → RV X.K ρ H u x → RV X.K ρ H v y →
    Post ⟨X.K, C, ca⟩ ρ H (relD X.K) Wc Q (g x y h) → r u v H Q
section
variable {X : Cx} {C : List Cl} {ca : Nat → Addr}
theorem opS_none {f : Value → Value → Sem Value} {g : D → D → List O → Option (R D)} (hg : ∀ x y h, g x y h = none) : OpS X C ca f g :=
  ⟨fun _ _ _ _ => False, fun _ _ _ _ _ _ _ _ _ _ _ _ q => q.elim, fun w r1 r2 p => by rw [hg] at p; exact p⟩
theorem add_ok : OpS X C ca (binaryOp .Add) (binD .Add) := by
  refine ⟨_, op_add.or (op_catA.or op_cat), ?_⟩
  intro ρ H h Wc Q u v x y w r1 r2 p
  have p' : Post ⟨X.K, C, ca⟩ ρ H (relD X.K) Wc Q (addD x y h) := p
  unfold addD at p'
  split at p'
  · cases r1; cases r2
    exact .inl ⟨_, _, rfl, rfl, post_int w p'⟩
  · obtain ⟨a, us, rfl, q1, s1⟩ := r1
    obtain ⟨b, vs, rfl, q2, s2⟩ := r2
    split at p'
    · rename_i hl
      refine .inr (.inl ⟨a, b, us, vs, rfl, rfl, sqt q1, sqt q2, by rw [s1.len, s2.len, ← lim_eq]; exact hl, fun e => ?_, fun e1 e2 => ?_, fun e1 e2 => ?_⟩)
      · subst e
        have : _ = [] := s1.nil_iff.mp rfl
        subst this
        exact p'.ok Xt.refl w ⟨b, vs, rfl, q2, s2⟩
      · subst e2
        have : _ = [] := s2.nil_iff.mp rfl
        subst this
        rw [List.append_nil] at p'
        exact p'.ok Xt.refl w ⟨a, us, rfl, q1, s1⟩
      · exact post_tup w (s1.append s2) p'
    · exact p'.elim
  · split at p'
    · rename_i xs ys e1 e2
      obtain ⟨a, us, rfl, _, _, q1, s1⟩ := is_lst w r1 e1
      obtain ⟨b, vs, rfl, _, _, q2, s2⟩ := is_lst w r2 e2
      split at p'
      · rename_i hl
        exact .inr (.inr ⟨a, b, us, vs, rfl, rfl, q1, q2, by rw [s1.len, s2.len, ← lim_eq]; exact hl, post_alloc w (s1.append s2) p'⟩)
      · exact p'.elim
    · exact p'.elim
  · exact p'.elim
theorem sub_ok : OpS X C ca (binaryOp .Sub) (binD .Sub) := by
  refine ⟨_, op_sub, ?_⟩
  intro ρ H h Wc Q u v x y w r1 r2 p
  unfold binD at p
  dsimp only at p
  split at p
  · cases r1; cases r2
    exact ⟨_, _, rfl, rfl, post_int w p⟩
  · exact p.elim
theorem mulOk_of {i j : Int} (e : mulOk i j = true) : CMul i j ∨ CMulW i j := by
  simp only [mulOk, Bool.or_eq_true, decide_eq_true_eq] at e
  rcases e with (e | e) | e
  · exact .inl (.inl (by omega))
  · exact .inl (.inr (by omega))
  · exact .inr e
/-- a tuple that is repeated: any number of times that leaves it of some length -/
def rRepM (K : PySem.W.Frag) : R2 := fun x y H Q => ∃ l k xs, x = .ref l ∧ y = .int k ∧ SqT K H l xs ∧ xs ≠ [] ∧ 2 ≤ k ∧ xs.length * k.toNat ≤ 1000000 ∧ ∀ p, H p = none → Q (.ref p) (upd H p (.tup (List.replicate k.toNat xs).flatten))
theorem op_repM {X : Cx} : OpR X (binaryOp .Mult) (rRepM X.K) := by
  intro pins s σ H x y v u Q I rx ry h
  obtain ⟨l, k, xs, rfl, rfl, hT, hne, h1, hz, q⟩ := h
  cases rx
  obtain ⟨t, rfl⟩ := ry
  obtain ⟨its, r, ⟨⟨cls, dd, data, sl⟩, ho, hc, n, hd⟩, hs⟩ := I.tuple hT
  simp only at hc hd
  subst hc hd
  have hle : its.length = xs.length := r.length.symm
  have pos : 0 < its.length := by
    rw [hle]
    exact List.length_pos_iff.mpr hne
  have kk : k.toNat ≤ 1000000 := Nat.le_trans (Nat.le_mul_of_pos_left _ (by omega)) hz
  have room : k.toNat * xs.length ≤ 1000000 := by rw [Nat.mul_comm]; exact hz
  have ne : its.toArray.isEmpty = false := by
    cases its with
    | nil => cases pos
    | cons a b => rfl
  have cast : ((its.toArray.size : Nat) : Int) * k = ((xs.length * k.toNat : Nat) : Int) := by
    rw [List.size_toArray, hle, Int.natCast_mul, Int.toNat_of_nonneg (by omega)]
  have le : (List.replicate k.toNat its).flatten.length ≤ sizeLine := by
    rw [PyProof.Rows.lm_len_rep_flat, hle, sizeLine_eq]; omega
  have c0 : (decide (k < -(2 ^ 63)) || decide (k ≥ 2 ^ 63)) = false := by
    rw [decide_eq_false (by omega), decide_eq_false (by omega)] <;> rfl
  have c1 : (its.toArray.isEmpty || k == 1) = false := by
    rw [ne, Bool.false_or]
    exact beq_eq_false_iff_ne.mpr (by omega)
  have c2 : (decide (k ≤ 0) || its.toArray.isEmpty) = false := by
    rw [ne, Bool.or_false]
    exact decide_eq_false (by omega)
  have c4 : Builtin.Tuple.tupleTooMany (((its.toArray.size : Nat) : Int) * k) = false := by
    unfold Builtin.Tuple.tupleTooMany
    rw [sizeLine_eq, cast]
    exact decide_eq_false (by omega)
  refine wpAny_binaryOp_repeat_ref (T := "tuple") (U := "int") (by decide) ⟨_, ho, rfl⟩ (fun s' => typeIs_int s' k t) noFill_tuple_mul F.fills_int_mul F.slot_int_rmul repeat_tuple F.slot_int_index.lookup
    (call_meets F.slot_int_rmul (typeIs_int s k t) F.entry_int_rmul (F.args_int_rmul_2 _ _) (int_rmul_tuple k t l its.toArray n dd sl)
      ⟨ho, rfl, ⟨_, ho, rfl⟩, call_meets F.slot_tuple_mul ⟨_, ho, rfl⟩ F.entry_tuple_mul (F.args_tuple_mul_2 _ _) (tuple_mulW l its.toArray n dd sl k t c0 c1 c2 (by rw [cast]; omega) c4 (by rw [size_rep, List.size_toArray]; exact le)) ⟨ho, ?_⟩⟩)
  rw [size_rep]
  refine ⟨.ref s.heap.objs.size, _, I.laid (t' := s.toks) (o := .tup (List.replicate k.toNat xs).flatten) (fun b ob q => Heap.get?_push_of_some _ q) (Nat.le_refl _) ?_, rfl, q _ (I.hok.fresh (Nat.le_refl _))⟩
  exact ⟨by rw [PyProof.Rows.lm_len_rep_flat, sizeLine_eq]; omega, _, r.rep k.toNat, IsTup.new _ _⟩
theorem mul_ok : OpS X C ca (binaryOp .Mult) (binD .Mult) := by
  refine ⟨_, (op_mul.or op_mulW).or (op_repM.or op_rep), ?_⟩
  intro ρ H h Wc Q u v x y w r1 r2 p
  have p' : Post ⟨X.K, C, ca⟩ ρ H (relD X.K) Wc Q (mulD x y h) := p
  unfold mulD at p'
  split at p'
  · cases r1; cases r2
    split at p'
    · rename_i e
      rcases mulOk_of e with e | e
      · exact .inl (.inl ⟨_, _, rfl, rfl, e, post_int w p'⟩)
      · exact .inl (.inr ⟨_, _, rfl, rfl, e, post_int w p'⟩)
    · exact p'.elim
  · obtain ⟨a, us, rfl, q1, s1⟩ := r1
    cases r2
    split at p'
    · rename_i xs k e
      simp only [Bool.and_eq_true, decide_eq_true_eq] at e
      obtain ⟨⟨e1, e2⟩, e3⟩ := e
      refine .inr (.inl ⟨a, k, us, rfl, rfl, sqt q1, fun z => ?_, e2, by rw [s1.len]; exact e1, post_tup w (s1.rep _) p'⟩)
      rw [s1.nil_iff.mp z] at e3
      exact absurd e3 (by simp)
    · exact p'.elim
  · cases r2
    split at p'
    · rename_i xs e1
      obtain ⟨a, us, rfl, _, _, q1, s1⟩ := is_lst w r1 e1
      split at p'
      · rename_i e
        simp only [Bool.and_eq_true, decide_eq_true_eq] at e
        exact .inr (.inr ⟨a, _, us, rfl, rfl, q1, e.1.2, e.2, by rw [s1.len, ← lim_eq]; exact e.1.1, post_alloc w (s1.rep _) p'⟩)
      · exact p'.elim
    · exact p'.elim
  · exact p'.elim
theorem op_fdivX : OpR X (binaryOp .FloorDiv) (rI (fun _ j => j ≠ 0 ∧ j.natAbs.log2 < 9000) fun i j => .int (i.fdiv j)) := opI fun i j _ _ _ _ _ hc q => floordiv_int hc.1 q (.inl (PyProof.noPylong_of_log2 hc.2))
theorem div_ok : OpS X C ca (binaryOp .FloorDiv) (binD .FloorDiv) := by
  refine ⟨_, op_fdivW.or op_fdivX, ?_⟩
  intro ρ H h Wc Q u v x y w r1 r2 p
  unfold binD at p
  dsimp only at p
  split at p
  · cases r1; cases r2
    split at p
    · rename_i e
      simp only [Bool.and_eq_true, decide_eq_true_eq] at e
      exact .inl ⟨_, _, rfl, rfl, ⟨e.1, e.2⟩, post_int w p⟩
    · split at p
      · rename_i e
        simp only [Bool.and_eq_true, decide_eq_true_eq] at e
        exact .inr ⟨_, _, rfl, rfl, ⟨e.1, e.2⟩, post_int w p⟩
      · exact p.elim
  · exact p.elim
theorem mod_ok : OpS X C ca (binaryOp .Mod) (binD .Mod) := by
  refine ⟨_, op_mod.or op_modN, ?_⟩
  intro ρ H h Wc Q u v x y w r1 r2 p
  unfold binD at p
  dsimp only at p
  split at p
  · cases r1; cases r2
    split at p
    · rename_i e
      exact .inl ⟨_, _, rfl, rfl, e, post_int w p⟩
    · split at p
      · rename_i e
        exact .inr ⟨_, _, rfl, rfl, e, post_int w p⟩
      · exact p.elim
  · exact p.elim
theorem pow_ok : OpS X C ca (binaryOp .Pow) (binD .Pow) := by
  refine ⟨_, op_pow, ?_⟩
  intro ρ H h Wc Q u v x y w r1 r2 p
  unfold binD at p
  dsimp only at p
  split at p
  · cases r1; cases r2
    split at p
    · rename_i e
      simp only [powOk, Bool.and_eq_true, decide_eq_true_eq] at e
      exact ⟨_, _, rfl, rfl, ⟨e.1.1, e.1.2, e.2⟩, post_int w p⟩
    · exact p.elim
  · exact p.elim
theorem bin_ok (op : Operator) : OpS X C ca (binaryOp op) (binD op) := by
  cases op with
  | Add => exact add_ok
  | Sub => exact sub_ok
  | Mult => exact mul_ok
  | FloorDiv => exact div_ok
  | Mod => exact mod_ok
  | Pow => exact pow_ok
  | _ => exact opS_none fun _ _ _ => rfl

/-! ### comparisons -/
section
variable {K : PySem.W.Frag} {ρ : List Addr} {H : Hp} {h : List O}
mutual
theorem Dp.of_pure : ∀ (d : D) (v : V), d.pure = true → RV K ρ H v d → Dp K H v (pyP d)
  | .non, v, _, e => by cases e; exact .non
  | .bl b, v, _, e => by cases e; exact .bl b
  | .int i, v, _, e => by cases e; exact .int i
  | .str s, v, _, e => by cases e; exact .str s
  | .tup xs, v, hp, ⟨a, vs, e, q, r⟩ => by
    subst e
    exact .tup (sqt q) (DpAll.of_pure xs vs (by simpa [D.pure] using hp) r)
  | .ref n, v, hp, _ => by simp [D.pure] at hp
theorem DpAll.of_pure : ∀ (xs : List D) (vs : List V), D.pureL xs = true → RVs K ρ H vs xs → DpAll K H vs (pyPL xs)
  | [], vs, _, e => by cases e; exact .nil
  | x :: xs, vs, hp, ⟨v, r, e, q, s⟩ => by
    subst e
    have hp' : x.pure = true ∧ D.pureL xs = true := by simpa [D.pureL] using hp
    exact .cons (Dp.of_pure x v hp'.1 q) (DpAll.of_pure xs r hp'.2 s)
end
theorem DpAll.of_mapO {f : D → Option PyData} (hf : ∀ d v p, RV K ρ H v d → f d = some p → Dp K H v p) : ∀ (xs : List D) (vs : List V) (ps : List PyData), RVs K ρ H vs xs → mapO f xs = some ps → DpAll K H vs ps
  | [], vs, ps, e, q => by
    cases e
    simp only [mapO, Option.some.injEq] at q
    subst q; exact .nil
  | x :: xs, vs, ps, ⟨v, r, e, q1, s⟩, q => by
    subst e
    unfold mapO at q
    split at q
    · cases q
    · rename_i y e1
      split at q
      · cases q
      · rename_i ys e2
        cases q
        exact .cons (hf _ _ _ q1 e1) (DpAll.of_mapO hf xs r ys s e2)
theorem Dp.of_pyF (w : Wd K ρ h H) : ∀ (n : Nat) (d : D) (v : V) (p : PyData), RV K ρ H v d → pyF n h d = some p → Dp K H v p
  | 0, d, v, p, r, e => by
    unfold pyF at e
    split at e
    · rename_i hp
      cases e
      exact Dp.of_pure d v hp r
    · cases e
  | n + 1, d, v, p, r, e => by
    unfold pyF at e
    split at e
    · rename_i hp
      cases e
      exact Dp.of_pure d v hp r
    · split at e
      · obtain ⟨a, vs, rfl, q, s⟩ := r
        simp only [Option.map_eq_some_iff] at e
        obtain ⟨ps, e1, rfl⟩ := e
        exact .tup (sqt q) (DpAll.of_mapO (fun d v p => Dp.of_pyF w n d v p) _ _ _ s e1)
      · split at e
        · rename_i m xs e0
          obtain ⟨a, vs, rfl, _, q, s⟩ := rd_lst w r e0
          simp only [Option.map_eq_some_iff] at e
          obtain ⟨ps, e1, rfl⟩ := e
          exact .lst q (DpAll.of_mapO (fun d v p => Dp.of_pyF w n d v p) _ _ _ s e1)
        · split at e
          · rename_i xs e0
            obtain ⟨a, o, vs, rfl, _, q, _, s⟩ := rd_tpl w r e0
            simp only [Option.map_eq_some_iff] at e
            obtain ⟨ps, e1, rfl⟩ := e
            exact .tup (.inl (.inr ⟨o, q⟩)) (DpAll.of_mapO (fun d v p => Dp.of_pyF w n d v p) _ _ _ s e1)
          · cases e
      · cases e
theorem flat_rv {d : D} {v : V} (f : flatD d = true) (r : RV K ρ H v d) : flatV v = true := by
  cases d <;> first | (cases r; rfl) | (simp [flatD] at f)
theorem eqV_py {x y : D} {u v : V} (fx : flatD x = true) (fy : flatD y = true) (rx : RV K ρ H u x) (ry : RV K ρ H v y) : eqV u v = PyData.eqv (pyP x) (pyP y) := by
  cases x <;> first | (simp [flatD] at fx; done) | (cases y <;> first | (simp [flatD] at fy; done) | (cases rx; cases ry; simp [eqV, pyP, PyData.eqv]))
theorem flat_all : ∀ {xs : List D} {vs : List V}, xs.all flatD = true → RVs K ρ H vs xs → vs.all flatV = true
  | [], vs, _, e => by cases e; rfl
  | x :: xs, vs, f, ⟨v, r, e, q, s⟩ => by
    subst e
    have f' : flatD x = true ∧ xs.all flatD = true := by simpa using f
    simp only [List.all_cons, Bool.and_eq_true]
    exact ⟨flat_rv f'.1 q, flat_all f'.2 s⟩
theorem any_in {x : D} {u : V} (fx : flatD x = true) (rx : RV K ρ H u x) : ∀ {ys : List D} {vs : List V}, ys.all flatD = true → RVs K ρ H vs ys → inV u vs = ys.any fun y => PyData.eqv (pyP y) (pyP x)
  | [], vs, _, e => by cases e; rfl
  | y :: ys, vs, f, ⟨v, r, e, q, s⟩ => by
    subst e
    have f' : flatD y = true ∧ ys.all flatD = true := by simpa using f
    have ih := any_in fx rx f'.2 s
    unfold inV at ih ⊢
    rw [List.any_cons, List.any_cons, ih, eqV_py f'.1 fx q rx]
theorem lexI_eq : ∀ ns ms : List Int, HT.lexLt ns ms = lexI ns ms
  | [], [] => rfl
  | [], _ :: _ => rfl
  | _ :: _, [] => rfl
  | x :: xs, y :: ys => by
    rw [HT.lexLt_cons, lexI_eq xs ys]
    show _ = bif x == y then lexI xs ys else decide (x < y)
    by_cases e : x = y
    · rw [if_pos e, beq_iff_eq.mpr e]; rfl
    · rw [if_neg e, beq_eq_false_iff_ne.mpr e]; rfl
end
/-- a comparison by values -/
def cmpG (op : CmpOp) (x y : D) (h : List O) : Option (R D) := match cmpD op x y h with
  | some c => okB c h
  | none => none
theorem ltD_some {a b : D} {c : Bool} (e : ltD a b = some c) : a.pure = true ∧ b.pure = true ∧ PySem.W.alike (pyP a) (pyP b) = true ∧ (pyP a).depth ≤ 8 ∧ c = PySem.W.dataLt (pyP a) (pyP b) := by
  unfold ltD at e
  split at e
  · rename_i h
    simp only [Bool.and_eq_true, decide_eq_true_eq] at h
    cases e
    exact ⟨h.1.1.1, h.1.1.2, h.1.2, h.2, rfl⟩
  · cases e
/-- a < b of data that are alike -/
def rLtD (K : PySem.W.Frag) : R2 := fun x y H Q => ∃ d e, Dp K H x d ∧ Dp K H y e ∧ PySem.W.alike d e = true ∧ d ≠ .none ∧ d.depth ≤ 8 ∧ Q (.bl (PySem.W.dataLt d e)) H
theorem op_ltD (hu : X.A.units + 64 < cLine) : OpR X (compareOp .Lt) (rLtD X.K) := by
  intro pins s σ H x y v u Q I rx ry h
  obtain ⟨d, e, hd, he, ha, hn, hdp, q⟩ := h
  obtain ⟨as, r1⟩ := Dp.reads I d x v hd rx
  obtain ⟨bs, r2⟩ := Dp.reads I e y u he ry
  exact PySem.W.rcLt_alike d e X.A s v u as bs r1 r2 ha hn (by omega) X.prog X.w X.xe _ ⟨.bl _, H, I, rfl, q⟩
theorem op_in_dict (hu : X.A.units + 64 < cLine) : OpR X (compareOp .In) (fun y x H Q => ∃ a o, x = .ref a ∧ DGet H a y o ∧ Q (.bl o.isSome) H) := by
  intro pins s σ H y x v u Q I ry rx h
  obtain ⟨a, o, rfl, g, q⟩ := h
  cases rx
  exact d_in (by omega) I g ry fun s' I' => ⟨.bl _, H, I', rfl, q⟩
theorem op_notIn_dict (hu : X.A.units + 64 < cLine) : OpR X (compareOp .NotIn) (fun y x H Q => ∃ a o, x = .ref a ∧ DGet H a y o ∧ Q (.bl (!o.isSome)) H) := by
  intro pins s σ H y x v u Q I ry rx h
  obtain ⟨a, o, rfl, g, q⟩ := h
  cases rx
  exact d_notIn (by omega) I g ry fun s' I' => ⟨.bl _, H, I', rfl, q⟩
theorem inK_ok {ρ : List Addr} {H : Hp} {h : List O} {u v : V} {x y : D} {c : Bool} (w : Wd X.K ρ h H) (r1 : RV X.K ρ H u x) (r2 : RV X.K ρ H v y) (e : inK h x y = some c) : ∃ a o, v = .ref a ∧ DGet H a u o ∧ o.isSome = c := by
  unfold inK at e
  split at e
  · split at e
    · rename_i t kvs e1
      split at e
      · rename_i hk
        cases e
        obtain ⟨a, rfl, ea, q⟩ := rd_dct w r2 e1
        rcases dget_at q hk r1 with ⟨v, d, g, e2, _⟩ | ⟨g, e2⟩
        · exact ⟨a, _, rfl, g, by rw [e2]; rfl⟩
        · exact ⟨a, _, rfl, g, by rw [e2]; rfl⟩
      · cases e
    · cases e
  · cases e
theorem cmp_ok (hu : X.A.units + 64 < cLine) (op : CmpOp) : OpS X C ca (compareOp op) (cmpG op) := by
  have hu0 : X.A.units < cLine := by omega
  cases op with
  | Eq =>
    refine ⟨_, op_eqD hu, ?_⟩
    intro ρ H h Wc Q u v x y w r1 r2 p
    change Post _ _ _ _ _ _ (match eqD h x y with | some c => okB c h | none => none) at p
    split at p
    · rename_i c e
      unfold eqD at e
      split at e
      · rename_i pa pb e1 e2
        split at e
        · rename_i hs
          simp only [Bool.and_eq_true] at hs
          cases e
          exact ⟨pa, pb, Dp.of_pyF w _ _ _ _ r1 e1, Dp.of_pyF w _ _ _ _ r2 e2, hs.1, hs.2, post_bl w p⟩
        · cases e
      · cases e
    · exact p.elim
  | NotEq =>
    refine ⟨_, op_neD hu, ?_⟩
    intro ρ H h Wc Q u v x y w r1 r2 p
    change Post _ _ _ _ _ _ (match (eqD h x y).map (!·) with | some c => okB c h | none => none) at p
    split at p
    · rename_i c e
      simp only [Option.map_eq_some_iff] at e
      obtain ⟨c', e, rfl⟩ := e
      unfold eqD at e
      split at e
      · rename_i pa pb e1 e2
        split at e
        · rename_i hs
          simp only [Bool.and_eq_true] at hs
          cases e
          exact ⟨pa, pb, Dp.of_pyF w _ _ _ _ r1 e1, Dp.of_pyF w _ _ _ _ r2 e2, hs.1, hs.2, post_bl w p⟩
        · cases e
      · cases e
    · exact p.elim
  | Lt =>
    refine ⟨_, op_lt.or ((op_ltT hu0).or (op_ltD hu)), ?_⟩
    intro ρ H h Wc Q u v x y w r1 r2 p
    change Post _ _ _ _ _ _ (match cmpD .Lt x y h with | some c => okB c h | none => none) at p
    split at p
    · rename_i c e
      unfold cmpD at e
      dsimp only at e
      split at e
      · cases e; cases r1; cases r2
        exact .inl ⟨_, _, rfl, rfl, post_bl w p⟩
      · split at e
        · rename_i ns ms e1 e2
          cases e
          obtain ⟨a, us, rfl, q1, s1⟩ := r1
          obtain ⟨b, vs, rfl, q2, s2⟩ := r2
          have h1 := s1.map_int e1
          have h2 := s2.map_int e2
          subst h1; subst h2
          refine .inr (.inl ⟨a, b, ns, ms, rfl, rfl, sqt q1, sqt q2, ?_⟩)
          rw [lexI_eq]
          exact post_bl w p
        · obtain ⟨h1, h2, h3, h4, rfl⟩ := ltD_some e
          exact .inr (.inr ⟨_, _, Dp.of_pure _ _ h1 r1, Dp.of_pure _ _ h2 r2, h3, by simp [pyP], h4, post_bl w p⟩)
      · cases e
    · exact p.elim
  | LtE =>
    refine ⟨_, op_le, ?_⟩
    intro ρ H h Wc Q u v x y w r1 r2 p
    change Post _ _ _ _ _ _ (match cmpD .LtE x y h with | some c => okB c h | none => none) at p
    split at p
    · rename_i c e
      unfold cmpD at e
      dsimp only at e
      split at e
      · cases e; cases r1; cases r2
        exact ⟨_, _, rfl, rfl, post_bl w p⟩
      · cases e
    · exact p.elim
  | Gt =>
    refine ⟨_, op_gt, ?_⟩
    intro ρ H h Wc Q u v x y w r1 r2 p
    change Post _ _ _ _ _ _ (match cmpD .Gt x y h with | some c => okB c h | none => none) at p
    split at p
    · rename_i c e
      unfold cmpD at e
      dsimp only at e
      split at e
      · cases e; cases r1; cases r2
        exact ⟨_, _, rfl, rfl, post_bl w p⟩
      · cases e
    · exact p.elim
  | GtE =>
    refine ⟨_, op_ge, ?_⟩
    intro ρ H h Wc Q u v x y w r1 r2 p
    change Post _ _ _ _ _ _ (match cmpD .GtE x y h with | some c => okB c h | none => none) at p
    split at p
    · rename_i c e
      unfold cmpD at e
      dsimp only at e
      split at e
      · cases e; cases r1; cases r2
        exact ⟨_, _, rfl, rfl, post_bl w p⟩
      · cases e
    · exact p.elim
  | Is =>
    refine ⟨_, op_isN, ?_⟩
    intro ρ H h Wc Q u v x y w r1 r2 p
    change Post _ _ _ _ _ _ (match cmpD .Is x y h with | some c => okB c h | none => none) at p
    split at p
    · rename_i c e
      unfold cmpD at e
      dsimp only at e
      split at e
      · cases e; cases r2
        refine ⟨rfl, ?_⟩
        have q := post_bl w p
        cases x with
        | non => cases r1; exact q
        | bl b => cases r1; exact q
        | int i => cases r1; exact q
        | str s => cases r1; exact q
        | tup xs => obtain ⟨a, vs, rfl, _⟩ := r1; exact q
        | ref n => obtain ⟨a, rfl, _⟩ := r1; exact q
      · cases e
    · exact p.elim
  | IsNot =>
    refine ⟨_, op_notN, ?_⟩
    intro ρ H h Wc Q u v x y w r1 r2 p
    change Post _ _ _ _ _ _ (match cmpD .IsNot x y h with | some c => okB c h | none => none) at p
    split at p
    · rename_i c e
      unfold cmpD at e
      dsimp only at e
      split at e
      · cases e; cases r2
        refine ⟨rfl, ?_⟩
        have q := post_bl w p
        cases x with
        | non => cases r1; exact q
        | bl b => cases r1; exact q
        | int i => cases r1; exact q
        | str s => cases r1; exact q
        | tup xs => obtain ⟨a, vs, rfl, _⟩ := r1; exact q
        | ref n => obtain ⟨a, rfl, _⟩ := r1; exact q
      · cases e
    · exact p.elim
  | In =>
    refine ⟨_, op_in_seq.or (op_in_dict hu), ?_⟩
    intro ρ H h Wc Q u v x y w r1 r2 p
    change Post _ _ _ _ _ _ (match inD h x y with | some c => okB c h | none => none) at p
    split at p
    · rename_i c e
      unfold inD at e
      split at e
      · rename_i ys e1
        split at e
        · rename_i hf
          simp only [Bool.and_eq_true] at hf
          cases e
          obtain ⟨a, vs, rfl, q, s⟩ := seq_of w r2 e1
          refine .inl ⟨a, vs, rfl, q, flat_rv hf.1 r1, flat_all hf.2 s, ?_⟩
          rw [any_in hf.1 r1 hf.2 s]
          exact post_bl w p
        · cases e
      · obtain ⟨a, o, rfl, g, rfl⟩ := inK_ok w r1 r2 e
        exact .inr ⟨a, o, rfl, g, post_bl w p⟩
    · exact p.elim
  | NotIn =>
    refine ⟨_, op_notIn_seq.or (op_notIn_dict hu), ?_⟩
    intro ρ H h Wc Q u v x y w r1 r2 p
    change Post _ _ _ _ _ _ (match (inD h x y).map (!·) with | some c => okB c h | none => none) at p
    split at p
    · rename_i c e
      simp only [Option.map_eq_some_iff] at e
      obtain ⟨c', e, rfl⟩ := e
      unfold inD at e
      split at e
      · rename_i ys e1
        split at e
        · rename_i hf
          simp only [Bool.and_eq_true] at hf
          cases e
          obtain ⟨a, vs, rfl, q, s⟩ := seq_of w r2 e1
          refine .inl ⟨a, vs, rfl, q, flat_rv hf.1 r1, flat_all hf.2 s, ?_⟩
          rw [any_in hf.1 r1 hf.2 s]
          exact post_bl w p
        · cases e
      · obtain ⟨a, o, rfl, g, rfl⟩ := inK_ok w r1 r2 e
        exact .inr ⟨a, o, rfl, g, post_bl w p⟩
    · exact p.elim
/-- truth -/
theorem truth_ok {K : PySem.W.Frag} {ρ : List Addr} {H : Hp} {h : List O} {v : V} {d : D} {b : Bool} (w : Wd K ρ h H) (r : RV K ρ H v d) (e : truth h d = some b) : TruV K v H b := by
  unfold truth at e
  cases d with
  | non => cases r; cases e; rfl
  | bl c => cases r; cases e; rfl
  | int i => cases r; cases e; rfl
  | str s =>
    cases r
    dsimp only at e
    split at e
    · rename_i hl
      cases e
      exact ⟨by rw [← lim_eq]; exact hl, rfl⟩
    · cases e
  | tup xs =>
    obtain ⟨a, vs, rfl, q, s⟩ := r
    cases e
    refine .inr (.inl ⟨vs, sqt q, ?_⟩)
    cases xs with
    | nil => cases s; rfl
    | cons x xs => obtain ⟨_, _, rfl, _⟩ := s; rfl
  | ref n =>
    simp only [Option.map_eq_some_iff] at e
    obtain ⟨xs, e, rfl⟩ := e
    obtain ⟨a, vs, rfl, _, q, s⟩ := rd_lst w r e
    refine .inl ⟨vs, q, ?_⟩
    cases xs with
    | nil => cases s; rfl
    | cons x xs => obtain ⟨_, _, rfl, _⟩ := s; rfl
end
end Mini
end

section
/-! Mini: sorted of data that are alike (own work). -/
namespace Mini
open PySem PySem.Spec PyProof.Rows L2

/-! ### the order of data that are alike decides what is equal -/
mutual
theorem tok_inj : ∀ (x y : D) (l m : List (Int ⊕ List Nat)), x.pure = true → y.pure = true → PySem.W.alike (pyP x) (pyP y) = true → PySem.W.keyToks (pyP x) ++ l = PySem.W.keyToks (pyP y) ++ m → x = y ∧ l = m
  | .non, y, l, m, _, hy, ha, e => by
    cases y with
    | non => exact ⟨rfl, by simpa [pyP, PySem.W.keyToks] using e⟩
    | ref n => simp [D.pure] at hy
    | _ => simp [pyP, PySem.W.alike] at ha
  | .bl a, y, l, m, _, hy, ha, e => by
    cases y with
    | bl b =>
      simp only [pyP, PySem.W.keyToks, List.cons_append, List.nil_append, List.cons.injEq, Sum.inl.injEq] at e
      refine ⟨?_, e.2⟩
      cases a <;> cases b <;> simp_all
    | ref n => simp [D.pure] at hy
    | _ => simp [pyP, PySem.W.alike] at ha
  | .int a, y, l, m, _, hy, ha, e => by
    cases y with
    | int b =>
      simp only [pyP, PySem.W.keyToks, List.cons_append, List.nil_append, List.cons.injEq, Sum.inl.injEq] at e
      exact ⟨by rw [e.1], e.2⟩
    | ref n => simp [D.pure] at hy
    | _ => simp [pyP, PySem.W.alike] at ha
  | .str a, y, l, m, _, hy, ha, e => by
    cases y with
    | str b =>
      simp only [pyP, PySem.W.keyToks, List.cons_append, List.nil_append, List.cons.injEq, Sum.inr.injEq] at e
      exact ⟨by rw [PySem.W.str_of_cps e.1], e.2⟩
    | ref n => simp [D.pure] at hy
    | _ => simp [pyP, PySem.W.alike] at ha
  | .tup xs, y, l, m, hx, hy, ha, e => by
    cases y with
    | tup ys =>
      obtain ⟨e1, e2⟩ := tokL_inj xs ys l m (by simpa [D.pure] using hx) (by simpa [D.pure] using hy) (by simpa [pyP, PySem.W.alike] using ha) (by simpa [pyP, PySem.W.keyToks] using e)
      exact ⟨by rw [e1], e2⟩
    | ref n => simp [D.pure] at hy
    | _ => simp [pyP, PySem.W.alike] at ha
  | .ref n, y, l, m, hx, _, _, _ => by simp [D.pure] at hx
theorem tokL_inj : ∀ (xs ys : List D) (l m : List (Int ⊕ List Nat)), D.pureL xs = true → D.pureL ys = true → PySem.W.alikeAll (pyPL xs) (pyPL ys) = true → PySem.W.keyToksAll (pyPL xs) ++ l = PySem.W.keyToksAll (pyPL ys) ++ m → xs = ys ∧ l = m
  | [], [], l, m, _, _, _, e => ⟨rfl, by simpa [pyPL, PySem.W.keyToksAll] using e⟩
  | [], y :: ys, l, m, _, _, _, e => by simp [pyPL, PySem.W.keyToksAll] at e
  | x :: xs, [], l, m, _, _, _, e => by simp [pyPL, PySem.W.keyToksAll] at e
  | x :: xs, y :: ys, l, m, hx, hy, ha, e => by
    have hx' : x.pure = true ∧ D.pureL xs = true := by simpa [D.pureL] using hx
    have hy' : y.pure = true ∧ D.pureL ys = true := by simpa [D.pureL] using hy
    have ha' := PySem.W.alike_all_cons (x := pyP x) (y := pyP y) (xs := pyPL xs) (ys := pyPL ys) (by simpa [pyPL] using ha)
    have e' : PySem.W.keyToks (pyP x) ++ (PySem.W.keyToksAll (pyPL xs) ++ l) = PySem.W.keyToks (pyP y) ++ (PySem.W.keyToksAll (pyPL ys) ++ m) := by
      simpa [pyPL, PySem.W.toks_all_cons] using e
    obtain ⟨e1, e2⟩ := tok_inj x y _ _ hx'.1 hy'.1 ha'.1 e'
    obtain ⟨e3, e4⟩ := tokL_inj xs ys l m hx'.2 hy'.2 ha'.2 e2
    exact ⟨by rw [e1, e3], e4⟩
end
theorem leD_eq : (fun a b => leD a b) = PySem.W.dataLe false pyP := rfl
theorem leD_trans (a b c : D) (h1 : leD a b = true) (h2 : leD b c = true) : leD a c = true := (PySem.W.sortLe_total (PyProof.Rows.listOrd PyProof.Rows.itemOrd) false fun b : D => PySem.W.keyToks (pyP b)).trans a b c h1 h2
theorem leD_total (a b : D) : leD a b = true ∨ leD b a = true := (PySem.W.sortLe_total (PyProof.Rows.listOrd PyProof.Rows.itemOrd) false fun b : D => PySem.W.keyToks (pyP b)).total a b
theorem leD_anti {x y : D} (hx : x.pure = true) (hy : y.pure = true) (ha : PySem.W.alike (pyP x) (pyP y) = true) (h1 : leD x y = true) (h2 : leD y x = true) : x = y := by
  unfold leD at h1 h2
  simp only [Bool.not_eq_true'] at h1 h2
  have e := PyProof.Rows.lex_total (O := PyProof.Rows.itemOrd) _ _ h2 h1
  exact (tok_inj x y [] [] hx hy ha (by rw [e])).1
/-! ### sorting by insertion -/
theorem insD_perm (x : D) : ∀ l : List D, (insD x l).Perm (x :: l)
  | [] => .refl _
  | y :: r => by
    unfold insD
    split
    · exact .refl _
    · exact ((insD_perm x r).cons y).trans (.swap x y r)
theorem sortD_perm : ∀ l : List D, (sortD l).Perm l
  | [] => .refl _
  | x :: r => (insD_perm x (sortD r)).trans ((sortD_perm r).cons x)
theorem insD_sorted (x : D) : ∀ l : List D, l.Pairwise (fun a b => leD a b = true) → (insD x l).Pairwise (fun a b => leD a b = true)
  | [], _ => by simp [insD]
  | y :: r, h => by
    unfold insD
    have h' := List.pairwise_cons.mp h
    split
    · rename_i e
      refine List.pairwise_cons.mpr ⟨fun z hz => ?_, h⟩
      rcases List.mem_cons.mp hz with q | q
      · rw [q]; exact e
      · exact leD_trans _ _ _ e (h'.1 z q)
    · rename_i e
      refine List.pairwise_cons.mpr ⟨fun z hz => ?_, insD_sorted x r h'.2⟩
      rcases List.mem_cons.mp ((insD_perm x r).mem_iff.mp hz) with q | q
      · rw [q]; exact (leD_total x y).resolve_left e
      · exact h'.1 z q
theorem sortD_sorted : ∀ l : List D, (sortD l).Pairwise (fun a b => leD a b = true)
  | [] => .nil
  | x :: r => insD_sorted x _ (sortD_sorted r)
theorem sorted_uniqueR {α : Type} {le : α → α → Prop} : ∀ {l m : List α}, (∀ x ∈ l, ∀ y ∈ l, le x y → le y x → x = y) → l.Perm m → l.Pairwise le → m.Pairwise le → l = m
  | [], m, _, p, _, _ => (List.Perm.nil_eq p)
  | x :: l, [], _, p, _, _ => nomatch p.length_eq
  | x :: l, y :: m, an, p, h1, h2 => by
    have a := List.pairwise_cons.mp h1
    have b := List.pairwise_cons.mp h2
    have e : x = y := by
      have m1 : x ∈ y :: m := p.mem_iff.mp List.mem_cons_self
      have m2 : y ∈ x :: l := p.mem_iff.mpr List.mem_cons_self
      rcases List.mem_cons.mp m1 with q | q
      · exact q
      · rcases List.mem_cons.mp m2 with q' | q'
        · exact q'.symm
        · exact an x List.mem_cons_self y m2 (a.1 y q') (b.1 x q)
    subst e
    rw [sorted_uniqueR (fun u hu v hv => an u (List.mem_cons_of_mem _ hu) v (List.mem_cons_of_mem _ hv)) (List.Perm.cons_inv p) a.2 b.2]
structure OkS (xs : List D) : Prop where
  pure : ∀ x ∈ xs, x.pure = true
  depth : ∀ x ∈ xs, (pyP x).depth ≤ 8
  alike : ∀ x ∈ xs, ∀ y ∈ xs, PySem.W.alike (pyP x) (pyP y) = true
theorem okS_of {xs : List D} (h : okS xs = true) : OkS xs := by
  unfold okS at h
  have h' : ∀ x ∈ xs, (x.pure = true ∧ (pyP x).depth ≤ 8) ∧ ∀ y ∈ xs, PySem.W.alike (pyP x) (pyP y) = true := by simpa using h
  exact ⟨fun x m => (h' x m).1.1, fun x m => (h' x m).1.2, fun x m y m' => (h' x m).2 y m'⟩
theorem sortD_merge {xs : List D} (h : OkS xs) : xs.mergeSort (fun a b => leD a b) = sortD xs := by
  refine sorted_uniqueR (fun x hx y hy a b => ?_) ((List.mergeSort_perm xs _).trans (sortD_perm xs).symm) (List.pairwise_mergeSort leD_trans (fun a b => by rw [Bool.or_eq_true]; exact leD_total a b) xs) (sortD_sorted xs)
  have hx' : x ∈ xs := (List.mergeSort_perm xs _).mem_iff.mp hx
  have hy' : y ∈ xs := (List.mergeSort_perm xs _).mem_iff.mp hy
  exact leD_anti (h.pure x hx') (h.pure y hy') (h.alike x hx' y hy') a b

/-! ### what sorted collects -/
/-- the thing at a yields vs -/
def Coll (X : Cx) (H : Hp) (a : Addr) (vs : List V) : Prop := ∀ (pins : List (Addr × Obj)) (σ : L2.St) (s : Shared) (R : List Value → Shared → Prop), Inv X pins σ H s →
  (∀ h' tk us, Vals vs us → (∀ b o, s.heap.get? b = some o → h'.get? b = some o) → R us { s with heap := h', toks := tk }) → wpAny (model X.prog X.w) X.A.in1 (collect (.ref a)) R X.xe s
section
variable {X : Cx} {H : Hp} {a : Addr}
theorem coll_list {vs : List V} (q : SqL X.K H a vs) : Coll X H a vs := by
  intro pins σ s R I h
  obtain ⟨its, rv, ⟨o, n, e, c, _, d⟩, hz⟩ := I.list q
  have hz' : its.toArray.size ≤ sizeLine := by rw [List.size_toArray, ← rv.length]; exact hz
  exact wpAny_collect_seq a (.inl rfl) e c d (fun h' k => h h' s.toks its (by simpa using rv) k) hz'
theorem coll_tup {vs : List V} (q : SqT X.K H a vs) : Coll X H a vs := by
  intro pins σ s R I h
  obtain ⟨its, rv, ⟨o, e, c, n, d⟩, hz⟩ := I.tuple q
  have hz' : its.toArray.size ≤ sizeLine := by rw [List.size_toArray, ← rv.length]; exact hz
  exact wpAny_collect_seq a (.inr rfl) e c d (fun h' k => h h' s.toks its (by simpa using rv) k) hz'
theorem coll_dK (hc : X.calm = true) {ws : List (Key × V)} (q : Rd H a (.dK ws)) : Coll X H a (ws.map fun p => kV p.1) := by
  intro pins σ s R I h
  obtain ⟨z, lo, vs, rel, dd⟩ := dk_rd I.hok q
  obtain ⟨ep, hat⟩ := dd.dictAt
  have h16 : vs.length ≤ sizeLine := by rw [← rel.length]; exact z
  refine PySem.W.kdu_collect (A := X.A.in1) (PySem.W.kdl_dict (knd := mixKind X.prog X.w) (kvs := vs) (ep := ep) lo) (I.ok.hd hc) hat h16 fun h' tk acc hk hacc => h h' tk acc.toList ?_ hk
  refine vals_of_at ((List.length_map _).trans (rel.length.trans (hacc.1.symm.trans Array.length_toList.symm))) fun j x u e1 e2 => ?_
  obtain ⟨k, y, e3, e4⟩ := hacc.2 j u (by rw [← Array.getElem?_toList]; exact e2)
  have e5 : (ws.map (·.1))[j]? = some k := by rw [rel.keys, List.getElem?_map, e3]; rfl
  have e6 : x = kV k := by
    rw [List.getElem?_map] at e1 e5
    cases q : ws[j]? with
    | none => rw [q] at e5; cases e5
    | some p =>
      rw [q] at e1 e5
      cases e1; cases e5; rfl
  rw [e6]
  exact keyIs_rel e4
theorem coll_dT (hc : X.calm = true) {ws : List (List Key × V)} (q : Rd H a (.dT ws)) : ∀ (pins : List (Addr × Obj)) (σ : L2.St) (s : Shared) (R : List Value → Shared → Prop), Inv X pins σ H s →
    (∀ h' tk bs, IsKeys H ws bs → (∀ b o, s.heap.get? b = some o → h'.get? b = some o) → R (bs.map Value.ref) { s with heap := h', toks := tk }) → wpAny (model X.prog X.w) X.A.in1 (collect (.ref a)) R X.xe s := by
  intro pins σ s R I h
  obtain ⟨z, hs, ks, pr, o, es, ep, ho, hx, hdt, he, hn⟩ := (show ObjOk X.prog X.w H s.heap a (.dT ws) from q.ok I.hok)
  have l1 : es.size = ks.length := size_of_entries he
  have l2 : ws.length = ks.length := Paired.length pr
  refine PySem.W.kdu_collect (A := X.A.in1) (kdl_raw hs hx hdt) (I.ok.hd hc) ho (by omega) fun h' tk acc hk it => ?_
  have ea : acc.toList = (ks.map fun x => x.2.1).map Value.ref := by
    have hl : acc.toList.length = ks.length := by rw [Array.length_toList, it.1]; exact l1
    rw [List.map_map]
    refine List.ext_getElem? fun j => ?_
    rw [List.getElem?_map]
    cases hj : acc.toList[j]? with
    | none =>
      have h1 := List.getElem?_eq_none_iff.mp hj
      rw [List.getElem?_eq_none (by omega)]; rfl
    | some v =>
      obtain ⟨en, hen, hv⟩ := it.2 j v (by rw [← Array.getElem?_toList]; exact hj)
      have qe := entry_at he j
      rw [hen] at qe
      cases hb : ks[j]? with
      | none => rw [hb] at qe; exact nomatch (show some en = none from qe)
      | some b =>
        rw [hb] at qe
        have e2 : en = entryOfKey (tupleKind (mixKind X.prog X.w)) b := Option.some.inj qe
        rw [hv, e2]; rfl
  rw [ea]
  exact h h' tk _ (isKeys_of pr) hk
/-- the places of a dict's key tuples -/
theorem keys_vs {ρ : List Addr} {K : PySem.W.Frag} {ws : List (List Key × V)} {bs : List Addr} (r : IsKeys H ws bs) : RVs K ρ H (bs.map V.ref) (ws.map fun p => keyT p.1) := by
  have flat : ∀ ks : List Key, RVs K ρ H (ks.map kV) (ks.map kD) := by
    intro ks
    induction ks with
    | nil => exact rfl
    | cons k ks ih => exact ⟨kV k, ks.map kV, rfl, by cases k <;> exact rfl, ih⟩
  unfold IsKeys at r
  induction r with
  | nil => exact rfl
  | cons h t ih => exact ⟨_, _, rfl, ⟨_, _, rfl, h, flat _⟩, ih⟩
end

/-! ### sorted -/
def pickV (vs : List V) (xs : List D) : List (V × D) := (vs.zip xs).mergeSort (PySem.W.dataLe false fun p => pyP p.2)
theorem zip_snd {α β : Type} : ∀ {l : List α} {m : List β}, l.length = m.length → (l.zip m).map (·.2) = m
  | [], [], _ => rfl
  | [], _ :: _, h => by cases h
  | _ :: _, [], h => by cases h
  | _ :: l, _ :: m, h => by simp [zip_snd (l := l) (m := m) (by simpa using h)]
theorem pick_snd {vs : List V} {xs : List D} (hl : vs.length = xs.length) (h : OkS xs) : (pickV vs xs).map (·.2) = sortD xs := by
  show List.map (fun p : V × D => p.2) ((vs.zip xs).mergeSort (fun a b => leD a.2 b.2)) = _
  rw [List.map_mergeSort (s := fun a b => leD a b) (f := fun p : V × D => p.2) (hl := fun a _ b _ => rfl), zip_snd hl]
  exact sortD_merge h
theorem rvs_of {K : PySem.W.Frag} {ρ : List Addr} {H : Hp} : ∀ {ps : List (V × D)}, (∀ p ∈ ps, RV K ρ H p.1 p.2) → RVs K ρ H (ps.map (·.1)) (ps.map (·.2))
  | [], _ => rfl
  | p :: ps, h => ⟨p.1, _, rfl, h p List.mem_cons_self, rvs_of fun q m => h q (List.mem_cons_of_mem _ m)⟩
theorem rvs_mem {K : PySem.W.Frag} {ρ : List Addr} {H : Hp} : ∀ {vs : List V} {xs : List D}, RVs K ρ H vs xs → ∀ p ∈ vs.zip xs, RV K ρ H p.1 p.2
  | _, [], e, p, m => by cases e; simp at m
  | _, x :: xs, ⟨v, r, e, q, s⟩, p, m => by
    subst e
    rw [List.zip_cons_cons] at m
    rcases List.mem_cons.mp m with z | z
    · rw [z]; exact q
    · exact rvs_mem s p z
theorem pick_rv {K : PySem.W.Frag} {ρ : List Addr} {H : Hp} {vs : List V} {xs : List D} (r : RVs K ρ H vs xs) (h : OkS xs) : RVs K ρ H ((pickV vs xs).map (·.1)) (sortD xs) := by
  have := rvs_of (K := K) (ρ := ρ) (H := H) (ps := pickV vs xs) fun p m => rvs_mem r p ((List.mergeSort_perm _ _).mem_iff.mp m)
  rw [pick_snd r.len h] at this
  exact this
theorem each_zip {X : Cx} {pins : List (Addr × Obj)} {σ : L2.St} {H : Hp} {s : Shared} : ∀ {vs : List V} {us : List Value} {xs : List D}, Vals vs us → vs.length = xs.length → PySem.W.EachIs (fun u (p : V × D) => RelV p.1 u) us (vs.zip xs)
  | _, _, [], .nil, _ => .nil
  | _, _, x :: xs, .nil, h => by cases h
  | _, _, [], .cons _ _, h => by cases h
  | _, _, x :: xs, .cons r t, h => .cons r (each_zip (X := X) (pins := pins) (σ := σ) (H := H) (s := s) t (by simpa using h))
theorem vals_out : ∀ {us : List Value} {ps : List (V × D)}, PySem.W.EachIs (fun u (p : V × D) => RelV p.1 u) us ps → Vals (ps.map (·.1)) us
  | _, _, .nil => .nil
  | _, _, .cons r t => .cons r (vals_out t)
section
variable {X : Cx}
theorem sortable_of {xs : List D} (h : okF xs = true) : PySem.W.Sortable (xs.map pyP) := by
  unfold okF at h
  rw [Bool.or_eq_true] at h
  rcases h with h | h
  · refine .inl fun d hd => ?_
    obtain ⟨x, m, rfl⟩ := List.mem_map.mp hd
    have q := List.all_eq_true.mp h x m
    split at q
    · rename_i y r
      exact ⟨pyP y, pyPL r, by simp [pyP, pyPL]⟩
    · cases q
  · refine .inr fun d hd => ?_
    obtain ⟨x, m, rfl⟩ := List.mem_map.mp hd
    have q := List.all_eq_true.mp h x m
    split at q
    · exact ⟨by simp [pyP], fun _ => by simp [pyP]⟩
    · exact ⟨by simp [pyP], fun _ => by simp [pyP]⟩
    · exact ⟨by simp [pyP], fun _ => by simp [pyP]⟩
    · cases q
theorem each_reads {pins : List (Addr × Obj)} {σ : L2.St} {H : Hp} {s : Shared} {ρ : List Addr} (I : Inv X pins σ H s) {a : Addr} {o : Obj} : ∀ {vs : List V} {us : List Value} {xs : List D}, Vals vs us → RVs X.K ρ H vs xs → D.pureL xs = true →
    PySem.W.EachIs (fun u (p : V × D) => ∃ as, Reads s.heap u (pyP p.2) as) us (vs.zip xs)
  | _, _, [], .nil, _, _ => .nil
  | _, _, x :: xs, .nil, h, _ => by obtain ⟨_, _, e, _⟩ := h; cases e
  | _, _, [], .cons _ _, h, _ => by cases h
  | _, _, x :: xs, .cons r t, h, hp => by
    obtain ⟨v, vr, e, q, s'⟩ := h
    cases e
    have hp' : x.pure = true ∧ D.pureL xs = true := by simpa [D.pureL] using hp
    obtain ⟨as, rd⟩ := Dp.reads I (pyP x) _ _ (Dp.of_pure x _ hp'.1 q) r
    exact .cons ⟨as, rd⟩ (each_reads I (a := a) (o := o) t s' hp'.2)
theorem pureL_of : ∀ {xs : List D}, (∀ x ∈ xs, x.pure = true) → D.pureL xs = true
  | [], _ => rfl
  | x :: xs, h => by simp [D.pureL, h x List.mem_cons_self, pureL_of fun y m => h y (List.mem_cons_of_mem _ m)]
theorem pureL_mem : ∀ {xs : List D}, D.pureL xs = true → ∀ x ∈ xs, x.pure = true
  | x :: xs, h, y, m => by
    have h' : x.pure = true ∧ D.pureL xs = true := by simpa [D.pureL] using h
    rcases List.mem_cons.mp m with e | e
    · rw [e]; exact h'.1
    · exact pureL_mem h'.2 y e
mutual
theorem reads_nil {h : Heap} : ∀ (d : D) (u : Value) (as : List Addr), d.pure = true → Reads h u (pyP d) as → as = []
  | .non, _, _, _, r => by cases r; rfl
  | .bl _, _, _, _, r => by cases r; rfl
  | .int _, _, _, _, r => by cases r; rfl
  | .str _, _, _, _, r => by cases r; rfl
  | .tup xs, _, _, hp, r => by
    cases r with
    | tuple _ _ _ h4 => exact readsL_nil xs _ _ (by simpa [D.pure] using hp) h4
  | .ref _, _, _, hp, _ => by simp [D.pure] at hp
theorem readsL_nil {h : Heap} : ∀ (xs : List D) (us : List Value) (as : List Addr), D.pureL xs = true → ReadsAll h us (pyPL xs) as → as = []
  | [], _, _, _, r => by cases r; rfl
  | x :: xs, _, _, hp, r => by
    have hp' : x.pure = true ∧ D.pureL xs = true := by simpa [D.pureL] using hp
    cases r with
    | cons h1 h2 => rw [reads_nil x _ _ hp'.1 h1, readsL_nil xs _ _ hp'.2 h2]; rfl
end
/-- behind the collecting -/
theorem sort_tail (hu : X.A.units + 64 < cLine) {pins : List (Addr × Obj)} {σ : L2.St} {H : Hp} {s : Shared} {ρ : List Addr} {vs : List V} {us : List Value} {xs : List D} {Q : VK} {h' : Heap} {tk : Nat} (I : Inv X pins σ H s) (rv : Vals vs us) (r : RVs X.K ρ H vs xs) (ok : OkS xs) (of : okF xs = true) (hl : xs.length ≤ sizeLine)
    (hk : ∀ b o, s.heap.get? b = some o → h'.get? b = some o) (q : ∀ l, H l = none → Q (.ref l) (upd H l (.lst ((pickV vs xs).map (·.1))))) {α : Type} {k : Value → Sem α} {R : α → Shared → Prop} (hR : ∀ v s', EP X pins σ Q v s' → wpAny (model X.prog X.w) X.A.in1 (k v) R X.xe s') :
    wpAny (model X.prog X.w) X.A.in1 (newList us >>= fun l => holding [l] (call (.builtin "list.sort") [l] []) >>= fun _ => k l) R X.xe { s with heap := h', toks := tk } := by
  have I1 : Inv X pins σ H { s with heap := h', toks := tk } := I.kept hk
  have lu : us.length = xs.length := by rw [← rv.length, r.len]
  refine wpAny_bind (wpAny_newList ?_ (by rw [lu]; exact hl))
  have hoL : (h'.push (seqObj "list" us.toArray 0)).get? h'.objs.size = some (seqObj "list" us.toArray 0) := Heap.get?_push_size _ rfl
  have kp : ∀ b o, h'.get? b = some o → (h'.push (seqObj "list" us.toArray 0)).get? b = some o := fun b o e => Heap.get?_push_of_some _ e
  have I2 : Inv X pins σ H { s with heap := h'.push (seqObj "list" us.toArray 0), toks := tk } := I1.kept (t' := tk) kp
  have pl : D.pureL xs = true := pureL_of ok.pure
  have mz : ∀ p ∈ vs.zip xs, p.2 ∈ xs := fun p m => (List.of_mem_zip (a := p.1) (b := p.2) m).2
  show wpAny _ _ _ _ _ { s with heap := h'.push (seqObj "list" us.toArray 0), toks := tk }
  have er : PySem.W.EachIs (fun u (p : V × D) => ∃ as, Reads (h'.push (seqObj "list" us.toArray 0)) u (pyP p.2) as ∧ h'.objs.size ∉ as) us (vs.zip xs) := by
    have e0 := PySem.W.each_mem (each_reads (a := 0) (o := seqObj "list" #[] 0) I1 rv r pl)
    exact e0.mono fun u p ⟨⟨as, rd⟩, mp⟩ => ⟨as, PyProof.Rows.Reads.keeps kp rd, fun m => by
      rw [reads_nil _ _ _ (ok.pure _ (mz p mp)) rd] at m
      cases m⟩
  refine wpAny_bind (wpAny_holding (PySem.W.list_sort_data (R := fun u (p : V × D) => RelV p.1 u) (enc := fun p : V × D => pyP p.2) hoL (each_zip (X := X) (pins := pins) (σ := σ) (H := H) (s := s) rv r.len) er ?_ ?_ (by rw [List.length_zip, r.len, Nat.min_self]; exact hl) (fun p m => ?_) fun out ol oe => ?_))
  · intro d hd d' hd'
    obtain ⟨p, m, rfl⟩ := List.mem_map.mp hd
    obtain ⟨p', m', rfl⟩ := List.mem_map.mp hd'
    exact ok.alike _ (mz p m) _ (mz p' m')
  · have e : (vs.zip xs).map (fun p : V × D => pyP p.2) = xs.map pyP := by
      rw [show (fun p : V × D => pyP p.2) = pyP ∘ (fun p : V × D => p.2) from rfl, ← List.map_map, zip_snd r.len]
    rw [e]
    exact sortable_of of
  · have := ok.depth _ (mz p m)
    show X.A.in1.units + 1 + (pyP p.2).depth < cLine
    have hun : X.A.in1.units ≤ X.A.units + 1 := by first | exact Nat.le_refl _ | exact Nat.le_succ _
    omega
  · obtain ⟨e', he'⟩ := sortedHeap_at (vs := us) (out := out.toArray) hoL
    have hlen : ((pickV vs xs).map (·.1)).length ≤ sizeLine := by
      rw [List.length_map, show (pickV vs xs).length = (vs.zip xs).length from List.length_mergeSort _, List.length_zip, r.len, Nat.min_self]
      exact hl
    refine hR _ _ ⟨.ref h'.objs.size, upd H h'.objs.size (.lst ((pickV vs xs).map (·.1))), I1.laid (t' := tk) (fun b u e => ?_) (Nat.le_refl _)
      (show ObjOk X.prog X.w _ _ _ (.lst _) from ⟨hlen, out, e', vals_out oe, he'⟩), rfl, q _ (I1.hok.fresh (Nat.le_refl _))⟩
    have hb : b < h'.objs.size := Heap.lt_size e
    rw [sortedHeap_old (Nat.ne_of_lt hb) (by rw [size_push']; exact Nat.lt_succ_of_lt hb)]
    exact Heap.get?_push_of_some _ e
def rSortD (X : Cx) : List V → Hp → VK → Prop := fun args H Q => ∃ (a : Addr) (ρ : List Addr) (xs : List D), args = [.ref a] ∧ OkS xs ∧ okF xs = true ∧ xs.length ≤ sizeLine ∧
  (((∃ vs, (SqL X.K H a vs ∨ SqT X.K H a vs ∨ ∃ ws, Rd H a (.dK ws) ∧ vs = ws.map fun p => kV p.1) ∧ RVs X.K ρ H vs xs ∧ ∀ l, H l = none → Q (.ref l) (upd H l (.lst ((pickV vs xs).map (·.1))))) ∨
    ∃ ws, Rd H a (.dT ws) ∧ xs = ws.map (fun p => keyT p.1) ∧ ∀ bs, IsKeys H ws bs → ∀ l, H l = none → Q (.ref l) (upd H l (.lst ((pickV (bs.map V.ref) xs).map (·.1))))))
theorem cr_sortedD (hc : X.calm = true) (hu : X.A.units + 64 < cLine) : CallR X (.builtin "sorted") (rSortD X) := by
  intro pins s σ H args us Q I r h
  obtain ⟨a, ρ, xs, rfl, ok, of, hl, q⟩ := h
  obtain ⟨u, rfl, rx⟩ := r.one
  cases rx
  refine Calls.call_function_entry kind_sorted plain_sorted entry_sorted (args_sorted1 _) ?_
  unfold Builtin.«sorted»
  refine wpAny_bind (m := checkCount "sorted" 1 1 _) (wpAny_pure ?_)
  rcases q with ⟨vs, q1, q2, q3⟩ | ⟨ws, q1, rfl, q3⟩
  · have col : Coll X H a vs := by
      rcases q1 with q1 | q1 | ⟨ws, q1, rfl⟩
      · exact coll_list q1
      · exact coll_tup q1
      · exact coll_dK hc q1
    refine wpAny_bind (col pins σ s _ I fun h' tk us rv hk => ?_)
    exact sort_tail (tk := tk) hu I rv q2 ok of hl hk q3 fun v s' x => wpAny_pure ⟨_, rfl, x⟩
  · refine wpAny_bind (coll_dT hc q1 pins σ s _ I fun h' tk bs ks hk => ?_)
    have rv : Vals (bs.map V.ref) (bs.map Value.ref) := vals_refs bs
    exact sort_tail (tk := tk) hu I rv (keys_vs (ρ := ρ) ks) ok of hl hk (q3 bs ks) fun v s' x => wpAny_pure ⟨_, rfl, x⟩
end
end Mini
end

section
/-! Mini: built-in functions and methods (own work). -/
namespace Mini
open PySem PySem.Spec PyProof.Rows L2

def biName : Bi → Str
  | .abs => "abs" | .all => "all" | .any => "any" | .int => "int" | .len => "len" | .list => "list" | .tuple => "tuple" | .repr => "repr"
  | .max2 => "max" | .min2 => "min" | .maxL => "max" | .minL => "min" | .sum => "sum" | .sorted => "sorted" | .tpl => "tuple" | .dict => "dict" | .bad => ""
section
variable {X : Cx} {C : List Cl} {ca : Nat → Addr}
/-- what the evaluator makes of the arguments is what the rule wants -/
def BiR (X : Cx) (C : List Cl) (ca : Nat → Addr) (g : List D → List O → Option (R D)) (r : List V → Hp → VK → Prop) : Prop :=
  ∀ {ρ : List Addr} {H : Hp} {h : List O} {Wc : Value → Option Addr → Hp → Prop} {Q : VK} {vs : List V} {ds : List D}, Wd X.K ρ h H → RVs X.K ρ H vs ds → Post ⟨X.K, C, ca⟩ ρ H (relD X.K) Wc Q (g ds h) → r vs H Q
section
variable {K : PySem.W.Frag} {ρ : List Addr} {H : Hp} {h : List O}
theorem rvs1 {d : D} {vs : List V} (r : RVs K ρ H vs [d]) : ∃ v, vs = [v] ∧ RV K ρ H v d := by
  obtain ⟨v, r', rfl, q, s⟩ := r
  cases s
  exact ⟨v, rfl, q⟩
theorem rvs2 {d e : D} {vs : List V} (r : RVs K ρ H vs [d, e]) : ∃ v u, vs = [v, u] ∧ RV K ρ H v d ∧ RV K ρ H u e := by
  obtain ⟨v, r', rfl, q, s⟩ := r
  obtain ⟨u, r'', rfl, q', s'⟩ := s
  cases s'
  exact ⟨v, u, rfl, q, q'⟩
theorem len_seq (w : Wd K ρ h H) {d : D} {xs : List D} {v : V} (r : RV K ρ H v d) (e : seqOf h d = some xs) : ∃ p ys, v = .ref p ∧ (SqL K H p ys ∨ SqT K H p ys) ∧ ys.length = xs.length := by
  obtain ⟨a, vs, rfl, q, s⟩ := seq_of w r e
  exact ⟨a, vs, rfl, q, s.len⟩
end
theorem abs_ok : BiR X C ca abs1 (fun xs H Q => ∃ i, xs = [.int i] ∧ Q (.int (if i < 0 then -i else i)) H) := by
  intro ρ H h Wc Q vs ds w r p
  unfold abs1 at p
  split at p
  · obtain ⟨v, rfl, q⟩ := rvs1 r
    cases q
    exact ⟨_, rfl, post_int w p⟩
  · exact p.elim
theorem int_ok : BiR X C ca int1 (fun xs H Q => (∃ i, xs = [.int i] ∧ Q (.int i) H) ∨ ∃ k, xs = [.bl k] ∧ Q (.int (if k then 1 else 0)) H) := by
  intro ρ H h Wc Q vs ds w r p
  unfold int1 at p
  split at p
  · obtain ⟨v, rfl, q⟩ := rvs1 r
    cases q
    exact .inl ⟨_, rfl, post_int w p⟩
  · obtain ⟨v, rfl, q⟩ := rvs1 r
    cases q
    exact .inr ⟨_, rfl, post_int w p⟩
  · exact p.elim
theorem call_len_dK : CallR X (.builtin "len") (fun xs H Q => ∃ a kvs, xs = [.ref a] ∧ Rd H a (.dK kvs) ∧ Q (.int kvs.length) H) := by
  intro pins s σ H xs us Q I r h
  obtain ⟨a, kvs, rfl, e, q⟩ := h
  obtain ⟨u, rfl, rx⟩ := r.one
  cases rx
  exact d_len I e fun t s' I' => ⟨.int kvs.length, H, I', ⟨t, rfl⟩, q⟩
theorem len_ok : BiR X C ca len1 (fun xs H Q => ((∃ p ys, xs = [.ref p] ∧ (SqL X.K H p ys ∨ SqT X.K H p ys) ∧ Q (.int ys.length) H) ∨ ∃ z, xs = [.str z] ∧ z.length ≤ sizeLine ∧ Q (.int z.length) H) ∨ ∃ a kvs, xs = [.ref a] ∧ Rd H a (.dK kvs) ∧ Q (.int kvs.length) H) := by
  intro ρ H h Wc Q vs ds w r p
  unfold len1 at p
  split at p
  · obtain ⟨v, rfl, q⟩ := rvs1 r
    cases q
    split at p
    · rename_i e
      exact .inl (.inr ⟨_, rfl, by rw [← lim_eq]; exact e, post_int w p⟩)
    · exact p.elim
  · obtain ⟨v, rfl, q⟩ := rvs1 r
    obtain ⟨a, us, rfl, q, s⟩ := q
    refine .inl (.inl ⟨a, us, rfl, .inr (sqt q), ?_⟩)
    rw [s.len]
    exact post_int w p
  · obtain ⟨v, rfl, q⟩ := rvs1 r
    split at p
    · rename_i xs e
      obtain ⟨a, us, rfl, _, q, s⟩ := rd_lst w q e
      refine .inl (.inl ⟨a, us, rfl, .inl q, ?_⟩)
      rw [s.len]
      exact post_int w p
    · split at p
      · rename_i t kvs e
        obtain ⟨a, rfl, _, q⟩ := rd_dct w q e
        cases t with
        | true => exact p.elim
        | false =>
          rcases q with ⟨_, ws, e1, dr⟩ | ⟨z, _⟩
          · refine .inr ⟨a, ws, rfl, e1, ?_⟩
            rw [dr.len]
            exact post_int w p
          · cases z
      · exact p.elim
  · exact p.elim
section
variable {K : PySem.W.Frag} {ρ : List Addr} {H : Hp} {h : List O}
theorem ints_at (w : Wd K ρ h H) {vs : List V} {ds : List D} {ns : List Int} (r : RVs K ρ H vs ds) (e : ints1 ds h = some ns) : ∃ a, vs = [.ref a] ∧ SqL K H a (ns.map V.int) := by
  unfold ints1 at e
  split at e
  · split at e
    · rename_i xs e1
      obtain ⟨v, rfl, q⟩ := rvs1 r
      obtain ⟨a, us, rfl, _, q, s⟩ := rd_lst w q e1
      rw [s.map_int e] at q
      exact ⟨a, rfl, q⟩
    · cases e
  · cases e
theorem bools_at (w : Wd K ρ h H) {vs : List V} {ds : List D} {ns : List Bool} (r : RVs K ρ H vs ds) (e : bools1 ds h = some ns) : ∃ a, vs = [.ref a] ∧ SqL K H a (ns.map V.bl) := by
  unfold bools1 at e
  split at e
  · split at e
    · rename_i xs e1
      obtain ⟨v, rfl, q⟩ := rvs1 r
      obtain ⟨a, us, rfl, _, q, s⟩ := rd_lst w q e1
      rw [s.map_bl e] at q
      exact ⟨a, rfl, q⟩
    · cases e
  · cases e
end
theorem all_ok : BiR X C ca all1 (rAll X.K) := by
  intro ρ H h Wc Q vs ds w r p
  unfold all1 at p
  split at p
  · rename_i bs e
    obtain ⟨a, rfl, q⟩ := bools_at w r e
    exact ⟨a, bs, rfl, q, post_bl w p⟩
  · exact p.elim
theorem any_ok : BiR X C ca any1 (rAny X.K) := by
  intro ρ H h Wc Q vs ds w r p
  unfold any1 at p
  split at p
  · rename_i bs e
    obtain ⟨a, rfl, q⟩ := bools_at w r e
    exact ⟨a, bs, rfl, q, post_bl w p⟩
  · exact p.elim
theorem list_ok : BiR X C ca list1 (fun xs H Q => ∃ p ys, xs = [.ref p] ∧ (SqL X.K H p ys ∨ SqT X.K H p ys) ∧ ∀ l, H l = none → Q (.ref l) (upd H l (.lst ys))) := by
  intro ρ H h Wc Q vs ds w r p
  unfold list1 at p
  split at p
  · split at p
    · rename_i xs e
      obtain ⟨v, rfl, q⟩ := rvs1 r
      obtain ⟨a, us, rfl, q, s⟩ := seq_of w q e
      exact ⟨a, us, rfl, q, post_alloc w s p⟩
    · exact p.elim
  · exact p.elim
theorem tuple_ok : BiR X C ca tuple1 (fun xs H Q => ∃ p ys, xs = [.ref p] ∧ ((SqL X.K H p ys ∧ ∀ l, H l = none → Q (.ref l) (upd H l (.tup ys))) ∨ (SqT X.K H p ys ∧ Q (.ref p) H))) := by
  intro ρ H h Wc Q vs ds w r p
  unfold tuple1 at p
  split at p
  · obtain ⟨v, rfl, a, us, rfl, q, s⟩ := rvs1 r
    exact ⟨a, us, rfl, .inr ⟨sqt q, p.ok Xt.refl w ⟨a, us, rfl, q, s⟩⟩⟩
  · split at p
    · rename_i xs e
      obtain ⟨v, rfl, q⟩ := rvs1 r
      obtain ⟨a, us, rfl, _, q, s⟩ := rd_lst w q e
      exact ⟨a, us, rfl, .inl ⟨q, post_tup w s p⟩⟩
    · exact p.elim
  · exact p.elim
theorem max2_ok : BiR X C ca maxF (fun xs H Q => ∃ i j, xs = [.int i, .int j] ∧ Q (.int (if j > i then j else i)) H) := by
  intro ρ H h Wc Q vs ds w r p
  unfold maxF at p
  split at p
  · obtain ⟨v, u, rfl, q, q'⟩ := rvs2 r
    cases q; cases q'
    exact ⟨_, _, rfl, post_int w p⟩
  · exact p.elim
theorem min2_ok : BiR X C ca minF (fun xs H Q => ∃ i j, xs = [.int i, .int j] ∧ Q (.int (if j < i then j else i)) H) := by
  intro ρ H h Wc Q vs ds w r p
  unfold minF at p
  split at p
  · obtain ⟨v, u, rfl, q, q'⟩ := rvs2 r
    cases q; cases q'
    exact ⟨_, _, rfl, post_int w p⟩
  · exact p.elim
theorem maxI_is : ∀ (ns : List Int) (m : Int), m ∈ ns → (∀ y, y ∈ ns → y ≤ m) → maxI ns = m
  | [], m, h, _ => nomatch h
  | [x], m, h, _ => by
    have e : m = x := by simpa using h
    rw [e]; rfl
  | x :: y :: r, m, h, g => by
    have ex : ∀ ns : List Int, ns ≠ [] → maxI ns ∈ ns ∧ ∀ z, z ∈ ns → z ≤ maxI ns := by
      intro ns
      induction ns with
      | nil => intro h; exact absurd rfl h
      | cons a l ih =>
        intro _
        cases l with
        | nil => exact ⟨List.mem_cons_self, fun z hz => by
            have e : z = a := by simpa using hz
            rw [e]; exact Int.le_refl _⟩
        | cons b l =>
          obtain ⟨h1, h2⟩ := ih (List.cons_ne_nil _ _)
          show (if maxI (b :: l) ≤ a then a else maxI (b :: l)) ∈ _ ∧ ∀ z, z ∈ _ → z ≤ (if maxI (b :: l) ≤ a then a else maxI (b :: l))
          split
          · rename_i hle
            exact ⟨List.mem_cons_self, fun z hz => by
              rcases List.mem_cons.mp hz with e | e
              · rw [e]; exact Int.le_refl _
              · exact Int.le_trans (h2 z e) hle⟩
          · rename_i hle
            exact ⟨List.mem_cons_of_mem _ h1, fun z hz => by
              rcases List.mem_cons.mp hz with e | e
              · rw [e]; omega
              · exact h2 z e⟩
    obtain ⟨h1, h2⟩ := ex (x :: y :: r) (List.cons_ne_nil _ _)
    exact Int.le_antisymm (g _ h1) (h2 _ h)
theorem minI_is : ∀ (ns : List Int) (m : Int), m ∈ ns → (∀ y, y ∈ ns → m ≤ y) → minI ns = m
  | [], m, h, _ => nomatch h
  | [x], m, h, _ => by
    have e : m = x := by simpa using h
    rw [e]; rfl
  | x :: y :: r, m, h, g => by
    have ex : ∀ ns : List Int, ns ≠ [] → minI ns ∈ ns ∧ ∀ z, z ∈ ns → minI ns ≤ z := by
      intro ns
      induction ns with
      | nil => intro h; exact absurd rfl h
      | cons a l ih =>
        intro _
        cases l with
        | nil => exact ⟨List.mem_cons_self, fun z hz => by
            have e : z = a := by simpa using hz
            rw [e]; exact Int.le_refl _⟩
        | cons b l =>
          obtain ⟨h1, h2⟩ := ih (List.cons_ne_nil _ _)
          show (if a ≤ minI (b :: l) then a else minI (b :: l)) ∈ _ ∧ ∀ z, z ∈ _ → (if a ≤ minI (b :: l) then a else minI (b :: l)) ≤ z
          split
          · rename_i hle
            exact ⟨List.mem_cons_self, fun z hz => by
              rcases List.mem_cons.mp hz with e | e
              · rw [e]; exact Int.le_refl _
              · exact Int.le_trans hle (h2 z e)⟩
          · rename_i hle
            exact ⟨List.mem_cons_of_mem _ h1, fun z hz => by
              rcases List.mem_cons.mp hz with e | e
              · rw [e]; omega
              · exact h2 z e⟩
    obtain ⟨h1, h2⟩ := ex (x :: y :: r) (List.cons_ne_nil _ _)
    exact Int.le_antisymm (h2 _ h) (g _ h1)
theorem maxL_ok : BiR X C ca maxL1 (rMax X.K) := by
  intro ρ H h Wc Q vs ds w r p
  unfold maxL1 at p
  split at p
  · rename_i ns e
    obtain ⟨a, rfl, q⟩ := ints_at w r e
    split at p
    · rename_i hl
      refine ⟨a, ns, rfl, q, hl, fun m m1 m2 => ?_⟩
      rw [← maxI_is ns m m1 m2]
      exact post_int w p
    · exact p.elim
  · exact p.elim
theorem minL_ok : BiR X C ca minL1 (rMin X.K) := by
  intro ρ H h Wc Q vs ds w r p
  unfold minL1 at p
  split at p
  · rename_i ns e
    obtain ⟨a, rfl, q⟩ := ints_at w r e
    split at p
    · rename_i hl
      refine ⟨a, ns, rfl, q, hl, fun m m1 m2 => ?_⟩
      rw [← minI_is ns m m1 m2]
      exact post_int w p
    · exact p.elim
  · exact p.elim
theorem sum_ok : BiR X C ca sum1 (rSum X.K) := by
  intro ρ H h Wc Q vs ds w r p
  unfold sum1 at p
  split at p
  · rename_i ns e
    obtain ⟨a, rfl, q⟩ := ints_at w r e
    exact ⟨a, ns, rfl, q, post_int w p⟩
  · exact p.elim
theorem insI_perm (x : Int) : ∀ l : List Int, (insI x l).Perm (x :: l)
  | [] => .refl _
  | y :: r => by
    unfold insI
    split
    · exact .refl _
    · exact ((insI_perm x r).cons y).trans (.swap x y r)
theorem sortI_perm : ∀ l : List Int, (sortI l).Perm l
  | [] => .refl _
  | x :: r => (insI_perm x (sortI r)).trans ((sortI_perm r).cons x)
theorem insI_sorted (x : Int) : ∀ l : List Int, l.Pairwise (· ≤ ·) → (insI x l).Pairwise (· ≤ ·)
  | [], _ => by simp [insI]
  | y :: r, h => by
    unfold insI
    have h' := List.pairwise_cons.mp h
    split
    · rename_i e
      refine List.pairwise_cons.mpr ⟨fun z hz => ?_, h⟩
      rcases List.mem_cons.mp hz with q | q
      · rw [q]; exact e
      · exact Int.le_trans e (h'.1 z q)
    · rename_i e
      refine List.pairwise_cons.mpr ⟨fun z hz => ?_, insI_sorted x r h'.2⟩
      rcases List.mem_cons.mp ((insI_perm x r).mem_iff.mp hz) with q | q
      · rw [q]; omega
      · exact h'.1 z q
theorem sortI_sorted : ∀ l : List Int, (sortI l).Pairwise (· ≤ ·)
  | [] => .nil
  | x :: r => insI_sorted x _ (sortI_sorted r)
theorem sorted_unique : ∀ {l m : List Int}, l.Perm m → l.Pairwise (· ≤ ·) → m.Pairwise (· ≤ ·) → l = m
  | [], m, p, _, _ => (List.Perm.nil_eq p)
  | x :: l, [], p, _, _ => nomatch p.length_eq
  | x :: l, y :: m, p, h1, h2 => by
    have a := List.pairwise_cons.mp h1
    have b := List.pairwise_cons.mp h2
    have e : x = y := by
      have m1 : x ∈ y :: m := p.mem_iff.mp List.mem_cons_self
      have m2 : y ∈ x :: l := p.mem_iff.mpr List.mem_cons_self
      rcases List.mem_cons.mp m1 with q | q
      · exact q
      · rcases List.mem_cons.mp m2 with q' | q'
        · exact q'.symm
        · exact Int.le_antisymm (a.1 y q') (b.1 x q)
    subst e
    rw [sorted_unique (List.Perm.cons_inv p) a.2 b.2]
theorem sortedD_ok : BiR X C ca sortedD (rSortD X) := by
  intro ρ H h Wc Q vs ds w r p
  unfold sortedD at p
  split at p
  · rename_i d
    obtain ⟨v, rfl, q⟩ := rvs1 r
    split at p
    · rename_i xs e
      split at p
      · rename_i hc
        simp only [Bool.and_eq_true, decide_eq_true_eq] at hc
        have ok := okS_of hc.1.1
        have hl : xs.length ≤ sizeLine := by rw [← lim_eq]; exact hc.2
        have fin : ∀ {us : List V}, RVs X.K ρ H us xs → ∀ l, H l = none → Q (.ref l) (upd H l (.lst ((pickV us xs).map (·.1)))) := fun rr => post_alloc w (pick_rv rr ok) p
        unfold itemsS at e
        split at e
        · rename_i ys e1
          cases e
          obtain ⟨a, us, rfl, q1, s⟩ := seq_of w q e1
          refine ⟨a, ρ, xs, rfl, ok, hc.1.2, hl, .inl ⟨us, ?_, s, fin s⟩⟩
          rcases q1 with q1 | q1
          · exact .inl q1
          · exact .inr (.inl q1)
        · split at e
          · rename_i n
            split at e
            · rename_i t kvs e2
              cases e
              obtain ⟨a, rfl, _, qd⟩ := rd_dct w q e2
              refine ⟨a, ρ, _, rfl, ok, hc.1.2, hl, ?_⟩
              rcases qd with ⟨_, ws, e3, dr⟩ | ⟨_, ws, e3, dr⟩
              · left
                have rr : RVs X.K ρ H (ws.map fun p => kV p.1) (kvs.map (·.1)) := by
                  rw [← dr.1]
                  clear dr e3
                  induction ws with
                  | nil => exact rfl
                  | cons p ws ih => exact ⟨kV p.1, _, rfl, kV_rv p.1, ih⟩
                exact ⟨_, .inr (.inr ⟨ws, e3, rfl⟩), rr, fin rr⟩
              · right
                refine ⟨ws, e3, dr.1.symm, fun bs ks => ?_⟩
                refine fin ?_
                rw [← dr.1]
                exact keys_vs ks
            · cases e
          · cases e
      · exact p.elim
    · exact p.elim
  · exact p.elim
theorem sorted_ok : BiR X C ca sorted1 (fun xs H Q => rSortedI X.K xs H Q ∨ rSortD X xs H Q) := by
  intro ρ H h Wc Q vs ds w r p
  unfold sorted1 at p
  split at p
  · rename_i ns e
    obtain ⟨a, rfl, q⟩ := ints_at w r e
    refine .inl ⟨a, ns, rfl, q, fun ns' b pm so n => ?_⟩
    have e' : ns' = sortI ns := sorted_unique (pm.trans (sortI_perm ns).symm) so (sortI_sorted ns)
    subst e'
    exact post_alloc w (RVs.of_ints _) p b n
  · exact .inr (sortedD_ok (X := X) (C := C) (ca := ca) w r p)
/-- repr of data, where no other repr runs -/
def rRepr (K : PySem.W.Frag) : List V → Hp → VK → Prop := fun xs H Q => ∃ v d, xs = [v] ∧ Dp K H v d ∧ d.showable = true ∧ d.hasDict = false ∧ d.shown.length ≤ sizeLine ∧ d.depth ≤ 16 ∧ Q (.str d.shown) H
theorem call_reprD (hg : X.A.guards = some []) (hu : X.A.units + 64 < cLine) : CallR X (.builtin "repr") (rRepr X.K) := by
  intro pins s σ H xs us Q I rv hq
  obtain ⟨v, d, rfl, dp, hs, hd, hl, hdp, q⟩ := hq
  obtain ⟨u, rfl, ru⟩ := Vals.one rv
  have fin : ∀ (h' : Heap) (u : Tok) (tk : Nat), (∀ b o, s.heap.get? b = some o → h'.get? b = some o) → EP X pins σ Q (.str d.shown u) { s with heap := h', toks := tk } := fun h' u tk k =>
    ⟨.str d.shown, H, I.kept (t' := tk) k, ⟨u, rfl⟩, q⟩
  cases v with
  | non =>
    cases dp; cases ru
    exact P.repr_of_none (fin s.heap _ _ fun _ _ e => e)
  | bl b =>
    cases dp; cases ru
    exact P.repr_of_bool (fin s.heap _ _ fun _ _ e => e)
  | int i =>
    cases dp; obtain ⟨t, rfl⟩ := ru
    exact P.repr_of_int (by simpa [PyData.showable] using hs) (fin s.heap _ _ fun _ _ e => e)
  | str x =>
    cases dp; obtain ⟨t, rfl⟩ := ru
    exact P.repr_of_str (fin s.heap _ _ fun _ _ e => e) hl
  | ref a =>
    have ru' : u = .ref a := ru
    subst ru'
    obtain ⟨as, rd⟩ := Dp.reads I d _ _ dp rfl
    exact repr_of_reads' rd hs (fun z => by rw [hd] at z; cases z) hg (by omega) (fun _ _ e => e) (fun h' u tk k => fin h' u tk k) hl
  | _ => cases dp
theorem repr_ok : BiR X C ca repr1 (rRepr X.K) := by
  intro ρ H h Wc Q vs ds w r p
  unfold repr1 at p
  split at p
  · rename_i d
    split at p
    · rename_i d' e
      split at p
      · rename_i hc
        simp only [Bool.and_eq_true, decide_eq_true_eq, Bool.not_eq_true'] at hc
        obtain ⟨v, rfl, q⟩ := rvs1 r
        exact ⟨v, d', rfl, Dp.of_pyF w _ _ _ _ q e, hc.1.1.1, hc.2, by rw [← lim_eq]; exact hc.1.1.2, hc.1.2, p.ok Xt.refl w rfl⟩
      · exact p.elim
    · exact p.elim
  · exact p.elim
end
end Mini
end

section
/-! Mini: tuples known to have no attributes; dict(..) of them (own work). -/
namespace Mini
open PySem PySem.Spec PyProof.Rows L2
section
variable {X : Cx} {C : List Cl} {ca : Nat → Addr}
/-- tuple(list), the new tuple's object known -/
theorem call_tpl : CallR X (.type "tuple") (fun xs H Q => ∃ p ys, xs = [.ref p] ∧ SqL X.K H p ys ∧ ∀ l o, H l = none → o.dict = none → Q (.ref l) (upd H l (.frz o (.tup ys)))) := by
  intro pins s σ H xs us Q I r h
  obtain ⟨p, ys, rfl, hq, q⟩ := h
  obtain ⟨u, rfl, rx⟩ := r.one
  cases rx
  obtain ⟨its, r', pl, hz⟩ := I.list hq
  have hlen := r'.length
  refine PySem.call_tuple_list pl.isList (fun h' kp => ?_) (by rw [List.size_toArray]; omega)
  have I1 : Inv X pins σ H { s with heap := h' } := I.kept (t' := s.toks) kp
  have I2 := I1.laid (t' := s.toks) (a := h'.objs.size) (o := .frz { cls := .type "tuple", data := .seq its.toArray } (.tup ys)) (h' := h'.push { cls := .type "tuple", data := .seq its.toArray })
    (fun b o e => Heap.get?_push_of_some _ e) (Nat.le_refl _) ⟨Heap.get?_push_size _ rfl, hz, its, r', IsTup.new _ _⟩
  exact ⟨.ref h'.objs.size, _, I2, rfl, q _ _ (I1.hok.fresh (Nat.le_refl _)) rfl⟩
/-- pairs (key, value) -/
abbrev Prs (H : Hp) : List V → List (List Key × V) → Prop := Paired fun x kv => ∃ t q, x = .ref t ∧ H t = some (.tup [.ref q, kv.2]) ∧ H q = some (.tup (kv.1.map kV))
theorem prs_at {P : Program} {w : World} {H : Hp} {h : Heap} (ok : HOk P w H h) {vs : List V} {kvs : List (List Key × V)} (p : Prs H vs kvs) : ∀ {its : List Value}, Vals vs its →
    ∃ (Ts : List Addr) (xs : List (List Key × Addr × Value)), its = Ts.map .ref ∧ Paired (fun t (x : List Key × Addr × Value) => h.IsTuple t #[.ref x.2.1, x.2.2]) Ts xs ∧ KT H kvs xs := by
  induction p with
  | nil =>
    intro its r
    cases r
    exact ⟨[], [], rfl, .nil, .nil⟩
  | @cons x kv xs kvs hx t ih =>
    intro its r
    cases r with
    | @cons _ u _ us r1 r2 =>
      obtain ⟨tt, q, rfl, e1, e2⟩ := hx
      cases r1
      obtain ⟨Ts, ys, rfl, a, b⟩ := ih r2
      obtain ⟨_, its, r3, it⟩ := (show ObjOk P w H h tt (.tup [.ref q, kv.2]) from ok tt _ e1)
      cases r3 with
      | @cons _ u1 _ us1 r4 r5 =>
        cases r4
        obtain ⟨u2, rfl, r6⟩ := Vals.one r5
        exact ⟨tt :: Ts, (kv.1, q, u2) :: ys, rfl, .cons it a, .cons ⟨rfl, e2, r6⟩ b⟩
theorem stored_self {K : Type} [DecidableEq K] : ∀ (xs acc : List (K × Addr × Value)), ((acc ++ xs).map (·.1)).Nodup → storedAllH acc xs = acc ++ xs
  | [], acc, _ => by simp [storedAllH]
  | x :: xs, acc, h => by
    have out : atKey acc x.1 = none := by
      unfold atKey
      rw [List.find?_eq_none.mpr]
      · rfl
      · intro p hp z
        have e : p.1 = x.1 := by simpa using z
        rw [List.map_append, List.map_cons] at h
        exact (List.nodup_append.mp h).2.2 p.1 (List.mem_map.mpr ⟨p, hp, rfl⟩) x.1 List.mem_cons_self e
    show storedAllH (storedH acc x.1 x.2.1 x.2.2) xs = _
    rw [storedH_new out, stored_self xs _ (by simpa using h), List.append_assoc]
    rfl
theorem get_tuple {h : Heap} : ∀ {Ts : List Addr} {xs : List (List Key × Addr × Value)}, Paired (fun t (x : List Key × Addr × Value) => h.IsTuple t #[.ref x.2.1, x.2.2]) Ts xs → ∀ (j : Nat) (x : List Key × Addr × Value), xs[j]? = some x → ∃ t, Ts[j]? = some t ∧ h.IsTuple t #[.ref x.2.1, x.2.2]
  | _, _, .nil, j, x, e => by simp at e
  | t :: _, y :: _, .cons r s, j, x, e => by
    cases j with
    | zero => simp at e; subst e; exact ⟨t, rfl, r⟩
    | succ j =>
      obtain ⟨u, h1, h2⟩ := get_tuple s j x (by simpa using e)
      exact ⟨u, by simpa using h1, h2⟩
theorem kt_keys {H : Hp} {kvs : List (List Key × V)} {xs : List (List Key × Addr × Value)} (r : KT H kvs xs) : xs.map (·.1) = kvs.map (·.1) := by
  induction r with
  | nil => rfl
  | @cons p q ps qs h t ih => rw [List.map_cons, List.map_cons, ih, h.1]
theorem kt_key {P : Program} {w : World} {H : Hp} {h : Heap} (ok : HOk P w H h) {kvs : List (List Key × V)} {xs : List (List Key × Addr × Value)} (r : KT H kvs xs) : ∀ x ∈ xs, H x.2.1 = some (.tup (x.1.map kV)) := by
  induction r with
  | nil => intro x hx; exact nomatch hx
  | @cons p q ps qs hq t ih =>
    intro x hx
    rcases List.mem_cons.mp hx with e | hx
    · subst e; rw [← hq.1]; exact hq.2.1
    · exact ih x hx
/-- dict(xs), xs a tuple of pairs that is known to have no attributes -/
theorem call_dictT (hc : X.calm = true) (hu : X.A.units + 64 < cLine) : CallR X (.type "dict") (fun xs H Q => ∃ a o vs kvs, xs = [.ref a] ∧ H a = some (.frz o (.tup vs)) ∧ o.dict = none ∧ Prs H vs kvs ∧ (kvs.map (·.1)).Nodup ∧ ∀ l, H l = none → Q (.ref l) (upd H l (.dT kvs))) := by
  intro pins s σ H xs us Q I r h
  obtain ⟨a, o, vs, kvs, rfl, e0, od, pr, nd, q⟩ := h
  obtain ⟨u, rfl, rx⟩ := r.one
  cases rx
  obtain ⟨g0, hz, its, rv, it⟩ := (show ObjOk X.prog X.w H s.heap a (.frz o (.tup vs)) from I.hok a _ e0)
  obtain ⟨o', g1, cl, n, dt⟩ := it
  rw [g0] at g1
  cases g1
  obtain ⟨Ts, zs, rfl, tp, kt⟩ := prs_at I.hok pr rv
  have lz : zs.length = kvs.length := (Paired.length kt).symm
  have lT : Ts.length = zs.length := Paired.length tp
  have lv : vs.length = Ts.length := by rw [rv.length, List.length_map]
  let ps : List (Value × Value) := zs.map fun x => (.ref x.2.1, x.2.2)
  have lp : ps.length = zs.length := List.length_map _
  have pi : PairItems s.heap (Ts.map Value.ref).toArray (fun j => Ts.getD j 0) ps := by
    refine ⟨by rw [List.size_toArray, List.length_map, lp, lT], fun j k v hj => ?_⟩
    rw [List.getElem?_map] at hj
    obtain ⟨x, hx, e⟩ := Option.map_eq_some_iff.mp hj
    cases e
    obtain ⟨t, ht, it⟩ := get_tuple tp j x hx
    refine ⟨?_, .inl ?_⟩
    · rw [List.getElem?_toArray, List.getElem?_map, ht]
      show some (Value.ref t) = some (Value.ref (Ts.getD j 0))
      rw [List.getD_eq_getElem?_getD, ht]; rfl
    · show s.heap.IsTuple (Ts.getD j 0) _
      rw [List.getD_eq_getElem?_getD, ht]; exact it
  have sz : ps.length ≤ sizeLine := by rw [lp, ← lT, ← lv]; exact hz
  refine call_dict_pairsH (knd := tupleKind (mixKind X.prog X.w)) (ps := zs) (PairArg.tuple a (Ts.map Value.ref).toArray (fun j => Ts.getD j 0) ps) (I.ok.hd hc) (tupleKind_room_in1 (A := X.A.in1) (show X.A.units + 1 + 1 < cLine by omega)) ⟨⟨o, n, g0, cl, od, dt⟩, pi⟩ ⟨lp.symm, fun i key v hr => ?_⟩ (fun h' hk x hx => ?_) sz fun h' tk dd hk => ?_
  · have hr' : ps[i]? = some (key, v) := hr
    rw [List.getElem?_map] at hr'
    obtain ⟨x, hx, e⟩ := Option.map_eq_some_iff.mp hr'
    cases e
    exact ⟨x.1, x.2.1, hx, rfl⟩
  · have hq := kt_key I.hok kt x hx
    obtain ⟨o2, i2, n2, h1, h2, h3, h4⟩ := key_of I.hok hq
    exact ⟨o2, i2, n2, hk _ _ (Nat.ne_of_lt (Heap.lt_size h1)) (fun z => nomatch z) h1, h2, h3, h4⟩
  · rw [stored_self zs [] (by rw [List.nil_append, kt_keys kt]; exact nd), List.nil_append] at dd
    obtain ⟨o3, es, ep, h1, h2, h3, h4, _, h5⟩ := dd
    have kp : ∀ b u, s.heap.get? b = some u → h'.get? b = some u := fun b u e => hk b u (fun z => nomatch z) e
    have I2 := I.laid (t' := tk) (a := s.heap.objs.size) (o := .dT kvs) kp (Nat.le_refl _) (show ObjOk X.prog X.w _ h' s.heap.objs.size (.dT kvs) from
      ⟨by rw [← lz, ← lp]; exact sz, beq_eq_false_iff_ne.mpr (Ne.symm (Nat.ne_of_lt I.big)), zs, kt.keeps fun b ys e => by
        rw [upd_ne (ne_of_none e (I.hok.fresh (Nat.le_refl _)))]; exact e, o3, es, ep, h1, h2, h3, h4, h5⟩)
    exact ⟨.ref s.heap.objs.size, _, I2, rfl, q _ (I.hok.fresh (Nat.le_refl _))⟩
theorem tpl_ok : BiR X C ca tpl1 (fun xs H Q => ∃ p ys, xs = [.ref p] ∧ SqL X.K H p ys ∧ ∀ l o, H l = none → o.dict = none → Q (.ref l) (upd H l (.frz o (.tup ys)))) := by
  intro ρ H h Wc Q vs ds w r p
  unfold tpl1 at p
  split at p
  · split at p
    · rename_i xs e
      obtain ⟨v, rfl, q⟩ := rvs1 r
      obtain ⟨a, us, rfl, _, _, q2, s⟩ := is_lst w q e
      refine ⟨a, us, rfl, .inl (.inl q2), fun l o n d => ?_⟩
      obtain ⟨x, w', r'⟩ := w.allocO n (o := .tpl xs) (u := .frz o (.tup us)) ⟨o, us, upd_same, d, RVs.mono (TS'.upd n) (fun i b hb => by
        rw [List.getElem?_append_left (List.getElem?_eq_some_iff.mp hb).1]; exact hb) _ _ s⟩
      exact p.ok x w' r'
    · exact p.elim
  · exact p.elim
theorem prs_of {K : PySem.W.Frag} {ρ : List Addr} {H : Hp} : ∀ (xs : List D) (vs : List V) (kvs : List (D × D)), RVs K ρ H vs xs → prsOf xs = some kvs →
    ∃ ws : List (List Key × V), Prs H vs ws ∧ ws.map (fun p => keyT p.1) = kvs.map (·.1) ∧ RVs K ρ H (ws.map (·.2)) (kvs.map (·.2))
  | [], vs, kvs, r, e => by
    cases r
    cases e
    exact ⟨[], .nil, rfl, rfl⟩
  | x :: xs, vs, kvs, r, e => by
    obtain ⟨v, us, rfl, r1, r2⟩ := r
    cases x with
    | tup ys =>
      cases ys with
      | nil => simp [prsOf] at e
      | cons k ys =>
        cases ys with
        | nil => simp [prsOf] at e
        | cons d ys =>
          cases ys with
          | cons z ys => simp [prsOf] at e
          | nil =>
            simp only [prsOf] at e
            split at e
            · rename_i hk
              obtain ⟨l, e1, rfl⟩ := Option.map_eq_some_iff.mp e
              obtain ⟨ws, p1, p2, p3⟩ := prs_of xs us l r2 e1
              obtain ⟨t, ws2, rfl, ht, u1, q1, rfl, s1, u2, q2, rfl, s2, s3⟩ := r1
              cases s3
              obtain ⟨js, rfl⟩ := okK_t hk
              obtain ⟨b, rfl, hb⟩ := keyT_rv s1
              exact ⟨(js, u2) :: ws, .cons ⟨t, b, rfl, ht, hb⟩ p1, by rw [List.map_cons, List.map_cons, p2], u2, _, rfl, s2, p3⟩
            · cases e
    | _ => simp [prsOf] at e
theorem ndK_nodup : ∀ kvs : List (D × D), ndK kvs = true → (kvs.map (·.1)).Nodup
  | [], _ => List.nodup_nil
  | p :: l, e => by
    unfold ndK at e
    simp only [Bool.and_eq_true, Bool.not_eq_true'] at e
    rw [List.map_cons]
    refine List.nodup_cons.mpr ⟨fun m => ?_, ndK_nodup l e.2⟩
    obtain ⟨q, hq, eq⟩ := List.mem_map.mp m
    have : (l.any fun q => q.1.beq p.1) = true := List.any_eq_true.mpr ⟨q, hq, by rw [eq]; exact beq_iff.mpr rfl⟩
    rw [this] at e
    cases e.1
theorem dict_ok : BiR X C ca dict1 (fun xs H Q => ∃ a o vs kvs, xs = [.ref a] ∧ H a = some (.frz o (.tup vs)) ∧ o.dict = none ∧ Prs H vs kvs ∧ (kvs.map (·.1)).Nodup ∧ ∀ l, H l = none → Q (.ref l) (upd H l (.dT kvs))) := by
  intro ρ H h Wc Q vs ds w r p
  unfold dict1 at p
  split at p
  · split at p
    · rename_i xs e
      split at p
      · rename_i kvs e2
        split at p
        · rename_i e3
          simp only [Bool.and_eq_true, decide_eq_true_eq] at e3
          obtain ⟨v, rfl, q⟩ := rvs1 r
          obtain ⟨a, o, us, rfl, _, q1, q2, s⟩ := rd_tpl w q e
          obtain ⟨ws, p1, p2, p3⟩ := prs_of xs us kvs s e2
          refine ⟨a, o, us, ws, rfl, q1, q2, p1, ?_, fun l n => ?_⟩
          · have nd := ndK_nodup kvs e3.1
            rw [← p2] at nd
            have : (ws.map (·.1)).Nodup := by
              have e5 : ws.map (fun p => keyT p.1) = (ws.map (·.1)).map keyT := by rw [List.map_map]; rfl
              rw [e5] at nd
              exact (List.pairwise_map.mp nd).imp fun h z => h (by rw [z])
            exact this
          · obtain ⟨x, w', r'⟩ := w.allocO n (o := .dct false true kvs) (u := .dT ws) ⟨ws, upd_same, p2, RVs.mono (TS'.upd n) (fun i b hb => by
              rw [List.getElem?_append_left (List.getElem?_eq_some_iff.mp hb).1]; exact hb) _ _ p3⟩
            exact p.ok x w' r'
        · exact p.elim
      · exact p.elim
    · exact p.elim
  · exact p.elim
end
end Mini
end

section
/-! Mini: calls of built-ins, subscripts, slices, methods, isinstance, as readings (own work). -/
namespace Mini
open PySem PySem.Spec PyProof.Rows L2
section
variable {X : Cx} {C : List Cl} {ca : Nat → Addr}
theorem bi_pe (b : Bi) (hb : b ≠ .bad) {p pos : Pos} {e : PySem.Expr} {es : List PySem.Expr} {t : TA} (hc : X.calm = true) (hu : X.A.units + 64 < cLine) (hgd : X.A.guards = some []) (hg : Gl X (biName b)) (hm : X.mg (biName b) = none) (ha : PA X (e :: es) t)
    (he : starEach (e :: es) X.env = (false, eval e X.env) :: starEach es X.env) (hpl : (backTo pos (starEach es X.env)).any (·.1) = false) :
    ∃ r, PE X (.Call (.Name (biName b) p) (e :: es) [] pos) (tCB r t) ∧ BiR X C ca (biD b) r := by
  cases b with
  | abs => exact ⟨_, pe_callB call_abs hg hm (by decide +kernel) ha (by decide) (by decide) he hpl, abs_ok⟩
  | all => exact ⟨_, pe_callB (cr_all hc) hg hm (by decide +kernel) ha (by decide) (by decide) he hpl, all_ok⟩
  | any => exact ⟨_, pe_callB (cr_any hc) hg hm (by decide +kernel) ha (by decide) (by decide) he hpl, any_ok⟩
  | int => exact ⟨_, pe_callTy call_int1 hg hm (by decide +kernel) ha (by decide) (by decide) he hpl, int_ok⟩
  | len => exact ⟨_, pe_callB ((call_len_seq.or call_len_str).or call_len_dK) hg hm (by decide +kernel) ha (by decide) (by decide) he hpl, by
      intro ρ H h Wc Q vs ds w r p
      exact len_ok (X := X) (C := C) (ca := ca) w r p⟩
  | list => exact ⟨_, pe_callTy call_list_of hg hm (by decide +kernel) ha (by decide) (by decide) he hpl, list_ok⟩
  | tuple => exact ⟨_, pe_callTy call_tuple_of hg hm (by decide +kernel) ha (by decide) (by decide) he hpl, tuple_ok⟩
  | tpl => exact ⟨_, pe_callTy call_tpl hg hm (by decide +kernel) ha (by decide) (by decide) he hpl, tpl_ok⟩
  | dict => exact ⟨_, pe_callTy (call_dictT hc hu) hg hm (by decide +kernel) ha (by decide) (by decide) he hpl, dict_ok⟩
  | repr => exact ⟨_, pe_callB (call_reprD hgd hu) hg hm (by decide +kernel) ha (by decide) (by decide) he hpl, repr_ok⟩
  | max2 => exact ⟨_, pe_callB (call_max2 hc) hg hm (by decide +kernel) ha (by decide) (by decide) he hpl, max2_ok⟩
  | min2 => exact ⟨_, pe_callB (call_min2 hc) hg hm (by decide +kernel) ha (by decide) (by decide) he hpl, min2_ok⟩
  | maxL => exact ⟨_, pe_callB (cr_max hc) hg hm (by decide +kernel) ha (by decide) (by decide) he hpl, maxL_ok⟩
  | minL => exact ⟨_, pe_callB (cr_min hc) hg hm (by decide +kernel) ha (by decide) (by decide) he hpl, minL_ok⟩
  | sum => exact ⟨_, pe_callB (cr_sum hc) hg hm (by decide +kernel) ha (by decide) (by decide) he hpl, sum_ok⟩
  | sorted => exact ⟨_, pe_callB (cr_sortedI.or (cr_sortedD hc hu)) hg hm (by decide +kernel) ha (by decide) (by decide) he hpl, sorted_ok⟩
  | bad => exact absurd rfl hb
/-! ### places and slices -/
theorem ixD_eq (n : Nat) (i : Int) : ixD n i = ixN n i := rfl
section
variable {K : PySem.W.Frag} {ρ : List Addr} {H : Hp} {h : List O}
theorem at_rv {xs : List D} {vs : List V} {i : Int} {d : D} (r : RVs K ρ H vs xs) (e : atD xs i = some d) : ∃ v, atI vs i = some v ∧ RV K ρ H v d := by
  unfold atD at e
  rw [ixD_eq, ← r.len] at e
  split at e
  · rename_i j ej
    obtain ⟨v, e1, e2⟩ := r.get e
    refine ⟨v, ?_, e2⟩
    unfold atI
    rw [ej]
    exact e1
  · cases e
theorem sIxD_eq (n d : Nat) (o : Option Int) : sIxD n d o = HT.sIx n d o := by cases o <;> rfl
theorem cut_rv {xs : List D} {vs : List V} (r : RVs K ρ H vs xs) (lo hi : Option Int) : RVs K ρ H (cutV vs lo hi) (cutD xs lo hi) := by
  unfold cutV cutD
  rw [sIxD_eq, sIxD_eq, r.len]
  exact (r.drop _).take _
end
theorem ix_dict (hu : X.A.units + 64 < cLine) : IxR X (fun x y H Q => ∃ a v, x = .ref a ∧ DGet H a y (some v) ∧ Q v H) := by
  intro value slice pins s σ H x y v u Q I rx ry h hs
  obtain ⟨a, z, rfl, g, q⟩ := h
  cases rx
  unfold subscriptTail
  refine wpAny_bind ?_
  rw [getitemInPython_of_ne (dict_typeIs I g).not_modules]
  refine wpAny_bind (wpAny_specialOf (dict_typeIs I g) PySem.F.slot_dict_getitem.lookup ?_)
  have fin : wpAny (model X.prog X.w) X.A (subscripted slice false (.ref a) u) (fun r s₃ => wpAny (model X.prog X.w) X.A (letTemporaryGo value (.ref a) r >>= fun _ => pure r) (EP X pins σ Q) X.xe s₃) X.xe s := by
    rw [hs]
    exact wpAny_operating (wpAny_mono (d_getItem (Q := fun w' s' => EP X pins σ Q w' s') (by omega) I g ry fun w' s' I' rw' => ⟨z, H, I', rw', q⟩) (fun r s₃ h₃ => wpAny_bind (wpAny_letTemporaryGo (wpAny_pure h₃))) fun _ _ x => x)
  first
    | exact wpAny_pure (wpAny_bind fin)
    | exact wpAny_bind (wpAny_pure (wpAny_bind fin))
    | exact wpAny_bind fin
theorem ix_ok (hu : X.A.units + 64 < cLine) : ∃ r : R2, IxR X r ∧ ∀ {ρ : List Addr} {H : Hp} {h : List O} {Wc : Value → Option Addr → Hp → Prop} {Q : VK} {u v : V} {x y : D}, Wd X.K ρ h H → RV X.K ρ H u x → RV X.K ρ H v y →
    Post ⟨X.K, C, ca⟩ ρ H (relD X.K) Wc Q (ixG x y h) → r u v H Q := by
  refine ⟨_, ix_list.or (ix_tup.or (ix_dict hu)), ?_⟩
  intro ρ H h Wc Q u v x y w r1 r2 p
  unfold ixG at p
  split at p
  · rename_i xs i e
    cases r2
    obtain ⟨a, us, rfl, q, s⟩ := seq_of w r1 e
    split at p
    · rename_i d e1
      obtain ⟨z, e2, e3⟩ := at_rv s e1
      have qq := p.ok Xt.refl w e3
      rcases q with q | q
      · exact .inl ⟨a, us, i, z, rfl, rfl, q, e2, qq⟩
      · exact .inr (.inl ⟨a, us, i, z, rfl, rfl, q, e2, qq⟩)
    · exact p.elim
  · unfold ixK at p
    split at p
    · split at p
      · rename_i t kvs e
        split at p
        · rename_i hk
          obtain ⟨a, rfl, _, qd⟩ := rd_dct w r1 e
          rcases dget_at qd hk r2 with ⟨z, d, g, e2, rz⟩ | ⟨g, e2⟩
          · rw [e2] at p
            exact .inr (.inr ⟨a, z, rfl, g, p.ok Xt.refl w rz⟩)
          · rw [e2] at p
            exact p.elim
        · exact p.elim
      · exact p.elim
    · exact p.elim
theorem cut_whole {α : Type} (xs : List α) {a b : Nat} (h1 : a = 0) (h2 : b = xs.length) : (xs.drop a).take (b - a) = xs := by
  subst h1; subst h2; simp
theorem sl_ok : ∃ r, SlR X r ∧ ∀ {ρ : List Addr} {H : Hp} {h : List O} {Wc : Value → Option Addr → Hp → Prop} {Q : VK} {v : V} {x : D} {l u : Option Int}, Wd X.K ρ h H → RV X.K ρ H v x →
    Post ⟨X.K, C, ca⟩ ρ H (relD X.K) Wc Q (slG x l u h) → r v l u H Q := by
  refine ⟨_, SlR.or sl_list sl_tupA, ?_⟩
  intro ρ H h Wc Q v x l u w r p
  unfold slG at p
  split at p
  · obtain ⟨a, us, rfl, q, s⟩ := r
    refine .inr ⟨a, us, rfl, sqt q, fun e => ?_, fun _ => post_tup w (cut_rv s l u) p⟩
    rename_i xs
    have e' : cutD xs l u = xs := by
      unfold cutD
      rw [sIxD_eq, sIxD_eq]
      rw [s.len] at e
      exact cut_whole xs e.1 e.2
    rw [e'] at p
    exact p.ok Xt.refl w ⟨a, us, rfl, q, s⟩
  · split at p
    · rename_i xs e
      obtain ⟨a, us, rfl, _, q, s⟩ := rd_lst w r e
      exact .inl ⟨a, us, rfl, q, post_alloc w (cut_rv s l u) p⟩
    · exact p.elim
  · exact p.elim
/-! ### methods -/
theorem append_ok {ρ : List Addr} {H : Hp} {h : List O} {Wc : Value → Option Addr → Hp → Prop} {Q : VK} {v : V} {x : D} {vs : List V} {ds : List D} (w : Wd X.K ρ h H) (r : RV X.K ρ H v x) (rs : RVs X.K ρ H vs ds)
    (p : Post ⟨X.K, C, ca⟩ ρ H (relD X.K) Wc Q (append1 x ds h)) : rAppend v vs H Q := by
  unfold append1 at p
  split at p
  · split at p
    · rename_i xs e
      split at p
      · rename_i hl
        obtain ⟨y, rfl, q⟩ := rvs1 rs
        obtain ⟨a, us, rfl, ea, eh, eH, s⟩ := is_lst w r e
        obtain ⟨x1, w1⟩ := w.write ea eH (s.append (RVs.one q))
        exact ⟨a, us, y, rfl, rfl, eH, by rw [s.len, ← lim_eq]; exact hl, p.ok x1 w1 rfl⟩
      · exact p.elim
    · exact p.elim
  · exact p.elim
theorem pop_ok {ρ : List Addr} {H : Hp} {h : List O} {Wc : Value → Option Addr → Hp → Prop} {Q : VK} {v : V} {x : D} {vs : List V} {ds : List D} (w : Wd X.K ρ h H) (r : RV X.K ρ H v x) (rs : RVs X.K ρ H vs ds)
    (p : Post ⟨X.K, C, ca⟩ ρ H (relD X.K) Wc Q (pop0 x ds h)) : rPop v vs H Q := by
  unfold pop0 at p
  split at p
  · split at p
    · rename_i xs e
      split at p
      · rename_i d ed
        cases rs
        obtain ⟨a, us, rfl, ea, eh, eH, s⟩ := is_lst w r e
        obtain ⟨x1, w1⟩ := w.write ea eH s.dropLast
        rw [← s.len] at ed
        obtain ⟨z, e2, e3⟩ := s.get ed
        exact ⟨a, us, z, rfl, rfl, eH, e2, p.ok x1 w1 (w.rv x1 e3)⟩
      · exact p.elim
    · exact p.elim
  · exact p.elim
theorem list_ty {ρ : List Addr} {H : Hp} {h : List O} {v : V} {x : D} (w : Wd X.K ρ h H) (r : RV X.K ρ H v x) {n : Nat} (e : x = .ref n) (hs : (isLst h n).isSome = true) : tyV X.K "list" v H := by
  subst e
  obtain ⟨xs, e⟩ := Option.isSome_iff_exists.mp hs
  obtain ⟨a, us, rfl, ea, eh, eH, s⟩ := is_lst w r e
  exact .inl ⟨rfl, us, .inl (.inl eH)⟩
/-- d.get(k), d.get(k, e) -/
theorem get_two {ρ : List Addr} {H : Hp} {h : List O} {Wc : Value → Option Addr → Hp → Prop} {Q : VK} {v y z : V} {x k e : D} (w : Wd X.K ρ h H) (r : RV X.K ρ H v x) (r1 : RV X.K ρ H y k) (r2 : RV X.K ρ H z e)
    (p : Post ⟨X.K, C, ca⟩ ρ H (relD X.K) Wc Q (get1 x [k, e] h)) : ∃ a o, v = .ref a ∧ DGet H a y o ∧ Q (o.getD z) H := by
  unfold get1 at p
  split at p
  · split at p
    · rename_i t kvs e1
      dsimp only at p
      split at p
      · rename_i hk
        obtain ⟨a, rfl, _, qd⟩ := rd_dct w r e1
        rcases dget_at qd hk r1 with ⟨u, d, g, e2, rz⟩ | ⟨g, e2⟩
        · rw [e2] at p
          exact ⟨a, _, rfl, g, p.ok Xt.refl w rz⟩
        · rw [e2] at p
          exact ⟨a, _, rfl, g, p.ok Xt.refl w r2⟩
      · exact p.elim
    · exact p.elim
  · exact p.elim
theorem get_one {ρ : List Addr} {H : Hp} {h : List O} {Wc : Value → Option Addr → Hp → Prop} {Q : VK} {v y : V} {x k : D} (w : Wd X.K ρ h H) (r : RV X.K ρ H v x) (r1 : RV X.K ρ H y k)
    (p : Post ⟨X.K, C, ca⟩ ρ H (relD X.K) Wc Q (get1 x [k] h)) : ∃ a o, v = .ref a ∧ DGet H a y o ∧ Q (o.getD .non) H := by
  unfold get1 at p
  split at p
  · split at p
    · rename_i t kvs e1
      dsimp only at p
      split at p
      · rename_i hk
        obtain ⟨a, rfl, _, qd⟩ := rd_dct w r e1
        rcases dget_at qd hk r1 with ⟨u, d, g, e2, rz⟩ | ⟨g, e2⟩
        · rw [e2] at p
          exact ⟨a, _, rfl, g, p.ok Xt.refl w rz⟩
        · rw [e2] at p
          exact ⟨a, _, rfl, g, p.ok Xt.refl w rfl⟩
      · exact p.elim
    · exact p.elim
  · exact p.elim
theorem dict_isD {ρ : List Addr} {H : Hp} {h : List O} {v : V} {x : D} (w : Wd X.K ρ h H) (r : RV X.K ρ H v x) {n : Nat} (e : x = .ref n) (hs : (rdDct h n).isSome = true) : ∃ a, v = .ref a ∧ IsD H a := by
  subst e
  obtain ⟨⟨t, kvs⟩, e⟩ := Option.isSome_iff_exists.mp hs
  obtain ⟨a, rfl, _, qd⟩ := rd_dct w r e
  rcases qd with ⟨_, ws, e1, _⟩ | ⟨_, ws, e1, _⟩
  · exact ⟨a, rfl, .inl ⟨ws, e1⟩⟩
  · exact ⟨a, rfl, .inr ⟨ws, e1⟩⟩
/-! ### isinstance -/
def tyName : Ty → String
  | .int => "int" | .bool => "bool" | .str => "str" | .tuple => "tuple" | .list => "list" | .dict => "dict"
def tyStr : Ty → Str
  | .int => "int" | .bool => "bool" | .str => "str" | .tuple => "tuple" | .list => "list" | .dict => "dict"
theorem isi_ok {ρ : List Addr} {H : Hp} {h : List O} {Wc : Value → Option Addr → Hp → Prop} {Q : VK} {v : V} {x : D} {t : Ty} (w : Wd X.K ρ h H) (r : RV X.K ρ H v x)
    (p : Post ⟨X.K, C, ca⟩ ρ H (relD X.K) Wc Q (match isiD h t x with | some b => okB b h | none => none)) : rIsi X.K [v, .ty (tyName t)] H Q := by
  have key : ∀ (T : String) (b : Bool), TyX X.K H v (.type T) → kitB T (tyName t) = some b → Q (.bl b) H → rIsi X.K [v, .ty (tyName t)] H Q := fun T b ty k q =>
    ⟨v, _, .type T, .type (tyName t), b, rfl, .ty _, ty, kit_ty k, q⟩
  split at p
  · rename_i b e
    have q := post_bl w p
    cases x with
    | non => cases r; exact key "NoneType" b (.base .non) (by cases e; cases t <;> decide +kernel) q
    | bl c => cases r; exact key "bool" b (.base (.bl c)) (by cases e; cases t <;> decide +kernel) q
    | int i => cases r; exact key "int" b (.base (.int i)) (by cases e; cases t <;> decide +kernel) q
    | str s => cases r; exact key "str" b (.base (.str s)) (by cases e; cases t <;> decide +kernel) q
    | tup xs =>
      obtain ⟨a, us, rfl, hq, s⟩ := r
      refine key "tuple" b ?_ (by cases e; cases t <;> decide +kernel) q
      exact .base (.tup hq)
    | ref n =>
      obtain ⟨a, rfl, ea⟩ := r
      simp only [isiD] at e
      split at e
      · rename_i xs eh
        obtain ⟨vs, e1, _⟩ := w.obj n _ a eh ea
        exact key "list" b (.base (.lst e1)) (by cases e; cases t <;> decide +kernel) q
      · cases e
      · cases e
      · rename_i xs eh
        obtain ⟨ob, vs, e1, _⟩ := w.obj n _ a eh ea
        exact key "tuple" b (.fTuple e1) (by cases e; cases t <;> decide +kernel) q
      · cases e
  · exact p.elim
end
end Mini
end

section
/-! Mini: x[::-1] of lists and tuples (own work). -/
namespace Mini
open PySem PySem.Spec PyProof.Rows L2 HT
theorem adjust_rev (n : Nat) : Builtin.Slice.sliceAdjust none none (-1) (n : Int) = ((n : Int) - 1, -1) := by
  unfold Builtin.Slice.sliceAdjust
  simp
theorem places_rev (n : Nat) : Builtin.Slice.slicePlaces ((n : Int) - 1) (-1) (-1) = n := by
  unfold Builtin.Slice.slicePlaces
  simp
  omega
theorem pick_rev (xs : Array Value) : ((List.range xs.size).filterMap fun (k : Nat) => xs[((xs.size : Int) - 1 + (k : Int) * (-1)).toNat]?).toArray = xs.toList.reverse.toArray := by
  have e : ∀ n : Nat, n ≤ xs.size → (List.range n).filterMap (fun (k : Nat) => xs[((xs.size : Int) - 1 + (k : Int) * (-1)).toNat]?) = (xs.toList.drop (xs.size - n)).reverse := by
    intro n
    induction n with
    | zero => intro _; simp
    | succ n ih =>
      intro h
      rw [List.range_succ, List.filterMap_append, ih (by omega)]
      have i : ((xs.size : Int) - 1 + (n : Int) * (-1)).toNat = xs.size - (n + 1) := by omega
      have lt : xs.size - (n + 1) < xs.toList.length := by rw [Array.length_toList]; omega
      have d : xs.toList.drop (xs.size - (n + 1)) = xs.toList[xs.size - (n + 1)] :: xs.toList.drop (xs.size - n) := by
        rw [List.drop_eq_getElem_cons lt]
        congr 2
        omega
      rw [d, List.reverse_cons]
      congr 1
      have g : xs[((xs.size : Int) - 1 + (n : Int) * (-1)).toNat]? = some xs.toList[xs.size - (n + 1)] := by
        rw [i, ← Array.getElem?_toList, List.getElem?_eq_getElem lt]
      rw [List.filterMap_cons_some (f := fun (k : Nat) => xs[((xs.size : Int) - 1 + (k : Int) * (-1)).toNat]?) (a := n) g]; rfl
  have := e xs.size (Nat.le_refl _)
  rw [this, Nat.sub_self, List.drop_zero]
section
variable {prog : Program} {w : World} {A : Around} {E : Value → Shared → Prop} {s : Shared}
theorem sliceApplied_rev {sl : Addr} {vl vu vs : Value} {n : Nat} {Q : Int × Int × Nat → Shared → Prop} (hs : s.heap.IsSliceOf sl vl vu vs) (pl : IsPart vl none) (pu : IsPart vu none) (ps : IsPart vs (some (-1)))
    (h : Q ((n : Int) - 1, -1, n) s) : wpAny (model prog w) A (Builtin.Slice.sliceApplied (.ref sl) (pure (n : Int))) Q E s := by
  obtain ⟨os, hos, hcs, hds⟩ := id hs
  unfold Builtin.Slice.sliceApplied Builtin.Slice.sliceFields
  refine wpAny_bind (wpAny_bind (wpAny_field hos hds (x := vl) rfl (wpAny_bind (wpAny_field hos hds (x := vu) rfl (wpAny_bind (wpAny_field hos hds (x := vs) rfl (wpAny_pure ?_)))))))
  refine wpAny_bind (slicePart_ ps ?_)
  show wpAny _ _ (if ((-1 : Int) == 0) = true then _ else _) _ _ s
  rw [if_neg (by decide)]
  refine wpAny_bind (slicePart_ pl (wpAny_bind (slicePart_ pu (wpAny_bind (wpAny_pure ?_)))))
  show wpAny _ _ (match Builtin.Slice.sliceAdjust none none (-1) (n : Int) with | (lo, hi) => pure (lo, (-1 : Int), Builtin.Slice.slicePlaces lo hi (-1))) _ _ s
  rw [adjust_rev n]
  show wpAny _ _ (pure ((n : Int) - 1, (-1 : Int), Builtin.Slice.slicePlaces ((n : Int) - 1) (-1) (-1))) _ _ s
  rw [places_rev]
  exact wpAny_pure h
theorem getItem_tuple_rev {t sl : Addr} {items : Array Value} {vl vu vs : Value} {Q : Value → Shared → Prop} (ht : IsTup s.heap t items) (hs : s.heap.IsSliceOf sl vl vu vs) (pl : IsPart vl none) (pu : IsPart vu none) (ps : IsPart vs (some (-1)))
    (h : Q (.ref s.heap.objs.size) { s with heap := s.heap.push { cls := .type "tuple", data := .seq items.toList.reverse.toArray } })
    (hsz : items.size ≤ sizeLine) : wpAny (model prog w) A (getItem (.ref t) (.ref sl)) Q E s := by
  have ok : sizeOk (.seq items.toList.reverse.toArray) := by
    show items.toList.reverse.toArray.size ≤ sizeLine
    rw [List.size_toArray, List.length_reverse, Array.length_toList]; exact hsz
  obtain ⟨os, hos, hcs, hds⟩ := id hs
  have hTs : s.TypeIs (.ref sl) "slice" := ⟨os, hos, hcs⟩
  unfold getItem
  try with_reducible refine wpAny_holding ?_
  first | refine wpAny_bind (wpAny_pure ?_) | skip
  refine wpAny_bind (wpAny_sequenceKey ht.typeIs (by decide) ?_)
  refine wpAny_bind (wpAny_callSpecial?_slot (name := Str.ofString "__getitem__") ht.typeIs PyProof.Rows.slot_tuple_getitem
    (wpAny_call_entry PyProof.Rows.slot_tuple_getitem ht.typeIs entry_tuple_getitem ?_ (args_tuple_getitem _ _)))
  show wpAny _ _ (Builtin.Tuple.tupleItemsOf (.ref t) >>= _) _ _ s
  refine wpAny_bind (tupleItemsOf_ ht ?_)
  refine wpAny_bind (wpAny_typeOf hTs ?_)
  rw [if_pos (by decide)]
  refine wpAny_bind (sliceApplied_rev hs pl pu ps ?_)
  have no : ¬ ((((items.size : Int) - 1) == 0 && (-1 : Int) == 1 && items.size == items.size) = true) := by simp
  show wpAny _ _ (if (((items.size : Int) - 1) == 0 && (-1 : Int) == 1 && items.size == items.size) = true then _ else _) _ _ s
  rw [if_neg no, pick_rev]
  first
    | exact wpAny_bind (m := Builtin.Tuple.tupleExact _) (wpAny_newObj_type (wpAny_pure ⟨_, rfl, wpAny_pure h⟩) ok)
    | exact wpAny_bind (m := Builtin.Tuple.tupleExact _) (wpAny_newObj_type (wpAny_bind (wpAny_pure (wpAny_pure ⟨_, rfl, wpAny_pure h⟩))) ok)
    | exact wpAny_bind (wpAny_bind (m := Builtin.Tuple.tupleExact _) (wpAny_newObj_type (wpAny_pure (wpAny_pure ⟨_, rfl, wpAny_pure h⟩)) ok))
    | exact wpAny_bind (wpAny_bind (m := Builtin.Tuple.tupleExact _) (wpAny_newObj_type (wpAny_pure ⟨_, rfl, wpAny_pure h⟩) ok))
end
section
variable {X : Cx}
def tRevT (K : PySem.W.Frag) (te : TE) : TE := fun σ H Q => te σ H fun x H1 => ∃ a xs, x = .ref a ∧ SqT K H1 a xs ∧ ∀ p, H1 p = none → Q (.ref p) (upd H1 p (.tup xs.reverse))
theorem pe_revT {e : Expr} {te : TE} {k : Nat} {p1 p2 p3 pos : Pos} (he : PE X e te) : PE X (.Subscript e (.Slice none none (some (.UnaryOp .USub (.Constant (.int 1) k p1) p2)) p3) pos) (tRevT X.K te) := by
  refine ⟨fun pins s σ H Q I h => ?_⟩
  refine Subscript_ (thn (he.run pins s σ H _ I h) fun v s1 ⟨x, H1, I1, r1, a, xs, ex, hx, q⟩ => ?_)
  subst ex
  cases r1
  have hst : PO X (some (.UnaryOp .USub (.Constant (.int 1) k p1) p2)) (tPart (tUn (rU fun i => .int (-i)) (tC (.int 1)))) := po_some (pe_un un_neg pe_int)
  refine wpAny_Slice (thn (po_none.run pins s1 σ H1 (fun o H2 => o = none ∧ H2 = H1) I1 ⟨rfl, rfl⟩) fun vl s2 ⟨l, H2, I2, pl, el, e2⟩ => ?_)
  subst el e2
  refine thn (po_none.run pins s2 σ H2 (fun o H3 => o = none ∧ H3 = H2) I2 ⟨rfl, rfl⟩) fun vu s3 ⟨u, H3, I3, pu, eu, e3⟩ => ?_
  subst eu e3
  refine thn (hst.run pins s3 σ H3 (fun o H4 => o = some (-1) ∧ H4 = H3) I3 ⟨1, rfl, -1, rfl, rfl, rfl⟩) fun vs s4 ⟨o, H4, I4, ps, eo, e4⟩ => ?_
  subst eo e4
  have I5 : Inv X pins σ H4 { s4 with heap := s4.heap.push { cls := .type "slice", data := .fields #[vl, vu, vs] } } := I4.kept (t' := s4.toks) fun b ob q => Heap.get?_push_of_some _ q
  obtain ⟨its, r, ht, hz⟩ := I5.tuple hx
  have hlen := r.length
  show wpAny (model X.prog X.w) X.A (subscriptTail e (.Slice none none (some (.UnaryOp .USub (.Constant (.int 1) k p1) p2)) p3) (.ref a) (.ref s4.heap.objs.size)) (EP X pins σ Q) X.xe { s4 with heap := s4.heap.push { cls := .type "slice", data := .fields #[vl, vu, vs] } }
  refine tail_any (ops := [.ref a, .ref s4.heap.objs.size]) ht.typeIs (PyProof.Rows.slot_tuple_getitem.lookup) ?_ (by with_unfolding_all rfl)
  refine getItem_tuple_rev ht (Heap.IsSliceOf.new _ vl vu vs) pl pu ps ?_ (by rw [List.size_toArray]; omega)
  refine ⟨.ref _, _, I5.laid (t' := s4.toks) (o := .tup xs.reverse) (fun b ob q => Heap.get?_push_of_some _ q) (Nat.le_refl _) ?_, rfl, q _ (I5.hok.fresh (Nat.le_refl _))⟩
  exact ⟨by rw [List.length_reverse]; exact hz, _, by simpa using r.reverse, IsTup.new _ _⟩
end
end Mini
end

section
/-! Mini: the checker that ties the IR to the text, and what walks (own work). -/
namespace Mini
open PySem PySem.Spec PyProof.Rows L2

structure Gm where
  N : List Str
  sc : Scope
  ts : Scope
  fns : List (Str × Nat × List D)
  cls : List (Str × Nat × Nat)
  con : List (Str × D)
  kin : List (Str × List Nat)
def vis (sc : Scope) (x : Str) : Bool := match sc.names.lookup x with
  | some .local => true
  | some .cell => true
  | some .free => true
  | _ => false
def locS (sc : Scope) (x : Str) : Bool := match sc.names.lookup x with
  | some .local => true
  | some .cell => true
  | _ => false
def glb (sc : Scope) (x : Str) : Bool := decide (sc.names.lookup x = some .globalImplicit)
def dbg (x : Str) : Bool := x == ("__debug__" : Str)
def ownN (N : List Str) (own : List Nat) : List (Str × Nat) := own.map fun i => ((N[i]?).getD "", i)
def tgIn (own : List Nat) : E → Bool
  | .slot i => own.contains i
  | .tup es => tgIn own es
  | .cons a b => tgIn own a && tgIn own b
  | .nil => true
  | _ => false
/-- an object's attribute is looked up plainly -/
def plainB : PySem.Expr → Bool
  | .Call (.Name _ _) [] [] _ => false
  | _ => true
/-- a test by the value's truth -/
def plainT : PySem.Expr → Bool
  | .UnaryOp .Not _ _ => false
  | .BoolOp .. => false
  | .IfExp .. => false
  | .Compare .. => false
  | _ => true
def isCmp : PySem.Expr → Bool
  | .Compare .. => true
  | _ => false
mutual
/-- a target -/
def ckG (Γ : Gm) : E → PySem.Expr → Bool
  | .slot i, .Name x _ => decide (Γ.N[i]? = some x) && locS Γ.ts x
  | .tup es, .Tuple ts _ _ => ckGs Γ es ts
  | _, _ => false
def ckGs (Γ : Gm) : E → List PySem.Expr → Bool
  | .nil, [] => true
  | .cons a b, t :: ts => ckG Γ a t && plainX t && ckGs Γ b ts
  | _, _ => false
end
/-- a method's name, how many arguments it takes -/
def mtSyn (m : Mt) (n : Str) (k : Nat) : Bool := match m with
  | .append => n == ("append" : Str) && decide (k = 1)
  | .pop => n == ("pop" : Str) && decide (k = 0)
  | .get => n == ("get" : Str) && (decide (k = 1) || decide (k = 2))
  | _ => false
mutual
/-- an expression -/
def ckE : E → Gm → PySem.Expr → Bool
  | .non, _, .Constant .none _ _ => true
  | .bl b, _, .Constant (.bool c) _ _ => b == c
  | .int i, _, .Constant (.int j) _ _ => i == j
  | .str s, _, .Constant (.str t) _ _ => s == t
  | .slot i, Γ, .Name x _ => decide (Γ.N[i]? = some x) && vis Γ.sc x && !dbg x && !(x == ("__classdict__" : Str))
  | .con d x, Γ, .Name y _ => x == y && glb Γ.sc x && !dbg x && Γ.con.any fun p => p.1 == x && p.2.beq d
  | .bin op a b, Γ, .BinOp a' op' b' _ => decide (op = op') && ckE a Γ a' && ckE b Γ b'
  | .neg a, Γ, .UnaryOp .USub a' _ => ckE a Γ a'
  | .cmp op a b, Γ, .Compare a' [op'] [b'] _ => decide (op = op') && ckE a Γ a' && ckE b Γ b' && plainX b'
  | .chn op1 op2 a b c, Γ, .Compare a' [o1, o2] [b', c'] _ => decide (op1 = o1) && decide (op2 = o2) && ckE a Γ a' && ckE b Γ b' && ckE c Γ c' && plainX b' && plainX c'
  | .and a b, Γ, .BoolOp .And (a' :: b' :: r) pos => ckE a Γ a' && (match r with
    | [] => ckE b Γ b'
    | _ => ckE b Γ (.BoolOp .And (b' :: r) pos))
  | .or a b, Γ, .BoolOp .Or (a' :: b' :: r) pos => ckE a Γ a' && (match r with
    | [] => ckE b Γ b'
    | _ => ckE b Γ (.BoolOp .Or (b' :: r) pos))
  | .ntv a, Γ, .UnaryOp .Not a' _ => ckE a Γ a'
  | .ifx c a b, Γ, .IfExp c' a' b' _ => ckT c Γ c' && ckE a Γ a' && ckE b Γ b'
  | .tup es, Γ, .Tuple ts _ _ => ckEs es Γ ts
  | .lst es, Γ, .List ts _ => ckEs es Γ ts
  | .ix a b, Γ, .Subscript a' b' _ => ckE a Γ a' && ckE b Γ b' && plainX b'
  | .sl a lo hi, Γ, .Subscript a' (.Slice l u none _) _ => ckE a Γ a' && ckO lo Γ l && ckO hi Γ u
  | .rev a, Γ, .Subscript a' (.Slice none none (some (.UnaryOp .USub (.Constant (.int j) _ _) _)) _) _ => decide (j = 1) && ckE a Γ a'
  | .call f es ds, Γ, .Call (.Name x _) ts [] _ => glb Γ.sc x && !dbg x && ckEs es Γ ts && Γ.fns.any fun p => p.1 == x && p.2.1 == f && D.beqL p.2.2 ds
  | .bi b es, Γ, .Call (.Name x _) ts [] _ => x == biName b && decide (b ≠ .bad) && glb Γ.sc x && !ts.isEmpty && ckEs es Γ ts
  | .isi a t, Γ, .Call (.Name x _) [a', .Name y _] [] _ => x == ("isinstance" : Str) && y == tyStr t && glb Γ.sc x && glb Γ.sc y && ckE a Γ a' && plainX a'
  | .mt m o es, Γ, .Call (.Attribute o' n p) ts [] q => ckE o Γ o' && plainB o' && ckEs es Γ ts && decide (p.endLine = q.line) && mtSyn m n ts.length
  | .lc own tg it c elt, Γ, .ListComp elt' gens scope _ => match gens with
    | [⟨tg', it', ifs, n⟩] => decide (n = 0) && blkC Γ.N Γ.sc scope (ownN Γ.N own) && tgIn own tg && ckI it Γ tg' it' && plainX it' && ckG { Γ with sc := relS scope Γ.sc, ts := scope } tg tg' && ckE elt { Γ with sc := relS scope Γ.sc, ts := scope } elt' && (match ifs with
      | [] => (match c with
        | .omit => true
        | _ => false)
      | [c'] => ckT c { Γ with sc := relS scope Γ.sc, ts := scope } c'
      | _ => false)
    | _ => false
  | .dnew _, _, .Dict [] [] _ => true
  | .dsp _ kvs, Γ, .Dict ks vs _ => ckK kvs Γ ks vs && !ks.isEmpty && decide (ks.length ≤ 15)
  | .dc own _ tg it c k v, Γ, .DictComp k' v' gens scope _ => match gens with
    | [⟨tg', it', ifs, n⟩] => decide (n = 0) && blkC Γ.N Γ.sc scope (ownN Γ.N own) && tgIn own tg && ckI it Γ tg' it' && plainX it' && ckG { Γ with sc := relS scope Γ.sc, ts := scope } tg tg' && ckE k { Γ with sc := relS scope Γ.sc, ts := scope } k' && ckE v { Γ with sc := relS scope Γ.sc, ts := scope } v' && (match ifs with
      | [] => (match c with
        | .omit => true
        | _ => false)
      | [c'] => ckT c { Γ with sc := relS scope Γ.sc, ts := scope } c'
      | _ => false)
    | _ => false
  | .lck _ a, Γ, t => ckE a Γ t && !isCmp t
  | _, _, _ => false
/-- the pairs of a display -/
def ckK : E → Gm → List (Option PySem.Expr) → List PySem.Expr → Bool
  | .nil, _, [], [] => true
  | .kv k v r, Γ, some k' :: ks, v' :: vs => ckE k Γ k' && ckE v Γ v' && ckK r Γ ks vs
  | _, _, _, _ => false
/-- arguments, items -/
def ckEs : E → Gm → List PySem.Expr → Bool
  | .nil, _, [] => true
  | .cons a b, Γ, t :: ts => ckE a Γ t && plainX t && ckEs b Γ ts
  | _, _, _ => false
/-- a slice's part -/
def ckO : E → Gm → Option PySem.Expr → Bool
  | .omit, _, none => true
  | .cons a _, Γ, some t => ckE a Γ t
  | _, _, _ => false
/-- a test -/
def ckT : E → Gm → PySem.Expr → Bool
  | .and a b, Γ, .BoolOp .And (a' :: b' :: r) pos => ckT a Γ a' && (match r with
    | [] => ckT b Γ b'
    | _ => ckT b Γ (.BoolOp .And (b' :: r) pos))
  | .or a b, Γ, .BoolOp .Or (a' :: b' :: r) pos => ckT a Γ a' && (match r with
    | [] => ckT b Γ b'
    | _ => ckT b Γ (.BoolOp .Or (b' :: r) pos))
  | .nt a, Γ, .UnaryOp .Not a' _ => ckT a Γ a'
  | .tru a, Γ, t => ckE a Γ t && (plainT t || isCmp t)
  | .omit, _, _ => false
  | _, _, _ => false
/-- what is walked -/
def ckI : E → Gm → PySem.Expr → PySem.Expr → Bool
  | .rng es, Γ, _, .Call (.Name x _) ts [] _ => x == ("range" : Str) && glb Γ.sc x && (decide (ts.length = 1) || decide (ts.length = 2)) && ckEs es Γ ts
  | .enu a, Γ, .Tuple _ _ _, .Call (.Name x _) [a'] [] _ => x == ("enumerate" : Str) && glb Γ.sc x && ckE a Γ a' && plainX a'
  | .zip a b, Γ, .Tuple _ _ _, .Call (.Name x _) [a', b'] [] _ => x == ("zip" : Str) && glb Γ.sc x && ckE a Γ a' && plainX a' && ckE b Γ b' && plainX b'
  | .itr a, Γ, _, t => ckE a Γ t
  | .dit a, Γ, .Tuple _ _ _, .Call (.Attribute o' n p) [] [] q => n == ("items" : Str) && ckE a Γ o' && plainB o' && decide (p.endLine = q.line)
  | _, _, _, _ => false
end
end Mini
end

section
/-! Mini: what must be known of the classes of exceptions (own work). -/
namespace Mini
open PySem PySem.Spec PyProof.Rows L2

/-- what the written part says of a class of exceptions C whose __init__ (at f, closing over cc, defined in the class D) is of that form -/
structure InitIn (prog : Program) (K : PySem.W.Frag) (f cc D cda : Addr) (qual : Str) : Prop where
  cell : ∃ oc od sl, K.lookup cc = some ⟨oc, od, .cell (some (.ref D)), sl⟩
  dcls : ∃ cd, PySem.W.clsIn K D = some cd
  code : ∃ cl cd cs vs file tf, K.lookup cda = some ⟨cl, cd, .fields vs, cs⟩ ∧ vs[2]? = some (.str file tf) ∧ ((prog.main.file : Str) == file) = true
  top : (prog.main.scope.names.lookup ("super" : Str)).isSome = false
  sup : PySem.W.nsIn K mainGlobals "super" = some none
  third : PySem.W.nsIn K cStatics "thirdparty.any" = some none
/-- .. and of C -/
structure InitC (K : PySem.W.Frag) (C D : Addr) : Prop where
  T : OexC K C
  sub : PySem.W.mroIn K C (.ref D) = some true
  chain : PySem.W.ks_superIn K C D "__init__" = some (some (.builtin "ValueError.__init__"))
  ve : PySem.W.subIn K (.ref C) (.type "ValueError") = some true
/-- what an __init__ keeps that stores its arguments in the fields fls -/
def spN (K : PySem.W.Frag) (D : Addr) (fls : List Str) : Sp := fun vs H Q _ => ∃ a C ys, vs = .ref a :: ys ∧ ys.length = fls.length ∧ InitC K C D ∧ (∀ f ∈ fls, PySem.W.findIn K (.ref C) f = some none) ∧ H a = some (exo a C none) ∧
  ∀ dx, H dx = none → dx ≠ a → Q .non (L2.upd (L2.upd H dx (exd dx (fls.zip ys).reverse)) a (exo a C (some dx)))
/-- a class's name: own, or built in -/
def Nm (mg : Str → Option Value) (x : Str) (m : Nat) (v : Value) : Prop := (m = 0 ∧ mg x = some v ∧ ∃ b, v = .ref b) ∨ (m = 1 ∧ mg x = none ∧ bootBuiltins x = some v ∧ x ≠ "__name__" ∧ ∃ T, v = .type T)
/-- the classes of the table -/
structure ClF (C : List Cl) (ca : Nat → Addr) (tb : List (Str × Nat × Nat)) (P : Program) (w : World) (K : PySem.W.Frag) (mg : Str → Option Value) (base : Heap) : Prop where
  ex : ∀ c k0, C[c]? = some k0 → ExcC K (ca c) ∧ ∀ f ∈ k0.flds, PySem.W.findIn K (.ref (ca c)) f = some none
  cls : ∀ x a m, (x, a, m) ∈ tb → ∃ v, Nm mg x m v ∧ ∀ c k0, C[c]? = some k0 → PySem.W.kitOne K (.ref (ca c)) v = some (isAnc C c a) ∧ (m = 0 → PySem.W.exmOne K (.ref (ca c)) v = some (isAnc C c a))
  rs : ∀ x a, (x, a, 0) ∈ tb → ∀ k0, C[a]? = some k0 → k0.flds ≠ [] → k0.flds.Nodup ∧ ∃ D fI fd ps, mg x = some (.ref (ca a)) ∧ InitC K (ca a) D ∧ PySem.W.findIn K (.ref (ca a)) "__init__" = some (some (.ref fI)) ∧
    PySem.W.typeIn K (.ref fI) = some (.type "function") ∧ FnOk P w K mg base (L2.CX P w) 1 fI fd ps (spN K D k0.flds) ∧ Binds K fd ps []
/-- a def of the text that tells of a caught exception which of the classes cs it is -/
structure KinF (P : Program) (w : World) (K : PySem.W.Frag) (mg : Str → Option Value) (base : Heap) (C : List Cl) (ca : Nat → Addr) (f : Addr) (fd : FuncData) (ps : List Str) (cs : List Nat) : Prop where
  one : ps.length = 1
  run : ∀ (A : Around) (outer : List PySem.Env) (s : Shared) (H : Hp) (args : Args) (a dd : Addr) (oe : Obj) (c : Nat) (k0 : Cl) (fl : List (Str × V)) (Q : VK), C[c]? = some k0 → L2H.RoomH 1 A → Env0 P w K mg base A outer s H → BindsTo s fd args (ps.zip [.ref a]) → L2H.PinOk outer H s (a, oe) →
    Zc (.ref (ca c)) (some dd) oe → (∃ vs, oe.data = .fields vs) → H dd = some (.xd fl) →
    (∀ p1 p2 p3 xs1 xs2, H p1 = none → (L2.upd H p1 (.lst xs1)) p2 = none → (L2.upd (L2.upd H p1 (.lst xs1)) p2 (.lst xs2)) p3 = none → Q (.ref p3) (L2.upd (L2.upd (L2.upd H p1 (.lst xs1)) p2 (.lst xs2)) p3 (.lst (cs.map fun a => V.bl (isAnc C c a))))) →
    codeAny (model P w) A (.call (.ref f) args) (CR (L2.CX P w) outer P w H s Q (fun _ _ _ => False)) s
end Mini
end

section
/-! Mini: the checked expressions run as the evaluator says (own work). -/
namespace Mini
open PySem PySem.Spec PyProof.Rows L2

/-! ### weaker readings -/
section
variable {X : Cx}
theorem PE.imp {e : PySem.Expr} {t t' : TE} (h : PE X e t) (k : ∀ σ H Q, t' σ H Q → t σ H Q) : PE X e t' := ⟨fun pins s σ H Q I q => h.run pins s σ H Q I (k _ _ _ q)⟩
theorem PT.imp {e : PySem.Expr} {t t' : TT} (h : PT X e t) (k : ∀ σ H Q, t' σ H Q → t σ H Q) : PT X e t' := ⟨fun pins s σ H Q I q => h.run pins s σ H Q I (k _ _ _ q)⟩
theorem PW.imp {e : PySem.Expr} {t t' : TT} (h : PW X e t) (k : ∀ σ H Q, t' σ H Q → t σ H Q) : PW X e t' := ⟨fun wh pins s σ H Q I q => h.run wh pins s σ H Q I (k _ _ _ q)⟩
theorem PA.imp {e : List PySem.Expr} {t t' : TA} (h : PA X e t) (k : ∀ σ H Q, t' σ H Q → t σ H Q) : PA X e t' := ⟨fun pos pins s σ H Q I q => h.run pos pins s σ H Q I (k _ _ _ q)⟩
theorem PO.imp {e : Option PySem.Expr} {t t' : TO} (h : PO X e t) (k : ∀ σ H Q, t' σ H Q → t σ H Q) : PO X e t' := ⟨fun pins s σ H Q I q => h.run pins s σ H Q I (k _ _ _ q)⟩
theorem PI.imp {tg it : PySem.Expr} {t t' : TI} (h : PI X tg it t) (k : ∀ σ H Q, t' σ H Q → t σ H Q) : PI X tg it t' := ⟨fun pins s σ H Q I q => h.run pins s σ H Q I (k _ _ _ q)⟩
theorem PI.or {tg it : PySem.Expr} {t t' : TI} (h : PI X tg it t) (h' : PI X tg it t') : PI X tg it (fun σ H R => t σ H R ∨ t' σ H R) := ⟨fun pins s σ H Q I q => by
  rcases q with q | q
  · exact h.run pins s σ H Q I q
  · exact h'.run pins s σ H Q I q⟩
theorem PG.imp {e : PySem.Expr} {t t' : TG} (h : PG X e t) (k : ∀ v σ H Q, t' v σ H Q → t v σ H Q) : PG X e t' := ⟨fun pins s σ H v u Q I r q => h.run pins s σ H v u Q I r (k _ _ _ _ q)⟩
theorem PGs.imp {e : List PySem.Expr} {t t' : TGs} (h : PGs X e t) (k : ∀ v σ H Q, t' v σ H Q → t v σ H Q) : PGs X e t' := ⟨fun pins s σ H v u Q I r q => h.run pins s σ H v u Q I r (k _ _ _ _ q)⟩
theorem PTs.imp {e : List PySem.Expr} {t t' : TT} (h : PTs X e t) (k : ∀ σ H Q, t' σ H Q → t σ H Q) : PTs X e t' := ⟨fun pins s σ H Q I q => h.run pins s σ H Q I (k _ _ _ q)⟩
end

/-! ### the contexts in which the text runs -/
abbrev Caller := Nat → List D → List O → Option (R D)
def spI (Z : Ct) (call : Caller) (f : Nat) : Sp := fun vs H Q E => ∃ ρ h ds, Wd Z.K ρ h H ∧ RVs Z.K ρ H vs ds ∧ Post Z ρ H (relD Z.K) E Q (call f ds h)
def blts : List Str := ["abs", "all", "any", "int", "len", "list", "tuple", "repr", "max", "min", "sum", "sorted", "range", "enumerate", "zip", "isinstance", "bool", "str", "dict"]
structure XOk (C : List Cl) (ca : Nat → Addr) (call : Caller) (k : Nat) (Γ : Gm) (X : Cx) (W : WX) : Prop where
  hc : X.calm = true
  hN : X.N = Γ.N
  nd : Γ.N.Nodup
  sc : X.env.scope = Γ.sc
  rm : Room (k + 3) X.A
  gd : X.A.guards = some []
  tk : Takes X W
  fns : ∀ x f ds, (x, f, ds) ∈ Γ.fns → ∃ a fd ps us dvs, X.mg x = some (.ref a) ∧ PySem.W.keepIn X.K (.ref a) = true ∧ FnG X.prog X.w X.K X.mg X.base k a fd ps (spI ⟨X.K, C, ca⟩ call f) ∧ Binds X.K fd ps us ∧ Vals dvs us ∧ ∀ ρ H, RVs X.K ρ H dvs ds
  blt : ∀ x ∈ blts, X.mg x = none
  con : ∀ x d, (x, d) ∈ Γ.con → ∃ v u, X.mg x = some u ∧ RelV v u ∧ ∀ ρ H, RV X.K ρ H v d
  kin : ∀ x cs, (x, cs) ∈ Γ.kin → ∃ a fd ps, X.mg x = some (.ref a) ∧ PySem.W.keepIn X.K (.ref a) = true ∧ KinF X.prog X.w X.K X.mg X.base C ca a fd ps cs ∧ Binds X.K fd ps []
  clf : ClF C ca Γ.cls X.prog X.w X.K X.mg X.base
  fnx : ∀ x, locS Γ.ts x = true → Loc X.env.scope x ∧ (X.fn x = true ∨ X.env.scope.names.lookup x = some .local)
theorem XOk.hu {C : List Cl} {ca : Nat → Addr} {call : Caller} {k : Nat} {Γ : Gm} {X : Cx} {W : WX} (o : XOk C ca call k Γ X W) : X.A.units + 64 < cLine := o.rm.units
theorem takesF {X : Cx} : Takes X (fun _ _ _ _ => False) := fun _ _ z => by
  obtain ⟨_, _, _, _, _, _, _, _, _, _, _, _, _, _, _, _, q⟩ := z
  exact q.elim
/-- within a comprehension's block -/
theorem XOk.blk {C : List Cl} {ca : Nat → Addr} {call : Caller} {k : Nat} {Γ : Gm} {X : Cx} {W : WX} (o : XOk C ca call k Γ X W) (s : Shared) (H : Hp) (scope : Scope) (cl : List (Str × Addr)) (cC : Addr) (fp : List Addr) :
    XOk C ca call k { Γ with sc := relS scope Γ.sc, ts := scope } (X.blk s H scope (compEnvC scope cl cC X.env) fp) (fun _ _ _ _ => False) := by
  refine ⟨o.hc, o.hN, o.nd, ?_, o.rm, o.gd, takesF, o.fns, o.blt, o.con, o.kin, o.clf, fun x hx => ?_⟩
  · show relS scope X.env.scope = relS scope Γ.sc
    rw [o.sc]
  · have hx' : locS scope x = true := hx
    unfold locS at hx'
    split at hx'
    · rename_i e
      have e2 : (relS scope X.env.scope).names.lookup x = some .local := lookup_relS_keep (by decide) e
      exact ⟨.inl e2, .inr e2⟩
    · rename_i e
      have e2 : (relS scope X.env.scope).names.lookup x = some .cell := lookup_relS_keep (by decide) e
      refine ⟨.inr e2, .inl ?_⟩
      show (scope.names.lookup x == some .cell) = true
      rw [e]; rfl
    · cases hx'

/-! ### the readings by the evaluator -/
section
variable (K : PySem.W.Frag) (C : List Cl) (ca : Nat → Addr) (call : Caller) (W : WX)
def tE (ir : E) : TE := fun σ H Q => ∃ ρ h env, Wd K ρ h H ∧ EnvR K ρ H σ env ∧ Post ⟨K, C, ca⟩ ρ H (relD K) (fun c d H' => W c d σ H') Q (ev call ir env h)
def tA (ir : E) : TA := fun σ H Q => ∃ ρ h env, Wd K ρ h H ∧ EnvR K ρ H σ env ∧ Post ⟨K, C, ca⟩ ρ H (relL K) (fun c d H' => W c d σ H') Q (evs call ir env h)
def tO (ir : E) : TO := fun σ H Q => ∃ ρ h env, Wd K ρ h H ∧ EnvR K ρ H σ env ∧ Post ⟨K, C, ca⟩ ρ H relO (fun c d H' => W c d σ H') Q (evo call ir env h)
def tT (ir : E) : TT := fun σ H Q => ∃ ρ h env, Wd K ρ h H ∧ EnvR K ρ H σ env ∧ Post ⟨K, C, ca⟩ ρ H relB (fun c d H' => W c d σ H') Q (evt call ir env h)
/-- an iterator that yields the items while the lists stay -/
def ItOk (ρ0 : List Addr) (H0 : Hp) (J : It) (p : List D × Src) : Prop := ∀ ρ h H, Xt ρ0 H0 ρ H → Wd K ρ h H → chk p.2 h = true →
  (∀ (i : Nat) x, p.1[i]? = some x → J.go i H ∧ ∀ v H', J.yld i H v H' → Xt ρ H ρ H' ∧ Wd K ρ h H' ∧ RV K ρ H' v x) ∧ J.stop p.1.length H
def relI : Rel (List D × Src) It := fun ρ H J p => ItOk K ρ H J p
def tI (ir : E) : TI := fun σ H R => ∃ ρ h env, Wd K ρ h H ∧ EnvR K ρ H σ env ∧ Post ⟨K, C, ca⟩ ρ H (relI K) (fun c d H' => W c d σ H') R (evi call ir env h)
end
def tG (K : PySem.W.Frag) (ir : E) : TG := fun v σ H Q => ∃ ρ h d env env2, Wd K ρ h H ∧ EnvR K ρ H σ env ∧ RV K ρ H v d ∧ asgT ir d env = some env2 ∧ ∀ σ2, EnvR K ρ H σ2 env2 → (∀ own, tgIn own ir = true → wipe σ2 own = wipe σ own) → Q σ2 H
def tGs (K : PySem.W.Frag) (ir : E) : TGs := fun v σ H Q => ∃ ρ h d env env2, Wd K ρ h H ∧ EnvR K ρ H σ env ∧ RVs K ρ H v d ∧ asgT.asgTs ir d env = some env2 ∧ ∀ σ2, EnvR K ρ H σ2 env2 → (∀ own, tgIn own ir = true → wipe σ2 own = wipe σ own) → Q σ2 H

/-! ### targets -/
theorem wipe_set {σ : L2.St} {i : Nat} {x : Option V} : ∀ {own : List Nat}, i ∈ own → wipe (σ.set i x) own = wipe σ own
  | [], h => nomatch h
  | v :: vs, h => by
    show (wipe (σ.set i x) vs).set v none = (wipe σ vs).set v none
    by_cases e : i ∈ vs
    · rw [wipe_set e]
    · have e' : i = v := by
        rcases List.mem_cons.mp h with q | q
        · exact q
        · exact absurd q e
      subst e'
      have key : ∀ (vs : List Nat) (σ : L2.St), i ∉ vs → wipe (σ.set i x) vs = (wipe σ vs).set i x := by
        intro vs
        induction vs with
        | nil => intro σ _; rfl
        | cons a l ih =>
          intro σ hn
          show (wipe (σ.set i x) l).set a none = ((wipe σ l).set a none).set i x
          have h1 : i ≠ a := fun z => hn (z ▸ List.mem_cons_self)
          rw [ih σ (fun z => hn (List.mem_cons_of_mem _ z)), List.set_comm _ _ h1]
      rw [key vs σ e, List.set_set]
section
variable {C : List Cl} {ca : Nat → Addr} {call : Caller} {k : Nat} {X : Cx} {W : WX}
theorem len_each {env : PySem.Env} : ∀ {ts : List PySem.Expr}, (assignEach ts env).length = ts.length
  | [] => rfl
  | t :: ts => by
    have ih := len_each (env := env) (ts := ts)
    cases t <;> (show (assignEach ts env).length + 1 = ts.length + 1; rw [ih])
theorem each_cons {env : PySem.Env} {t : PySem.Expr} {ts : List PySem.Expr} (h : plainX t = true) : assignEach (t :: ts) env = (false, assign t env) :: assignEach ts env := by
  cases t <;> first | rfl | cases h
theorem each_star {env : PySem.Env} : ∀ {ts : List PySem.Expr}, ts.all plainX = true → (assignEach ts env).findIdx? (·.1) = none
  | [], _ => rfl
  | t :: ts, h => by
    have h' : plainX t = true ∧ ts.all plainX = true := by simpa using h
    rw [each_cons h'.1, List.findIdx?_cons, each_star h'.2]
    rfl
theorem ckG_slot {Γ : Gm} {i : Nat} {e : PySem.Expr} : ckG Γ (.slot i) e = match e with | .Name x _ => decide (Γ.N[i]? = some x) && locS Γ.ts x | _ => false := by cases e <;> rfl
theorem ckG_tup {Γ : Gm} {es : E} {e : PySem.Expr} : ckG Γ (.tup es) e = match e with | .Tuple ts _ _ => ckGs Γ es ts | _ => false := by cases e <;> rfl
theorem ckGs_cons {Γ : Gm} {a b : E} {ts : List PySem.Expr} : ckGs Γ (.cons a b) ts = match ts with | t :: ts => ckG Γ a t && plainX t && ckGs Γ b ts | [] => false := by cases ts <;> rfl
theorem ckGs_nil {Γ : Gm} {ts : List PySem.Expr} : ckGs Γ .nil ts = ts.isEmpty := by cases ts <;> rfl
theorem ckGs_plain {Γ : Gm} : ∀ {es : E} {ts : List PySem.Expr}, ckGs Γ es ts = true → ts.all plainX = true
  | es, [], _ => rfl
  | es, t :: ts, h => by
    cases es with
    | cons a b =>
      rw [ckGs_cons] at h
      simp only [Bool.and_eq_true] at h
      simp only [List.all_cons, Bool.and_eq_true]
      exact ⟨h.1.2, ckGs_plain h.2⟩
    | _ => cases h
theorem tg_ok {Γ : Gm} (o : XOk C ca call k Γ X W) : ∀ (ir : E), (∀ e, ckG Γ ir e = true → PG X e (tG X.K ir)) ∧ (∀ ts, ckGs Γ ir ts = true → PGs X ts (tGs X.K ir)) := by
  intro ir
  induction ir with
  | slot i =>
    refine ⟨fun e h => ?_, fun ts h => (by cases ts <;> cases h)⟩
    rw [ckG_slot] at h
    split at h
    · rename_i x p
      simp only [Bool.and_eq_true, decide_eq_true_eq] at h
      obtain ⟨h1, h2⟩ := o.fnx x h.2
      refine PG.imp (pg_name (i := i) (by rw [o.hN]; exact o.nd) (by rw [o.hN]; exact h.1) h1 h2) ?_
      rintro v σ H Q ⟨ρ, h, d, env, env2, w, er, r, ea, q⟩
      unfold asgT at ea
      split at ea
      · cases ea
        refine q _ (er.set r) fun own ho => wipe_set ?_
        have : own.contains i = true := ho
        simpa using this
      · cases ea
    · cases h
  | tup es ih =>
    refine ⟨fun e h => ?_, fun ts h => (by cases ts <;> cases h)⟩
    rw [ckG_tup] at h
    split at h
    · rename_i ts k' p
      refine PG.imp (pg_tup (n := ts.length) o.hc (ih.2 ts h) len_each (each_star (ckGs_plain h))) ?_
      rintro v σ H Q ⟨ρ, hh, d, env, env2, w, er, r, ea, q⟩
      cases d with
      | tup xs =>
        obtain ⟨a, vs, rfl, hq, s⟩ := r
        refine ⟨a, vs, rfl, sqt hq, ?_, ρ, hh, xs, env, env2, w, er, s, ea, q⟩
        rw [s.len]
        have hl : ∀ (es : E) (xs : List D) (env env2 : Env) (ts : List PySem.Expr), asgT.asgTs es xs env = some env2 → ckGs Γ es ts = true → xs.length = ts.length := by
          intro es
          induction es with
          | nil =>
            intro xs env env2 ts e1 e2
            cases xs with
            | nil => cases ts with
              | nil => rfl
              | cons t ts => cases e2
            | cons x xs => cases e1
          | cons a b _ ihb =>
            intro xs env env2 ts e1 e2
            cases xs with
            | nil => cases e1
            | cons x xs =>
              cases ts with
              | nil => cases e2
              | cons t ts =>
                unfold asgT.asgTs at e1
                rw [ckGs_cons] at e2
                simp only [Bool.and_eq_true] at e2
                split at e1
                · rw [List.length_cons, List.length_cons, ihb _ _ _ _ e1 e2.2]
                · cases e1
          | _ => intro xs env env2 ts e1; cases e1
        exact hl es xs env env2 ts ea h
      | _ => cases ea
    · cases h
  | nil =>
    refine ⟨fun e h => (by cases e <;> cases h), fun ts h => ?_⟩
    cases ts with
    | nil =>
      refine PGs.imp pgs_nil ?_
      rintro v σ H Q ⟨ρ, hh, d, env, env2, w, er, r, ea, q⟩
      cases d with
      | nil =>
        cases r; cases ea
        exact ⟨rfl, q σ er fun _ _ => rfl⟩
      | cons x xs => cases ea
    | cons t ts => cases h
  | cons a b iha ihb =>
    refine ⟨fun e h => (by cases e <;> cases h), fun ts h => ?_⟩
    cases ts with
    | nil => cases h
    | cons t ts =>
      rw [ckGs_cons] at h
      simp only [Bool.and_eq_true] at h
      refine PGs.imp (pgs_cons (iha.1 t h.1.1) (ihb.2 ts h.2) (by rw [each_cons h.1.2]; rfl)) ?_
      rintro v σ H Q ⟨ρ, hh, d, env, env2, w, er, r, ea, q⟩
      cases d with
      | nil => cases ea
      | cons x xs =>
        obtain ⟨u, us, rfl, r1, r2⟩ := r
        unfold asgT.asgTs at ea
        split at ea
        · rename_i env' e1
          refine ⟨u, us, rfl, ρ, hh, x, env, env', w, er, r1, e1, fun σ2 er2 hw => ?_⟩
          refine ⟨ρ, hh, xs, env', env2, w, er2, r2, ea, fun σ3 er3 hw3 => q σ3 er3 fun own ho => ?_⟩
          have ho' : tgIn own a = true ∧ tgIn own b = true := by simpa [tgIn] using ho
          rw [hw3 own ho'.2, hw own ho'.1]
        · cases ea
  | _ => exact ⟨fun e h => (by cases e <;> cases h), fun ts h => (by cases ts <;> cases h)⟩
end
end Mini
end

section
/-! Mini: rules for dicts of both kinds: stores, displays, comprehensions, pairs (own work). -/
namespace Mini
open PySem PySem.Spec PyProof.Rows L2

/-- an empty dict of the kind -/
def dEmpty (t : Bool) : HO := if t then .dT [] else .dK []
theorem dEmpty_ok {P : Program} {w : World} {H : Hp} (t : Bool) (h : Heap) (hb : sysModules < h.objs.size) : ObjOk P w H (h.push { cls := .type "dict", data := .dict #[] }) h.objs.size (dEmpty t) := by
  cases t with
  | true => exact dt_empty h hb
  | false => exact dk_empty h hb
/-- d[y] = v within a comprehension -/
theorem put_in {X : Cx} {pins : List (Addr × Obj)} {σ : L2.St} {H H' : Hp} {s : Shared} {E : Value → Shared → Prop} {B : Addr} {y v : V} {u r : Value} {Q : Unit → Shared → Prop} (hu : X.A.units + 1 < cLine) (I : L2.Inv X pins σ H s) (g : DPut H B y v H') (ry : RelV y u) (rv : RelV v r)
    (go : ∀ s', L2.Inv X pins σ H' s' → Q () s') : wpAny (model X.prog X.w) X.A (dictSet B u r) Q E s := by
  rcases g with ⟨kvs, k, e, ey, l, eH⟩ | ⟨kvs, k, b, e, ey, eb, l, eH⟩
  · subst ey; subst eH
    exact d_dictSet I e l ry rv go
  · subst ey; subst eH
    obtain rfl : u = Value.ref b := ry
    obtain ⟨z, hd, xs, rel, dd⟩ := dt_of I.hok e
    have hxs : xs.length ≤ sizeLine := by rw [← Paired.length rel]; exact z
    have hput : (putK kvs k v).length ≤ sizeLine := Nat.le_trans (length_putK kvs k v) l
    refine wpAny_dictSet_heap (hsz := hxs) (show X.A.units < cLine by omega) (key_of I.hok eb) dd fun h' dd' same => ?_
    obtain ⟨q, es, ep, p1, p2, p3, p4, _, p5⟩ := dd'
    refine go _ (d_write I (by rw [e]; exact trivial) same ⟨q, p1⟩ ⟨hput, hd, _, (rel.put k eb rv).keeps fun c ys ec => ?_, q, es, ep, p1, p2, p3, p4, p5⟩)
    rw [upd_ne (ne_of ec e nofun)]
    exact ec

/-! ### comprehensions -/
def tDcX (t : Bool) (wi : TI) (g : TG) (tt : TT) (tk tv : TE) (vs : List Nat) : TE := fun σ H Q => wi σ H fun J H1 => ∀ B, H1 B = none → ∃ W : Nat → Nat → Hp → Prop, (∃ m, W 0 m (upd H1 B (dEmpty t))) ∧ ∀ i m H, W i m H →
  (J.stop i H ∧ Q (.ref B) H) ∨ (J.go i H ∧ ∃ Nx : Hp → Prop, (∀ H', Nx H' → ∃ m', m' < m ∧ W (i + 1) m' H') ∧ ∀ x H', J.yld i H x H' → g x (wipe σ vs) H' fun σ2 H2 => wipe σ2 vs = wipe σ vs ∧ tt σ2 H2 fun b H3 =>
    if b = true then tk σ2 H3 fun y H4 => tv σ2 H4 fun z H5 => ∃ H6, DPut H5 B y z H6 ∧ Nx H6 else Nx H3)
section
variable {X : Cx}
/-- the block of a dict comprehension; what follows is the caller's -/
theorem dcX_run (t : Bool) (hu : X.A.units + 1 < cLine) {kx vx tg iter : PySem.Expr} {ifs : List PySem.Expr} {scope : Scope} {own : List (Str × Nat)} {pos pos' : Pos} {wi : TI} {g : TG} {tt : TT} {tk tv : TE} (hc : X.calm = true) (hN : X.N.Nodup) (hi : PI X tg iter wi) (blk : BlkOk X.N X.env.scope scope own)
    (hg : ∀ (s : Shared) (H : Hp) (cC : Addr) (cl : List (Str × Addr)) (fp : List Addr), PG (X.blk s H scope (compEnvC scope cl cC X.env) fp) tg g)
    (ht : ∀ (s : Shared) (H : Hp) (cC : Addr) (cl : List (Str × Addr)) (fp : List Addr), PTs (X.blk s H scope (compEnvC scope cl cC X.env) fp) ifs tt)
    (hk : ∀ (s : Shared) (H : Hp) (cC : Addr) (cl : List (Str × Addr)) (fp : List Addr), PE (X.blk s H scope (compEnvC scope cl cC X.env) fp) kx tk)
    (hv : ∀ (s : Shared) (H : Hp) (cC : Addr) (cl : List (Str × Addr)) (fp : List Addr), PE (X.blk s H scope (compEnvC scope cl cC X.env) fp) vx tv) (hs : ∀ x, foldedSetIterable iter X.env x = pure x)
    {pins : List (Addr × Obj)} {s : Shared} {σ : L2.St} {H : Hp} {Q : VK} {use : Option (Value → Sem Unit)} {Qf : Value → Shared → Prop} (I : L2.Inv X pins σ H s) (wish : tDcX t wi g tt tk tv (own.map (·.2)) σ H Q)
    (rest : ∀ B cC s' m H', L2.Inv X pins σ H' s' → Q (.ref B) H' → s'.heap.Ns cC m → FpOk X pins H' cC → compPost (model X.prog X.w) X.A X.xe use Qf (.ref B) cC (.ok .next) s') :
    wpAny (model X.prog X.w) X.A (comprehension (.DictComp kx vx [⟨tg, iter, ifs, 0⟩] scope pos) scope X.env pos' newDict false (eval iter X.env) use) Qf X.xe s := by
  have clos : ∀ y ∈ scope.names, y.2 = .free → ∃ c, X.env.cells.lookup y.1 = some c := fun y hy e => (blk.free y hy e).elim (fun q => I.ok.has _ (.inl q)) fun q => I.ok.has _ (.inr q)
  refine wpAny_comprehension_free (use := use) rfl hs (closure_ok clos) blk.kind (fun y hy e => by rw [blk.uniq y hy, e]) (thn (hi.run pins s σ H _ I wish) fun xv s1 hx => thn hx fun itv s2 it2 => ?_)
  obtain ⟨it, fp, tn, J, H2, rfl, I2, T, st2, fpok, wish2⟩ := it2
  refine wpAny_newObj_type (newEnv_comp ?_)
  -- the new dict's place
  obtain ⟨B, eB⟩ : ∃ B, s2.heap.objs.size = B := ⟨_, rfl⟩
  rw [eB]
  have freeB : H2 B = none := I2.hok.fresh (Nat.le_of_eq eB)
  obtain ⟨W, ⟨m0, start⟩, turn⟩ := wish2 B freeB
  obtain ⟨s3, es3⟩ : ∃ s3 : Shared, ({ s2 with heap := s2.heap.push { cls := .type "dict", data := .dict #[] } } : Shared) = s3 := ⟨_, rfl⟩
  have I3 : L2.Inv X pins σ (upd H2 B (dEmpty t)) s3 := by
    subst es3
    refine I2.laid (t' := s2.toks) (fun b o e => Heap.get?_push_of_some _ e) (Nat.le_of_eq eB) ?_
    subst eB
    exact dEmpty_ok t s2.heap I2.big
  have heap3 : s3.heap = s2.heap.push { cls := .type "dict", data := .dict #[] } := by subst es3; rfl
  rw [es3]
  have fp3 : ∀ b ∈ fp, FpOk X pins (upd H2 B (dEmpty t)) b ∧ b < s3.heap.objs.size := fun b hb => by
    obtain ⟨ob, eb, _⟩ := T.obj _ _ st2 b hb
    have lt : b < s2.heap.objs.size := Heap.lt_size eb
    refine ⟨⟨?_, (fpok b hb).2⟩, by rw [heap3, Heap.size_push]; exact Nat.lt_succ_of_lt lt⟩
    rw [upd_ne (by rw [← eB]; exact Nat.ne_of_lt lt)]
    exact (fpok b hb).1
  have st3 : tn 0 s3.heap := T.keep _ _ _ st2 fun b _ o e => by rw [heap3]; exact Heap.get?_push_of_some _ e
  have I4 := block_start I3 blk hN fp3
  have pg := hg s3 (upd H2 B (dEmpty t)) s3.heap.objs.size (cellsFrom (s3.heap.objs.size + 1) scope.names (cloFrom X.env.cells scope.names [])) fp
  have pt := ht s3 (upd H2 B (dEmpty t)) s3.heap.objs.size (cellsFrom (s3.heap.objs.size + 1) scope.names (cloFrom X.env.cells scope.names [])) fp
  have pk := hk s3 (upd H2 B (dEmpty t)) s3.heap.objs.size (cellsFrom (s3.heap.objs.size + 1) scope.names (cloFrom X.env.cells scope.names [])) fp
  have pv := hv s3 (upd H2 B (dEmpty t)) s3.heap.objs.size (cellsFrom (s3.heap.objs.size + 1) scope.names (cloFrom X.env.cells scope.names [])) fp
  show codeAny _ _ (.compStart (.DictComp kx vx [⟨tg, iter, ifs, 0⟩] scope pos) 0 (.ref it) (.ref B) (compEnvC scope (cellsFrom (s3.heap.objs.size + 1) scope.names (cloFrom X.env.cells scope.names [])) s3.heap.objs.size X.env)) (compPost (model X.prog X.w) X.A X.xe use Qf (.ref B) s3.heap.objs.size) { s3 with heap := pushCells (s3.heap.push { cls := .type "dict", data := .dict #[] }) scope.names }
  have free3 : ∀ b ∈ fp, (upd H2 B (dEmpty t)) b = none := fun b hb => (fp3 b hb).1.1
  obtain ⟨ce, ece⟩ : ∃ ce, compEnvC scope (cellsFrom (s3.heap.objs.size + 1) scope.names (cloFrom X.env.cells scope.names [])) s3.heap.objs.size X.env = ce := ⟨_, rfl⟩
  rw [ece] at I4 pg pt pk pv ⊢
  have locs : ce.locals = s3.heap.objs.size := by subst ece; rfl
  generalize eH3 : upd H2 B (dEmpty t) = H3 at I3 I4 pg pt pk pv start free3 fp3
  generalize es4 : ({ s3 with heap := pushCells (s3.heap.push { cls := .type "dict", data := .dict #[] }) scope.names } : Shared) = s4 at I4 ⊢
  have st4 : tn 0 s4.heap := T.keep _ _ _ st3 fun b _ o e => by subst es4; exact pushCells_keeps _ _ _ _ (Heap.get?_push_of_some _ e)
  have apart : ∀ {σ' : L2.St} {H' : Hp} {s' : Shared}, L2.Inv (X.blk s3 H3 scope ce fp) [] σ' H' s' → (∀ b ∈ fp, H' b = none) → ∀ b ∈ fp, FpOk (X.blk s3 H3 scope ce fp) [] H' b := fun {σ' H' s'} I' hn b hb =>
    ⟨hn b hb, (I'.ok.exf b hb).1, I'.ok.exfs b hb, .inl hb, fun x c e => (I'.ok.exf b hb).2 x c e, fun p hp => by simp at hp⟩
  have loop : codeAny (model X.prog X.w) X.A (.compLoop (.DictComp kx vx [⟨tg, iter, ifs, 0⟩] scope pos) 0 (.ref it) (.ref B) ce) (compPost (model X.prog X.w) X.A X.xe use Qf (.ref B) s3.heap.objs.size) s4 := by
    refine compLoop_anyD (fun n s' => ∃ i H', L2.Inv (X.blk s3 H3 scope ce fp) [] (wipe σ (own.map (·.2))) H' s' ∧ tn i s'.heap ∧ (∀ b ∈ fp, H' b = none) ∧ W i n H') ?_ m0 ⟨0, H3, I4, st4, free3, start⟩
    rintro n s5 ⟨i, H5, I5, st5, n5, w5⟩
    rcases turn i n H5 w5 with ⟨stop, fin⟩ | ⟨more, Nx, next, step⟩
    · have over := T.done (X.blk s3 H3 scope ce fp) rfl rfl rfl hc i [] s5 _ H5 (fun _ _ => False) I5 (apart I5 n5) st5 stop
      refine thnF over fun r s6 ⟨hr, I6⟩ => ?_
      subst hr
      have I7 : L2.Inv X pins σ H5 s6 := I3.call' (ch := fp) I6.os I6.base I6.hok I6.bare fun b hb => ⟨(fp3 b hb).1.2.2.2.1, (fp3 b hb).1.2.1, (fp3 b hb).1.2.2.2.2.1, (fp3 b hb).1.2.2.2.2.2⟩
      have frC : H5 s3.heap.objs.size = none := by
        have z : H5 ce.locals = none := I6.free
        rwa [locs] at z
      obtain ⟨m, hn, _⟩ := I6.loc
      have hn : s6.heap.Ns ce.locals m := hn
      rw [locs] at hn
      exact rest B s3.heap.objs.size s6 m H5 I7 fin hn (I3.fpOk (Nat.le_refl _) frC)
    · have item := T.item (X.blk s3 H3 scope ce fp) rfl rfl rfl hc i [] s5 _ H5 (fun _ _ => False) I5 (apart I5 n5) st5 more
      refine thnF item fun r s6 ⟨u, hr, h6⟩ => ?_
      subst hr
      refine thnF h6 fun _ s7 ⟨x, H7, I7, r7, y7, st7, n7⟩ => ?_
      have I7' := I7.pinned (apart I7 n7) (T.obj _ _ st7)
      refine thnF (pg.run _ s7 _ H7 x u _ I7' r7 (step x H7 y7)) fun _ s8 ⟨σ8, H8, I8, hw8, q8⟩ => ?_
      refine thnF (pt.run _ s8 σ8 H8 _ I8 q8) fun b s9 ⟨H9, I9, q9⟩ => ?_
      have back : ∀ {s' : Shared} {H' : Hp}, L2.Inv (X.blk s3 H3 scope ce fp) ([] ++ pinsAt fp s7.heap) σ8 H' s' → Nx H' → ∃ m, m < n ∧ ∃ i H', L2.Inv (X.blk s3 H3 scope ce fp) [] (wipe σ (own.map (·.2))) H' s' ∧ tn i s'.heap ∧ (∀ b ∈ fp, H' b = none) ∧ W i m H' := fun {s' H'} I' nx => by
        obtain ⟨m', hm, w'⟩ := next H' nx
        have still : ∀ b ∈ fp, ∀ o, s7.heap.get? b = some o → s'.heap.get? b = some o ∧ H' b = none := fun b hb o e => by
          have z := I'.pin (b, o) (List.mem_append_right _ (List.mem_append_right _ (mem_pinsAt hb e)))
          exact ⟨z.1, z.2.1⟩
        have hl : (wipe σ (own.map (·.2))).length = σ8.length := by rw [← hw8, wipe_length]
        refine ⟨m', hm, i + 1, H', (I'.unpinned (pins := [])).weak hl (fun j v e => ?_), T.keep _ _ _ st7 fun b hb o e => (still b hb o e).1, fun b hb => ?_, w'⟩
        · rw [← hw8] at e
          exact (wipe_some e).1
        · obtain ⟨o, e, _⟩ := T.obj _ _ st7 b hb
          exact (still b hb o e).2
      cases b with
      | false =>
        rw [if_neg Bool.false_ne_true] at q9 ⊢
        exact back I9 q9
      | true =>
        rw [if_pos rfl] at q9 ⊢
        refine thnF (pk.run _ s9 σ8 H9 _ I9 q9) fun z s10 ⟨yk, H10, I10, r10, q10⟩ => ?_
        refine thnF (pv.run _ s10 σ8 H10 _ I10 q10) fun z2 s11 ⟨yv, H11, I11, r11, H12, put, nx⟩ => ?_
        exact put_in (X := X.blk s3 H3 scope ce fp) hu I11 put r10 r11 fun s12 I12 => back I12 nx
  exact codeAny_compStart_dict loop (T.self X.A 0 _ _ _ st4 loop)
section
variable (t : Bool) (hu : X.A.units + 1 < cLine) {kx vx tg iter : PySem.Expr} {ifs : List PySem.Expr} {scope : Scope} {own : List (Str × Nat)} {pos : Pos} {wi : TI} {g : TG} {tt : TT} {tk tv : TE} (hc : X.calm = true) (hN : X.N.Nodup) (hi : PI X tg iter wi) (blk : BlkOk X.N X.env.scope scope own)
    (hg : ∀ (s : Shared) (H : Hp) (cC : Addr) (cl : List (Str × Addr)) (fp : List Addr), PG (X.blk s H scope (compEnvC scope cl cC X.env) fp) tg g)
    (ht : ∀ (s : Shared) (H : Hp) (cC : Addr) (cl : List (Str × Addr)) (fp : List Addr), PTs (X.blk s H scope (compEnvC scope cl cC X.env) fp) ifs tt)
    (hk : ∀ (s : Shared) (H : Hp) (cC : Addr) (cl : List (Str × Addr)) (fp : List Addr), PE (X.blk s H scope (compEnvC scope cl cC X.env) fp) kx tk)
    (hv : ∀ (s : Shared) (H : Hp) (cC : Addr) (cl : List (Str × Addr)) (fp : List Addr), PE (X.blk s H scope (compEnvC scope cl cC X.env) fp) vx tv) (hs : ∀ x, foldedSetIterable iter X.env x = pure x)
include hu hc hN hi blk hg ht hk hv hs
theorem pe_dcX : PE X (.DictComp kx vx [⟨tg, iter, ifs, 0⟩] scope pos) (tDcX t wi g tt tk tv (own.map (·.2))) := by
  refine ⟨fun pins s σ H Q I wish => ?_⟩
  rw [arm_eval_DictComp]
  refine dcX_run t hu hc hN hi blk hg ht hk hv hs I wish fun B cC s' m H' I' q hn f => ?_
  obtain ⟨g0, g1, g2, g3, g4, g5⟩ := f
  exact ⟨m, hn, fun h'' sb => ⟨.ref B, H', I'.turned (t' := s'.toks) (fun b o hb e => (sb.2 b hb).trans e) g0 g1 g3 g4 g5, rfl, q⟩⟩
/-- y = {..}, stored within the frame -/
theorem ps_dcX {i : Nat} {y : Str} {py spos : Pos} (hy : X.N[i]? = some y) (loc : X.env.scope.names.lookup y = some .local) (sw : swapsWith (.DictComp kx vx [⟨tg, iter, ifs, 0⟩] scope pos) (some (.Name y py)) spos.line X.env = pure true) :
    PS X (.Assign [.Name y py] (.DictComp kx vx [⟨tg, iter, ifs, 0⟩] scope pos) spos) (tAsg (tDcX t wi g tt tk tv (own.map (·.2))) (gName i)) := by
  refine ⟨fun pins s σ H D I wish => ?_⟩
  rw [exec_Assign_Name_used _ _ _ _ sw]
  refine wpAny_bind (wpAny_standAt (wpAny_bind ?_))
  show wpAny _ X.A (comprehension (.DictComp kx vx [⟨tg, iter, ifs, 0⟩] scope pos) scope X.env (firstIterPos [⟨tg, iter, ifs, 0⟩] pos) newDict false (eval iter X.env) (some (assign (.Name y py) X.env)) >>= _) _ _ s
  have wish : tDcX t wi g tt tk tv (own.map (·.2)) σ H (fun x H1 => gName i x σ H1 D.nx) := wish
  refine wpAny_bind (thn (dcX_run t (Qf := fun _ s' => SP X pins D .next s') hu hc hN hi blk hg ht hk hv hs I wish fun B cC s' m H' I' q hn f => ?_) fun _ s' hq => wpAny_pure (wpAny_pure hq))
  obtain ⟨g0, g1, g2, g3, g4, g5⟩ := f
  show wpAny _ _ (assign (.Name y py) X.env (.ref B)) _ _ _
  refine wpAny_assign_Name (store_ok2 (v := V.ref B) I' hN hy (.inl loc) rfl (fun s2 I2 ⟨a, sb, ha⟩ => ?_) (.inr loc))
  have apart : cC ≠ a := ha.elim (fun z => by rw [z]; exact g1) fun z e => g4 y a z e.symm
  exact ⟨m, hn.sameBut sb apart, fun h3 sb3 => ⟨_, H', I2.turned (t' := s2.toks) (fun b o hb e => (sb3.2 b hb).trans e) g0 g1 g3 g4 g5, q⟩⟩
end
end

/-! ### displays -/
abbrev KP (H : Hp) : List (V × V) → List (List Key × V) → Prop := Paired fun p kv => (∃ b, p.1 = .ref b ∧ H b = some (.tup (kv.1.map kV))) ∧ p.2 = kv.2
def mergeT (kvs more : List (List Key × V)) : List (List Key × V) := more.foldl (fun acc kv => putK acc kv.1 kv.2) kvs
theorem length_mergeT : ∀ (more kvs : List (List Key × V)), (mergeT kvs more).length ≤ kvs.length + more.length
  | [], kvs => Nat.le_refl _
  | p :: more, kvs => by
    have h1 := length_mergeT more (putK kvs p.1 p.2)
    have h2 := length_putK kvs p.1 p.2
    show (mergeT (putK kvs p.1 p.2) more).length ≤ _
    rw [List.length_cons]; omega
def tDispT (trs : List (TE × TE)) : TE := fun σ H Q => ∀ p, H p = none → tPairs trs σ (upd H p (.dT [])) fun ps H2 => H2 p = some (.dT []) ∧ ∃ kvs : List (List Key × V), KP H2 ps kvs ∧ kvs.length ≤ 15 ∧ Q (.ref p) (upd H2 p (.dT (mergeT [] kvs)))
/-- the evaluated pairs carry the keys -/
theorem carriesT {P : Program} {w : World} {H : Hp} {h : Heap} (ok : HOk P w H h) : ∀ {ps : List (V × V)} {kvs : List (List Key × V)} {ws : List (Value × Value)}, VV ps ws → KP H ps kvs → ∃ rs, CarriesH (tupleKind (mixKind P w)) h ws rs ∧ KT H kvs rs
  | _, _, _, .nil, .nil => ⟨[], trivial, .nil⟩
  | _, _, _, .cons (b := q) r t, .cons k u => by
    obtain ⟨rs, c, kt⟩ := carriesT ok t u
    obtain ⟨⟨b, e1, e2⟩, e3⟩ := k
    obtain ⟨r1, r2⟩ := r
    rw [e1] at r1
    rw [e3] at r2
    obtain ⟨q1, q2⟩ := q
    obtain rfl : q1 = Value.ref b := r1
    exact ⟨(_, b, q2) :: rs, ⟨rfl, rfl, key_of ok e2, c⟩, .cons ⟨rfl, e2, r2⟩ kt⟩
theorem KT.all {H : Hp} : ∀ {more : List (List Key × V)} {rs : List (List Key × Addr × Value)} {kvs : List (List Key × V)} {xs : List (List Key × Addr × Value)}, KT H more rs → KT H kvs xs → KT H (mergeT kvs more) (storedAllH xs rs)
  | _, _, _, _, .nil, r => r
  | _, _, kvs, xs, .cons (a := p) (b := q) h t, r => by
    have := KT.all t (r.put p.1 h.2.1 h.2.2)
    rw [show storedAllH xs (q :: _) = storedAllH (storedH xs q.1 q.2.1 q.2.2) _ from rfl, ← h.1]
    exact this
theorem pe_dispT {X : Cx} (hu : X.A.units + 1 < cLine) {pos : Pos} {keys : List (Option PySem.Expr)} {values : List PySem.Expr} {trs : List (TE × TE)} (h : PPs X pos keys values trs) (hall : keys.all (·.isSome) = true) (hl : keys.length = values.length) (h0 : keys ≠ [])
    (h15 : keys.length ≤ 15) : PE X (.Dict keys values pos) (tDispT trs) := by
  refine ⟨fun pins s σ H Q I q => ?_⟩
  have hn := I.hok.fresh (Nat.le_refl s.heap.objs.size)
  have I1 := I.laid (a := s.heap.objs.size) (o := .dT []) (h' := s.heap.push { cls := .type "dict", data := .dict #[] }) (t' := s.toks) (fun _ _ q => Heap.get?_push_of_some _ q) (Nat.le_refl _) (dt_empty s.heap I.big)
  have np := pairTrees_length keys values X.env pos hall hl
  have ne : pairTrees keys values X.env pos ≠ [] := fun z => by rw [z] at np; exact h0 (List.length_eq_zero_iff.mp np.symm)
  rw [arm_eval_Dict, zip_pairTrees keys values X.env pos hall hl, dictDisplay_pairs _ ne (by omega)]
  refine wpAny_bind (wpAny_standAt (wpAny_bind (wpAny_subDictH (knd := tupleKind (mixKind X.prog X.w)) (show X.A.units < cLine by omega) (by omega) (thn (h.run pins _ σ _ _ I1 (q _ hn)) fun ws s2 ⟨ps, H2, I2, rel, e, kvs, kp, lk, q2⟩ => ?_))))
  obtain ⟨rs, c, kt⟩ := carriesT I2.hok rel kp
  obtain ⟨z, hd, xs, r0, dd⟩ := dt_of I2.hok e
  cases r0
  refine ⟨rs, c, dd, fun h' tk dd' same => wpAny_pure ⟨.ref s.heap.objs.size, _, ?_, rfl, q2⟩⟩
  have hz : (mergeT [] kvs).length ≤ sizeLine := by
    have h1 := length_mergeT kvs []
    rw [List.length_nil] at h1
    rw [sizeLine_eq]; omega
  obtain ⟨o, es, ep, p1, p2, p3, p4, _, p5⟩ := dd'
  refine d_write I2 (by rw [e]; exact trivial) same ⟨o, p1⟩ ⟨hz, hd, _, (KT.all kt .nil).keeps fun c ys ec => ?_, o, es, ep, p1, p2, p3, p4, p5⟩
  rw [upd_ne (ne_of ec e nofun)]
  exact ec

/-! ### the pairs of a dict with tuple keys -/
theorem frz_rows {X : Cx} {pins : List (Addr × Obj)} {σ : L2.St} {H : Hp} {s : Shared} {d : Addr} {o : Obj} {kvs : List (List Key × V)} (I : L2.Inv X pins σ H s) (h : H d = some (.frz o (.dT kvs))) :
    (d == sysModules) = false ∧ s.heap.get? d = some o ∧ o.ExactDict ∧ ∃ (es : Array DictEntry) (ep : Nat), o.data = .dict es ep ∧ es.size = kvs.length ∧
      ∀ (i : Nat) (k : List Key) (v : V), kvs[i]? = some (k, v) → ∃ (en : DictEntry) (q : Addr), es[i]? = some en ∧ en.key = .ref q ∧ H q = some (.tup (k.map kV)) ∧ RelV v en.val := by
  obtain ⟨hd, z, hs, xs, pr, o', es, ep, ho, hx, hdt, he, _⟩ := I.hok d _ h
  rw [hd] at ho
  cases ho
  refine ⟨hs, hd, hx, es, ep, hdt, (size_of_entries he).trans (Paired.length pr).symm, fun i k v e => ?_⟩
  obtain ⟨b, hb, e1, e2, e3⟩ := paired_get pr e
  have q := entry_at he i
  rw [hb] at q
  exact ⟨_, b.2.1, q, rfl, e2, e3⟩
/-- each pair a new tuple -/
def ItiT (d : Addr) (o : Obj) (kvs : List (List Key × V)) : It :=
  ⟨fun i H => H d = some (.frz o (.dT kvs)) ∧ i < kvs.length, fun i H x H' => ∃ (A : Addr) (k : List Key) (v : V) (q : Addr), kvs[i]? = some (k, v) ∧ x = .ref A ∧ H A = none ∧ H q = some (.tup (k.map kV)) ∧ H' = upd H A (.tup [.ref q, v]), fun i H => H d = some (.frz o (.dT kvs)) ∧ kvs.length ≤ i⟩
theorem turn_pairsT {P : Program} {w : World} {K : PySem.W.Frag} {d : Addr} {o : Obj} {es : Array DictEntry} {ep : Nat} {kvs : List (List Key × V)} {elts : List PySem.Expr} {kk : Nat} {tpos : Pos} (it : Addr) (hod : o.data = .dict es ep) (hes : es.size = kvs.length) :
    Turn P w K (.Tuple elts kk tpos) (ItiT d o kvs) [it] it (fun i h => ∃ ok ov, IsItemIter h it d i es.size ep ok ov) where
  mem := List.mem_cons_self
  obj := fun i h st b hb => by
    obtain rfl : b = it := by simpa using hb
    obtain ⟨ok, ov, e⟩ := st
    exact ⟨_, e, nofun⟩
  keep := fun i h h' ⟨ok, ov, e⟩ k => ⟨ok, ov, k it List.mem_cons_self _ e⟩
  item := by
    intro X hP hw hK hc i pins s σ H E I hf st hg
    subst hP hw hK
    obtain ⟨hd, hi⟩ := hg
    obtain ⟨hs, hgd, hx, es', ep', hdt, hsz, ent⟩ := frz_rows I hd
    obtain ⟨rfl, rfl⟩ := dict_ep hod hdt
    obtain ⟨⟨k, v⟩, hkv⟩ : ∃ p, kvs[i]? = some p := ⟨kvs[i], List.getElem?_eq_getElem hi⟩
    obtain ⟨en, q, hen, hkey, hq, hval⟩ := ent i k v hkv
    have hie : i < es'.size := by omega
    have een : es'[i] = en := by
      rw [Array.getElem?_eq_getElem hie] at hen
      exact Option.some.inj hen
    obtain ⟨ok, ov, he⟩ := st
    have hlt : it < s.heap.objs.size := Heap.lt_size he
    refine DT.nextI he (show DT.Raw s.heap d es' ep' from ⟨o, hgd, hx, hdt⟩) hie fun h' ho hT hz keeps => ?_
    refine ⟨_, rfl, wpAny_letOwnedTupleGo_items (s := { s with heap := h' }) ho fun h'' he' sb => ?_⟩
    have hT2 : h''.get? s.heap.objs.size = some { cls := .type "tuple", data := .seq #[es'[i].key, es'[i].val] } := (sb.2 _ (Nat.ne_of_gt hlt)).trans hT
    have new : ObjOk X.prog X.w (upd H s.heap.objs.size (.tup [.ref q, v])) h'' s.heap.objs.size (.tup [.ref q, v]) := by
      refine ⟨by show 2 ≤ sizeLine; decide, [es'[i].key, es'[i].val], ?_, ⟨_, hT2, rfl, _, rfl⟩⟩
      rw [een, hkey]
      exact .cons rfl (.cons hval .nil)
    have I1 : L2.Inv X pins σ (upd H s.heap.objs.size (.tup [.ref q, v])) { s with heap := h'' } :=
      I.turnedNew (t' := s.toks) (ch := [it]) (fun b ob hb e => (sb.2 b (by simpa using hb)).trans (keeps b ob (by simpa using hb) e)) hf (Nat.le_refl _) new
    refine ⟨.ref s.heap.objs.size, _, I1, rfl, ⟨_, k, v, q, hkv, rfl, I.hok.fresh (Nat.le_refl _), hq, rfl⟩, ⟨_, _, he'⟩, fun b hb => ?_⟩
    obtain rfl : b = it := by simpa using hb
    rw [upd_ne (Nat.ne_of_lt hlt)]
    exact (hf b List.mem_cons_self).1
  done := by
    intro X hP hw hK hc i pins s σ H E I hf st hg
    subst hP hw hK
    obtain ⟨hd, hi⟩ := hg
    obtain ⟨g0, g1, g2, g3, g4, g5⟩ := hf it List.mem_cons_self
    obtain ⟨hs, hgd, hx, es', ep', hdt, hsz, ent⟩ := frz_rows I hd
    obtain ⟨rfl, rfl⟩ := dict_ep hod hdt
    obtain ⟨ok, ov, he⟩ := st
    exact DT.endI (I.ok.hd hc) he (show DT.Raw s.heap d es' ep' from ⟨o, hgd, hx, hdt⟩) (by omega) fun h' eb => ⟨rfl, I.turned (t' := s.toks) (fun b ob hb e => eb b ob hb e) g0 g1 g3 g4 g5⟩
  self := fun A i s Q E ⟨_, _, e⟩ h => PySem.W.kcp_self e h
def iPairsT (td : TE) : TI := fun σ H R => td σ H fun x H1 => ∃ d o kvs, x = .ref d ∧ H1 d = some (.frz o (.dT kvs)) ∧ R (ItiT d o kvs) H1
theorem pi_pairsT {X : Cx} {e : PySem.Expr} {td : TE} {apos cpos tpos : Pos} {elts : List PySem.Expr} {kk : Nat} (he : PE X e td) (hbase : attributeBase e "items" X.env (eval e X.env) = eval e X.env) (hline : (apos.endLine == cpos.line) = true) :
    PI X (.Tuple elts kk tpos) (.Call (.Attribute e "items" apos) [] [] cpos) (iPairsT td) := by
  refine ⟨fun pins s σ H R I h => ?_⟩
  refine wpAny_Call_method (T := "dict") (id := "dict.items") hbase rfl hline PySem.F.plainAttrs_dict PySem.F.slot_dict_items PySem.F.type_dict_items (thn (he.run pins s σ H _ I h) fun u s1 ⟨x, H1, I1, rx, d, o, kvs, ex, hd, q⟩ => ?_)
  subst ex
  obtain rfl : u = Value.ref d := rx
  obtain ⟨hs, hgd, hx, es, ep, hdt, hsz, ent⟩ := frz_rows I1 hd
  have raw : DT.Raw s1.heap d es ep := ⟨o, hgd, hx, hdt⟩
  refine ⟨raw.typeIs, fun b q => by cases q; exact ⟨o, hgd, hx.2.1⟩, ?_⟩
  have I2 : L2.Inv X pins σ H1 { s1 with heap := s1.heap.push { cls := .type "dict_items", data := .fields #[.ref d] } } := I1.kept (t' := s1.toks) fun b ob q => Heap.get?_push_of_some _ q
  have fin : wpAny (model X.prog X.w) X.A (pyIter (.ref s1.heap.objs.size)) (PIE X pins σ (.Tuple elts kk tpos) R) X.xe { s1 with heap := s1.heap.push { cls := .type "dict_items", data := .fields #[.ref d] } } := by
    refine DT.iterI (d := d) ⟨_, Heap.get?_push_size _ rfl, rfl, rfl⟩ (raw.push _) (pi_one (tk := s1.toks) I2 _ (turn_pairsT _ hdt hsz) ⟨.none, .none, ?_⟩ q)
    exact Heap.get?_push_size _ rfl
  show wpAny _ _ (callWith cpos (.builtin "dict.items") [.ref d] [] []) _ X.xe s1
  exact method_meetsIn PySem.F.slot_dict_items PySem.F.entry_dict_items rfl (PySem.evalArgs_none ⟨rfl, raw.typeIs, PySem.F.args_dict_items_1 _, _, DT.meetsItems (es := es) (ep := ep) hs, raw, fin⟩)
end Mini
end

section
/-! Mini: what loops walk (own work). -/
namespace Mini
open PySem PySem.Spec PyProof.Rows L2
section
variable {K : PySem.W.Frag} {ρ ρ0 : List Addr} {H H0 : Hp} {h h0 : List O}
theorem chk_at {src : Src} (e : chk src h = true) {n : Nat} {xs : List D} (m : (n, xs) ∈ src) : rdLst h n = some xs := by
  have q := List.all_eq_true.mp e (n, xs) m
  dsimp only at q
  split at q
  · rename_i ys e1
    rw [e1, D.beqL_eq _ _ q]
  · cases q
/-- a list's address, its values where it stands as told -/
theorem src_at (w0 : Wd K ρ0 h0 H0) {n : Nat} {a : Addr} (ea : ρ0[n]? = some a) (x : Xt ρ0 H0 ρ H) (w : Wd K ρ h H) {xs : List D} (e : rdLst h n = some xs) : ∃ vs, SqL K H a vs ∧ RVs K ρ H vs xs := by
  obtain ⟨b, vs, e1, _, e2, e3⟩ := rd_lst (v := .ref a) w ⟨a, rfl, x.get n a ea⟩ e
  cases e1
  exact ⟨vs, e2, e3⟩
theorem it_list (w0 : Wd K ρ0 h0 H0) {n : Nat} {a : Addr} {xs : List D} (ea : ρ0[n]? = some a) : ItOk K ρ0 H0 (Itl K a) (xs, [(n, xs)]) := by
  intro ρ h H x w c
  obtain ⟨vs, q, r⟩ := src_at w0 ea x w (chk_at c (n := n) (xs := xs) List.mem_cons_self)
  refine ⟨fun i d e => ?_, ⟨vs, q, by rw [r.len]; exact Nat.le_refl _⟩⟩
  obtain ⟨v, e1, e2⟩ := r.get e
  refine ⟨⟨vs, v, q, e1⟩, fun u H' y => ?_⟩
  obtain ⟨rfl, f⟩ := y
  have := f vs q
  rw [e1] at this; cases this
  exact ⟨Xt.refl, w, e2⟩
theorem it_tup (w0 : Wd K ρ0 h0 H0) {a : Addr} {us : List V} {xs : List D} (hq : H0 a = some (.tup us)) (hr : RVs K ρ0 H0 us xs) : ItOk K ρ0 H0 (Itt K a) (xs, []) := by
  intro ρ h H x w _
  have q := sqt (K := K) (w0.tups x a us hq)
  have r := w0.rvs x hr
  refine ⟨fun i d e => ?_, ⟨us, q, by rw [r.len]; exact Nat.le_refl _⟩⟩
  obtain ⟨v, e1, e2⟩ := r.get e
  refine ⟨⟨us, v, q, e1⟩, fun u H' y => ?_⟩
  obtain ⟨rfl, f⟩ := y
  have := f us q
  rw [e1] at this; cases this
  exact ⟨Xt.refl, w, e2⟩
theorem it_tpl (w0 : Wd K ρ0 h0 H0) {a : Addr} {o : Obj} {us : List V} {xs : List D} (hq : H0 a = some (.frz o (.tup us))) (hr : RVs K ρ0 H0 us xs) : ItOk K ρ0 H0 (Itt K a) (xs, []) := by
  intro ρ h H x w _
  have q : SqT K H a us := .inl (.inr ⟨o, x.frz a o _ hq⟩)
  have r := w0.rvs x hr
  refine ⟨fun i d e => ?_, ⟨us, q, by rw [r.len]; exact Nat.le_refl _⟩⟩
  obtain ⟨v, e1, e2⟩ := r.get e
  refine ⟨⟨us, v, q, e1⟩, fun u H' y => ?_⟩
  obtain ⟨rfl, f⟩ := y
  have := f us q
  rw [e1] at this; cases this
  exact ⟨Xt.refl, w, e2⟩
theorem it_rng {lo : Int} {n : Nat} {src : Src} : ItOk K ρ0 H0 (Itr lo n) ((List.range n).map fun k : Nat => D.int (lo + (k : Int)), src) := by
  intro ρ h H x w _
  refine ⟨fun i d e => ?_, by show n ≤ _; simp⟩
  have e' : ((List.range n).map fun k : Nat => D.int (lo + (k : Int)))[i]? = some d := e
  rw [List.getElem?_map] at e'
  simp only [Option.map_eq_some_iff] at e'
  obtain ⟨j, e1, rfl⟩ := e'
  obtain ⟨hi, e2⟩ := List.getElem?_eq_some_iff.mp e1
  have hi' : i < n := by simpa using hi
  have ej : j = i := by
    rw [← e2]; simp
  subst ej
  refine ⟨hi', fun v H' y => ?_⟩
  obtain ⟨rfl, rfl⟩ := y
  exact ⟨Xt.refl, w, rfl⟩
theorem enum_get : ∀ (xs : List D) (k i : Nat) (d : D), (enumD k xs)[i]? = some d → ∃ x, xs[i]? = some x ∧ d = .tup [.int ((k + i : Nat) : Int), x]
  | [], _, _, _, e => by simp [enumD] at e
  | x :: xs, k, 0, d, e => by
    have e' : D.tup [.int (k : Nat), x] = d := by simpa [enumD] using e
    exact ⟨x, rfl, e'.symm⟩
  | x :: xs, k, i + 1, d, e => by
    obtain ⟨y, e1, e2⟩ := enum_get xs (k + 1) i d (by simpa [enumD] using e)
    refine ⟨y, by simpa using e1, ?_⟩
    rw [e2, show k + 1 + i = k + (i + 1) by omega]
theorem enum_len : ∀ (xs : List D) (k : Nat), (enumD k xs).length = xs.length
  | [], _ => rfl
  | x :: xs, k => by rw [enumD, List.length_cons, List.length_cons, enum_len xs (k + 1)]
theorem zip_get : ∀ (xs ys : List D) (i : Nat) (d : D), (zipD xs ys)[i]? = some d → ∃ x y, xs[i]? = some x ∧ ys[i]? = some y ∧ d = .tup [x, y]
  | [], _, _, _, e => by simp [zipD] at e
  | _ :: _, [], _, _, e => by simp [zipD] at e
  | x :: xs, y :: ys, 0, d, e => by
    have e' : D.tup [x, y] = d := by simpa [zipD] using e
    exact ⟨x, y, rfl, rfl, e'.symm⟩
  | x :: xs, y :: ys, i + 1, d, e => by
    obtain ⟨a, b, e1, e2, e3⟩ := zip_get xs ys i d (by simpa [zipD] using e)
    exact ⟨a, b, by simpa using e1, by simpa using e2, e3⟩
theorem zip_len : ∀ (xs ys : List D), (zipD xs ys).length = min xs.length ys.length
  | [], ys => by simp [zipD]
  | _ :: _, [] => by simp [zipD]
  | x :: xs, y :: ys => by rw [zipD, List.length_cons, zip_len xs ys, List.length_cons, List.length_cons]; omega
/-- a new pair -/
theorem pair_new (w : Wd K ρ h H) {T : Addr} (n : H T = none) {u v : V} {d e : D} (r1 : RV K ρ H u d) (r2 : RV K ρ H v e) :
    Xt ρ H ρ (upd H T (.tup [u, v])) ∧ Wd K ρ h (upd H T (.tup [u, v])) ∧ RV K ρ (upd H T (.tup [u, v])) (.ref T) (.tup [d, e]) := by
  have x := xt_new (ρ := ρ) (o := .tup [u, v]) n
  exact ⟨x, w.new n, T, [u, v], rfl, upd_same, u, [v], rfl, w.rv x r1, v, [], rfl, w.rv x r2, rfl⟩
theorem it_enum (w0 : Wd K ρ0 h0 H0) {n : Nat} {a : Addr} {xs : List D} (ea : ρ0[n]? = some a) : ItOk K ρ0 H0 (Ite K a) (enumD 0 xs, [(n, xs)]) := by
  intro ρ h H x w c
  obtain ⟨vs, q, r⟩ := src_at w0 ea x w (chk_at c (n := n) (xs := xs) List.mem_cons_self)
  refine ⟨fun i d e => ?_, ⟨vs, q, by rw [r.len]; show _ ≤ (enumD 0 xs).length; rw [enum_len]; exact Nat.le_refl _⟩⟩
  obtain ⟨y, e0, rfl⟩ := enum_get xs 0 i d e
  obtain ⟨v, e1, e2⟩ := r.get e0
  refine ⟨⟨vs, v, q, e1⟩, fun u H' yl => ?_⟩
  obtain ⟨T, z, rfl, nT, rfl, f⟩ := yl
  have := f vs q
  rw [e1] at this; cases this
  rw [Nat.zero_add]
  exact pair_new w nT (d := .int (i : Nat)) rfl e2
theorem it_zipL (w0 : Wd K ρ0 h0 H0) {m n : Nat} {a b : Addr} {xs ys : List D} (ea : ρ0[m]? = some a) (eb : ρ0[n]? = some b) : ItOk K ρ0 H0 (Itz K a b) (zipD xs ys, [(m, xs), (n, ys)]) := by
  intro ρ h H x w c
  obtain ⟨vs, q, r⟩ := src_at w0 ea x w (chk_at c (n := m) (xs := xs) List.mem_cons_self)
  obtain ⟨us, q', r'⟩ := src_at w0 eb x w (chk_at c (n := n) (xs := ys) (List.mem_cons_of_mem _ List.mem_cons_self))
  refine ⟨fun i d e => ?_, ⟨vs, us, q, q', by rw [r.len, r'.len]; show _ ≤ (zipD xs ys).length ∨ _ ≤ (zipD xs ys).length; rw [zip_len]; omega⟩⟩
  obtain ⟨y, z, e0, e0', rfl⟩ := zip_get xs ys i d e
  obtain ⟨v, e1, e2⟩ := r.get e0
  obtain ⟨v', e1', e2'⟩ := r'.get e0'
  refine ⟨⟨vs, us, v, v', q, q', e1, e1'⟩, fun u H' yl => ?_⟩
  obtain ⟨T, z, z', rfl, nT, rfl, f, f'⟩ := yl
  have h1 := f vs q
  have h2 := f' us q'
  rw [e1] at h1; cases h1
  rw [e1'] at h2; cases h2
  exact pair_new w nT e2 e2'
theorem it_zipT (w0 : Wd K ρ0 h0 H0) {a b : Addr} {vs us : List V} {xs ys : List D} (qa : H0 a = some (.tup vs)) (ra : RVs K ρ0 H0 vs xs) (qb : H0 b = some (.tup us)) (rb : RVs K ρ0 H0 us ys) : ItOk K ρ0 H0 (RZ.ItzT K a b) (zipD xs ys, []) := by
  intro ρ h H x w _
  have q := sqt (K := K) (w0.tups x a vs qa)
  have r := w0.rvs x ra
  have q' := sqt (K := K) (w0.tups x b us qb)
  have r' := w0.rvs x rb
  refine ⟨fun i d e => ?_, ⟨vs, us, q, q', by rw [r.len, r'.len]; show _ ≤ (zipD xs ys).length ∨ _ ≤ (zipD xs ys).length; rw [zip_len]; omega⟩⟩
  obtain ⟨y, z, e0, e0', rfl⟩ := zip_get xs ys i d e
  obtain ⟨v, e1, e2⟩ := r.get e0
  obtain ⟨v', e1', e2'⟩ := r'.get e0'
  refine ⟨⟨vs, us, v, v', q, q', e1, e1'⟩, fun u H' yl => ?_⟩
  obtain ⟨T, z, z', rfl, nT, rfl, f, f'⟩ := yl
  have h1 := f vs q
  have h2 := f' us q'
  rw [e1] at h1; cases h1
  rw [e1'] at h2; cases h2
  exact pair_new w nT e2 e2'
/-! ### what stands in a locked dict -/
theorem it_keysK (w0 : Wd K ρ0 h0 H0) {d : Addr} {o : Obj} {ws : List (Key × V)} {kvs : List (D × D)} (e0 : H0 d = some (.frz o (.dK ws))) (dr : DR K ρ0 H0 kD ws kvs) : ItOk K ρ0 H0 (Itk d o ws) (kvs.map (·.1), []) := by
  intro ρ h H x w _
  have eH := x.frz d o _ e0
  refine ⟨fun i y e => ?_, ⟨eH, by rw [dr.len]; show _ ≤ (kvs.map (·.1)).length; rw [List.length_map]; exact Nat.le_refl _⟩⟩
  rw [List.getElem?_map] at e
  obtain ⟨p, e1, rfl⟩ := Option.map_eq_some_iff.mp e
  obtain ⟨k, v, e2, e3, r⟩ := dr.at e1
  refine ⟨⟨eH, (List.getElem?_eq_some_iff.mp e2).1⟩, fun u H' yl => ?_⟩
  obtain ⟨rfl, k', v', e4, rfl⟩ := yl
  rw [e2] at e4; cases e4
  exact ⟨Xt.refl, w, by show RV K ρ H' _ p.1; rw [← e3]; exact kV_rv k⟩
theorem it_keysT (w0 : Wd K ρ0 h0 H0) {d : Addr} {o : Obj} {ws : List (List Key × V)} {kvs : List (D × D)} (e0 : H0 d = some (.frz o (.dT ws))) (dr : DR K ρ0 H0 keyT ws kvs) : ItOk K ρ0 H0 (Itkt d o ws) (kvs.map (·.1), []) := by
  intro ρ h H x w _
  have eH := x.frz d o _ e0
  refine ⟨fun i y e => ?_, ⟨eH, by rw [dr.len]; show _ ≤ (kvs.map (·.1)).length; rw [List.length_map]; exact Nat.le_refl _⟩⟩
  rw [List.getElem?_map] at e
  obtain ⟨p, e1, rfl⟩ := Option.map_eq_some_iff.mp e
  obtain ⟨k, v, e2, e3, r⟩ := dr.at e1
  refine ⟨⟨eH, (List.getElem?_eq_some_iff.mp e2).1⟩, fun u H' yl => ?_⟩
  obtain ⟨rfl, k', v', q, e4, rfl, e5⟩ := yl
  rw [e2] at e4; cases e4
  exact ⟨Xt.refl, w, by show RV K ρ H' _ p.1; rw [← e3]; exact ⟨q, _, rfl, e5, kVs_rv k⟩⟩
theorem it_pairsK (w0 : Wd K ρ0 h0 H0) {d : Addr} {o : Obj} {ws : List (Key × V)} {kvs : List (D × D)} (e0 : H0 d = some (.frz o (.dK ws))) (dr : DR K ρ0 H0 kD ws kvs) : ItOk K ρ0 H0 (Iti d o ws) (kvs.map (fun p => .tup [p.1, p.2]), []) := by
  intro ρ h H x w _
  have eH := x.frz d o _ e0
  refine ⟨fun i y e => ?_, ⟨eH, by rw [dr.len]; show _ ≤ (kvs.map (fun p => D.tup [p.1, p.2])).length; rw [List.length_map]; exact Nat.le_refl _⟩⟩
  rw [List.getElem?_map] at e
  obtain ⟨p, e1, rfl⟩ := Option.map_eq_some_iff.mp e
  obtain ⟨k, v, e2, e3, r⟩ := dr.at e1
  refine ⟨⟨eH, (List.getElem?_eq_some_iff.mp e2).1⟩, fun u H' yl => ?_⟩
  obtain ⟨T, k', v', e4, rfl, nT, rfl⟩ := yl
  rw [e2] at e4; cases e4
  refine pair_new w nT ?_ (w0.rv x r)
  rw [← e3]; exact kV_rv k
theorem it_pairsT (w0 : Wd K ρ0 h0 H0) {d : Addr} {o : Obj} {ws : List (List Key × V)} {kvs : List (D × D)} (e0 : H0 d = some (.frz o (.dT ws))) (dr : DR K ρ0 H0 keyT ws kvs) : ItOk K ρ0 H0 (ItiT d o ws) (kvs.map (fun p => .tup [p.1, p.2]), []) := by
  intro ρ h H x w _
  have eH := x.frz d o _ e0
  refine ⟨fun i y e => ?_, ⟨eH, by rw [dr.len]; show _ ≤ (kvs.map (fun p => D.tup [p.1, p.2])).length; rw [List.length_map]; exact Nat.le_refl _⟩⟩
  rw [List.getElem?_map] at e
  obtain ⟨p, e1, rfl⟩ := Option.map_eq_some_iff.mp e
  obtain ⟨k, v, e2, e3, r⟩ := dr.at e1
  refine ⟨⟨eH, (List.getElem?_eq_some_iff.mp e2).1⟩, fun u H' yl => ?_⟩
  obtain ⟨T, k', v', q, e4, rfl, nT, e5, rfl⟩ := yl
  rw [e2] at e4; cases e4
  refine pair_new w nT ?_ (w0.rv x r)
  rw [← e3]; exact ⟨q, _, rfl, e5, kVs_rv k⟩
/-- a list that was made ahead is named -/
theorem Wd.adopt (w : Wd K ρ h H) {a : Addr} {vs : List V} {xs : List D} (n : a ∉ ρ) (e : H a = some (.lst vs)) (r : RVs K ρ H vs xs) : Wd K (ρ ++ [a]) (h ++ [.lst xs]) H ∧ RV K (ρ ++ [a]) H (.ref a) (.ref h.length) := by
  have pre : ∀ (i : Nat) b, ρ[i]? = some b → (ρ ++ [a])[i]? = some b := fun i b e => by
    rw [List.getElem?_append_left (List.getElem?_eq_some_iff.mp e).1]; exact e
  refine ⟨⟨by simp [w.len], List.nodup_append.mpr ⟨w.nd, by simp, fun b m c mc z => by simp at mc; exact n (by rw [← mc, ← z]; exact m)⟩, fun i o b e1 e2 => ?_⟩, a, rfl, ?_⟩
  · by_cases hi : i < h.length
    · rw [List.getElem?_append_left hi] at e1
      rw [List.getElem?_append_left (by rw [w.len]; exact hi)] at e2
      exact OR.mono TS'.refl pre rfl (w.obj i o b e1 e2)
    · have hi2 : i = h.length := by
        have := (List.getElem?_eq_some_iff.mp e1).1
        simp at this; omega
      subst hi2
      rw [List.getElem?_append_right (Nat.le_refl _)] at e1
      rw [← w.len, List.getElem?_append_right (Nat.le_refl _)] at e2
      simp at e1 e2
      subst e1; subst e2
      exact ⟨vs, e, RVs.mono TS'.refl pre xs vs r⟩
  · rw [← w.len, List.getElem?_append_right (Nat.le_refl _)]; simp
end
end Mini
end

section
/-! Mini: locking a dict, naming an object that was made ahead (own work). -/
namespace Mini
open PySem PySem.Spec PyProof.Rows L2
section
variable {K : PySem.W.Frag} {ρ ρ' : List Addr} {H H' : Hp} {h h' : List O}
theorem mut_of {u : HO} (m : MutO u) : Mut (some u) := by
  cases u <;> first | exact trivial | exact m.elim
/-- the dict n is locked -/
theorem lock_in (w : Wd K ρ h H) {n : Nat} {t : Bool} {kvs : List (D × D)} (e : h[n]? = some (.dct false t kvs)) : ∃ d u, ρ[n]? = some d ∧ H d = some u ∧ MutO u ∧ ∀ od, Wd K ρ (setH h n (.dct true t kvs)) (upd H d (.frz od u)) ∧ TS' K H (upd H d (.frz od u)) := by
  obtain ⟨d, ed, r⟩ := w.addr e
  cases t with
  | false =>
    obtain ⟨ws, h1, h2, h3⟩ := r
    refine ⟨d, _, ed, h1, trivial, fun od => ⟨(w.writeO (o := .dct true false kvs) ed h1 trivial ?_).2, TS'.wr h1 trivial⟩⟩
    exact ⟨ws, ⟨od, upd_same⟩, h2, RVs.mono (TS'.wr h1 trivial) (fun _ _ q => q) _ _ h3⟩
  | true =>
    obtain ⟨ws, h1, h2, h3⟩ := r
    refine ⟨d, _, ed, h1, trivial, fun od => ⟨(w.writeO (o := .dct true true kvs) ed h1 trivial ?_).2, TS'.wr h1 trivial⟩⟩
    exact ⟨ws, ⟨od, upd_same⟩, h2, RVs.mono (TS'.wr h1 trivial) (fun _ _ q => q) _ _ h3⟩
/-- .. and unlocked -/
theorem unlock_out {n : Nat} {d : Addr} {u : HO} {od : Obj} {t : Bool} {kvs : List (D × D)} (w : Wd K ρ h H) (ed : ρ[n]? = some d) (eu : H d = some u) (m : MutO u) (x : Xt ρ (upd H d (.frz od u)) ρ' H') (w' : Wd K ρ' h' H') (e : h'[n]? = some (.dct true t kvs)) :
    H' d = some (.frz od u) ∧ Xt ρ H ρ' (upd H' d u) ∧ Wd K ρ' (setH h' n (.dct false t kvs)) (upd H' d u) ∧ TS' K H' (upd H' d u) := by
  have eH' : H' d = some (.frz od u) := x.frz d od u upd_same
  have ts : TS' K H' (upd H' d u) := fun b ws q => by
    have : b ≠ d := fun z => by rw [z, eH'] at q; cases q
    rw [upd_ne this]; exact q
  have ed' := x.get n d ed
  refine ⟨eH', ⟨?_, fun b o q mb => ?_, fun b q => ?_, fun b o v q => ?_⟩, ⟨by simp [setH, w'.len], w'.nd, fun i o' b e1 e2 => ?_⟩, ts⟩
  · obtain ⟨τ, e1, n1⟩ := x.pre
    refine ⟨τ, e1, fun a ma => ?_⟩
    have := n1 a ma
    by_cases z : a = d
    · rw [z, upd_same] at this; cases this
    · rwa [upd_ne z] at this
  · have nd : b ≠ d := fun z => mb (z ▸ mem_of_get ed)
    rw [upd_ne nd]
    exact x.frame b o (by rw [upd_ne nd]; exact q) mb
  · by_cases z : b = d
    · rw [z, upd_same]; simp
    · rw [upd_ne z]
      exact x.keep b (by rw [upd_ne z]; exact q)
  · have nd : b ≠ d := fun z => by rw [z, eu] at q; cases q; exact m
    rw [upd_ne nd]
    exact x.frz b o v (by rw [upd_ne nd]; exact q)
  · by_cases hi : i = n
    · subst hi
      rw [ed'] at e2; cases e2
      have hl : i < h'.length := (List.getElem?_eq_some_iff.mp e).1
      rw [setH, List.getElem?_set_self hl] at e1; cases e1
      have r := w'.obj i _ d e ed'
      cases t with
      | false =>
        obtain ⟨ws, ⟨o2, h1⟩, h2, h3⟩ := r
        rw [eH'] at h1; cases h1
        exact ⟨ws, upd_same, h2, RVs.mono ts (fun _ _ q => q) _ _ h3⟩
      | true =>
        obtain ⟨ws, ⟨o2, h1⟩, h2, h3⟩ := r
        rw [eH'] at h1; cases h1
        exact ⟨ws, upd_same, h2, RVs.mono ts (fun _ _ q => q) _ _ h3⟩
    · rw [setH, List.getElem?_set_ne (Ne.symm hi)] at e1
      have hne : b ≠ d := fun z => hi (nd_ix w'.nd e2 (z ▸ ed'))
      exact OR.mono ts (fun _ _ q => q) (upd_ne hne) (w'.obj i o' b e1 e2)
/-- a thing beside ours is changed -/
theorem Xt.side' {a : Addr} {o : HO} (x : Xt ρ H ρ' H') (n : H a = none) : Xt ρ H ρ' (L2.upd H' a o) := by
  refine ⟨x.pre, fun b u e m => ?_, fun b e => ?_, fun b o' u e => ?_⟩
  · have : b ≠ a := fun z => by rw [z, n] at e; cases e
    rw [upd_ne this]; exact x.frame b u e m
  · by_cases z : b = a
    · rw [z, upd_same]; simp
    · rw [upd_ne z]; exact x.keep b e
  · have : b ≠ a := fun z => by rw [z, n] at e; cases e
    rw [upd_ne this]; exact x.frz b o' u e
theorem Wd.side' (w : Wd K ρ h H) {a : Addr} {u u' : HO} (n : a ∉ ρ) (e : H a = some u) (m : MutO u) : Wd K ρ h (L2.upd H a u') := by
  refine ⟨w.len, w.nd, fun i o b e1 e2 => ?_⟩
  have hne : b ≠ a := fun q => n (q ▸ mem_of_get e2)
  exact OR.mono (TS'.wr e m) (fun _ _ e => e) (upd_ne hne) (w.obj i o b e1 e2)
/-- a thing that was made ahead is named -/
theorem Wd.adoptO (w : Wd K ρ h H) {a : Addr} {o : O} (n : a ∉ ρ) (r : OR K (ρ ++ [a]) H a o) : Wd K (ρ ++ [a]) (h ++ [o]) H ∧ RV K (ρ ++ [a]) H (.ref a) (.ref h.length) := by
  refine ⟨⟨by simp [w.len], List.nodup_append.mpr ⟨w.nd, by simp, fun b m c mc z => by simp at mc; exact n (by rw [← mc, ← z]; exact m)⟩, fun i o' b e1 e2 => ?_⟩, a, rfl, ?_⟩
  · by_cases hi : i < h.length
    · rw [List.getElem?_append_left hi] at e1
      rw [List.getElem?_append_left (by rw [w.len]; exact hi)] at e2
      exact OR.mono TS'.refl pre_app rfl (w.obj i o' b e1 e2)
    · have hi2 : i = h.length := by
        have := (List.getElem?_eq_some_iff.mp e1).1
        simp at this; omega
      subst hi2
      rw [List.getElem?_append_right (Nat.le_refl _)] at e1
      rw [← w.len, List.getElem?_append_right (Nat.le_refl _)] at e2
      simp at e1 e2
      subst e1; subst e2
      exact r
  · rw [← w.len, List.getElem?_append_right (Nat.le_refl _)]; simp
theorem Xt.named (x : Xt ρ H ρ' H') {a : Addr} (n : H a = none) : Xt ρ H (ρ' ++ [a]) H' := by
  refine ⟨?_, x.frame, x.keep, x.frz⟩
  obtain ⟨τ, e1, n1⟩ := x.pre
  refine ⟨τ ++ [a], by rw [e1, List.append_assoc], fun b m => ?_⟩
  rcases List.mem_append.mp m with m | m
  · exact n1 b m
  · have : b = a := by simpa using m
    rw [this]; exact n
/-- the dict at B, beside ours -/
def DAt (K : PySem.W.Frag) (ρ : List Addr) (H : Hp) (B : Addr) (t : Bool) (kvs : List (D × D)) : Prop := (t = false ∧ ∃ ws, H B = some (.dK ws) ∧ DR K ρ H kD ws kvs) ∨ (t = true ∧ ∃ ws, H B = some (.dT ws) ∧ DR K ρ H keyT ws kvs)
theorem DAt.empty {B : Addr} {t : Bool} (e : H B = some (dEmpty t)) : DAt K ρ H B t [] := by
  cases t with
  | false => exact .inl ⟨rfl, [], e, DR.nil⟩
  | true => exact .inr ⟨rfl, [], e, DR.nil⟩
theorem DAt.mono {B : Addr} {t : Bool} {kvs : List (D × D)} (ts : TS' K H H') (p : ∀ (n : Nat) a, ρ[n]? = some a → ρ'[n]? = some a) (e : H' B = H B) (q : DAt K ρ H B t kvs) : DAt K ρ' H' B t kvs := by
  rcases q with ⟨rfl, ws, e1, r⟩ | ⟨rfl, ws, e1, r⟩
  · exact .inl ⟨rfl, ws, by rw [e]; exact e1, r.mono ts p⟩
  · exact .inr ⟨rfl, ws, by rw [e]; exact e1, r.mono ts p⟩
theorem DAt.or {B : Addr} {t : Bool} {kvs : List (D × D)} (q : DAt K ρ H B t kvs) : OR K ρ H B (.dct false t kvs) := by
  rcases q with ⟨rfl, ws, e1, r1, r2⟩ | ⟨rfl, ws, e1, r1, r2⟩
  · exact ⟨ws, e1, r1, r2⟩
  · exact ⟨ws, e1, r1, r2⟩
theorem DAt.there {B : Addr} {t : Bool} {kvs : List (D × D)} (q : DAt K ρ H B t kvs) : ∃ u, H B = some u ∧ MutO u := by
  rcases q with ⟨rfl, ws, e1, _⟩ | ⟨rfl, ws, e1, _⟩
  · exact ⟨_, e1, trivial⟩
  · exact ⟨_, e1, trivial⟩
theorem DAt.put {B : Addr} {t : Bool} {kvs : List (D × D)} {k d : D} {y v : V} (q : DAt K ρ H B t kvs) (hk : okK t k = true) (hl : kvs.length < sizeLine) (r : RV K ρ H y k) (rd : RV K ρ H v d) :
    ∃ u', DPut H B y v (upd H B u') ∧ DAt K ρ (upd H B u') B t (dPut kvs k d) := by
  rcases q with ⟨rfl, ws, e, dr⟩ | ⟨rfl, ws, e, dr⟩
  · obtain ⟨j, rfl⟩ := okK_f hk
    have ey := kD_rv r
    subst ey
    exact ⟨_, .inl ⟨ws, j, e, rfl, by rw [dr.len]; exact hl, rfl⟩, .inl ⟨rfl, _, upd_same, (dr.put (fun _ _ => kD_inj) rd j).mono (TS'.wr e trivial) fun _ _ q => q⟩⟩
  · obtain ⟨js, rfl⟩ := okK_t hk
    obtain ⟨b, rfl, eb⟩ := keyT_rv r
    exact ⟨_, .inr ⟨ws, js, b, e, rfl, eb, by rw [dr.len]; exact hl, rfl⟩, .inr ⟨rfl, _, upd_same, (dr.put (fun _ _ => keyT_inj) rd js).mono (TS'.wr e trivial) fun _ _ q => q⟩⟩
/-- pairs of a display -/
abbrev VD (K : PySem.W.Frag) (ρ : List Addr) (H : Hp) : List (V × V) → List (D × D) → Prop := Paired fun v p => RV K ρ H v.1 p.1 ∧ RV K ρ H v.2 p.2
theorem VD.mono (ts : TS' K H H') (p : ∀ (n : Nat) a, ρ[n]? = some a → ρ'[n]? = some a) {vs : List (V × V)} {ps : List (D × D)} (q : VD K ρ H vs ps) : VD K ρ' H' vs ps := Paired.mapP q fun _ _ r => ⟨RV.mono ts p _ _ r.1, RV.mono ts p _ _ r.2⟩
theorem VD.keysK : ∀ {vs : List (V × V)} {ps : List (D × D)}, VD K ρ H vs ps → ps.all (fun p => okK false p.1) = true → ∃ ws : List (Key × V), vs = ws.map (fun kv => (kV kv.1, kv.2)) ∧ DR K ρ H kD ws ps
  | _, _, .nil, _ => ⟨[], rfl, DR.nil⟩
  | _, _, .cons (a := v) (b := p) r t, h => by
    rw [List.all_cons, Bool.and_eq_true] at h
    have h' := h
    obtain ⟨ws, e1, e2⟩ := VD.keysK t h.2
    obtain ⟨j, ej⟩ := okK_f h'.1
    refine ⟨(j, v.2) :: ws, ?_, DR.cons.mpr ⟨ej, r.2, e2⟩⟩
    have := kD_rv (by rw [ej]; exact r.1 : RV K ρ H v.1 (kD j))
    rw [List.map_cons, ← e1]
    show v :: _ = _
    rw [← this]
theorem VD.keysT : ∀ {vs : List (V × V)} {ps : List (D × D)}, VD K ρ H vs ps → ps.all (fun p => okK true p.1) = true → ∃ ws : List (List Key × V), KP H vs ws ∧ DR K ρ H keyT ws ps
  | _, _, .nil, _ => ⟨[], .nil, DR.nil⟩
  | _, _, .cons (a := v) (b := p) r t, h => by
    rw [List.all_cons, Bool.and_eq_true] at h
    have h' := h
    obtain ⟨ws, e1, e2⟩ := VD.keysT t h.2
    obtain ⟨j, ej⟩ := okK_t h'.1
    obtain ⟨b, eb, eh⟩ := keyT_rv (by rw [ej]; exact r.1 : RV K ρ H v.1 (keyT j))
    exact ⟨(j, v.2) :: ws, .cons ⟨⟨b, eb, eh⟩, rfl⟩ e1, DR.cons.mpr ⟨ej, r.2, e2⟩⟩
theorem DR.merge {κ : Type} [DecidableEq κ] {f : κ → D} (inj : ∀ a b, f a = f b → a = b) : ∀ {ws : List (κ × V)} {ps : List (D × D)} {w0 : List (κ × V)} {k0 : List (D × D)}, DR K ρ H f ws ps → DR K ρ H f w0 k0 → DR K ρ H f (ws.foldl (fun acc kv => putK acc kv.1 kv.2) w0) (ps.foldl (fun acc p => dPut acc p.1 p.2) k0)
  | [], [], _, _, _, r => r
  | [], _ :: _, _, _, q, _ => by cases q.1
  | _ :: _, [], _, _, q, _ => by cases q.1
  | q :: ws, p :: ps, w0, k0, h, r => by
    obtain ⟨a, b, c⟩ := DR.cons.mp h
    have := DR.merge inj c (r.put inj b q.1)
    rw [a] at this
    exact this
end
end Mini
end

section
/-! Mini: every checked expression runs as the evaluator says (own work). -/
namespace Mini
open PySem PySem.Spec PyProof.Rows L2

theorem ff {b : Bool} {P : Prop} (h : b = true) (e : b = false) : P := by rw [e] at h; cases h
section
variable {Z : Ct} {α β γ δ : Type} {ρ ρ1 : List Addr} {H H1 : Hp} {rel : Rel α β} {rel2 : Rel γ δ} {Wc : Value → Option Addr → Hp → Prop} {Q : β → Hp → Prop} {Q2 : δ → Hp → Prop}
/-- the first of two in a row, the wish kept as it was said -/
theorem Post.bndX {m : Option (R α)} {f : α → List O → Option (R γ)} {Q1 : β → Hp → Prop} (x1 : Xt ρ H ρ1 H1) (p : Post Z ρ H rel2 Wc Q2 (Mini.bnd m f))
    (k : ∀ a h2 ρ2 H2 b, Post Z ρ H rel2 Wc Q2 (f a h2) → Xt ρ1 H1 ρ2 H2 → Xt ρ H ρ2 H2 → Wd Z.K ρ2 h2 H2 → rel ρ2 H2 b a → Q1 b H2) : Post Z ρ1 H1 rel Wc Q1 m := by
  cases m with
  | none => exact p
  | some r =>
    cases r with
    | ok a h' => exact fun ρ' H' b x' w q => k a h' ρ' H' b p x' (x1.trans x') w q
    | exc c fs h' => exact ExP.fwd x1 p
end

section
variable {Z : Ct} {α β γ δ : Type} {ρ ρ1 : List Addr} {H H1 : Hp} {rel : Rel α β} {rel2 : Rel γ δ} {Wc : Value → Option Addr → Hp → Prop} {Q : β → Hp → Prop} {Q2 : δ → Hp → Prop}
theorem Post.bndE {m : Option (R α)} {f : α → List O → Option (R γ)} {Q1 : β → Hp → Prop} (x1 : Xt ρ H ρ1 H1) (p : Post Z ρ H rel2 Wc Q2 (Mini.bnd m f))
    (k : ∀ a h2 ρ2 H2 b, m = some (.ok a h2) → Post Z ρ H rel2 Wc Q2 (f a h2) → Xt ρ1 H1 ρ2 H2 → Xt ρ H ρ2 H2 → Wd Z.K ρ2 h2 H2 → rel ρ2 H2 b a → Q1 b H2) : Post Z ρ1 H1 rel Wc Q1 m := by
  cases m with
  | none => exact p
  | some r =>
    cases r with
    | ok a h' => exact fun ρ' H' b x' w q => k a h' ρ' H' b rfl p x' (x1.trans x') w q
    | exc c fs h' => exact ExP.fwd x1 p
end
/-- a comparison, as a test -/
def SndC (C : List Cl) (ca : Nat → Addr) (call : Caller) (k : Nat) (ir : E) : Prop :=
  ∀ Γ X W x, XOk C ca call k Γ X W → ckE ir Γ x = true → isCmp x = true → PT X x (fun σ H Q => tE X.K C ca call W ir σ H fun v H1 => ∃ c, v = .bl c ∧ Q c H1)
/-- the readings of a display's pairs -/
def trsOf (K : PySem.W.Frag) (C : List Cl) (ca : Nat → Addr) (call : Caller) (W : WX) : E → List (TE × TE)
  | .kv k v r => (tE K C ca call W k, tE K C ca call W v) :: trsOf K C ca call W r
  | _ => []
structure SndE (C : List Cl) (ca : Nat → Addr) (call : Caller) (k : Nat) (ir : E) : Prop where
  e : ∀ Γ X W x, XOk C ca call k Γ X W → ckE ir Γ x = true → PE X x (tE X.K C ca call W ir)
  s : ∀ Γ X W x, XOk C ca call k Γ X W → ckEs ir Γ x = true → PA X x (tA X.K C ca call W ir)
  o : ∀ Γ X W x, XOk C ca call k Γ X W → ckO ir Γ x = true → PO X x (tO X.K C ca call W ir)
  t : ∀ Γ X W x, XOk C ca call k Γ X W → ckT ir Γ x = true → PT X x (tT X.K C ca call W ir) ∧ ∀ op vs p, x = .BoolOp op vs p → PW X x (tT X.K C ca call W ir)
  i : ∀ Γ X W tg x, XOk C ca call k Γ X W → ckI ir Γ tg x = true → PI X tg x (tI X.K C ca call W ir)
  k : ∀ Γ X W ks vs pos, XOk C ca call k Γ X W → ckK ir Γ ks vs = true → PPs X pos ks vs (trsOf X.K C ca call W ir)
section
variable {C : List Cl} {ca : Nat → Addr} {call : Caller} {k : Nat}
/-- an expression alone -/
theorem SndE.onlyE {ir : E} (he : ∀ Γ X W x, XOk C ca call k Γ X W → ckE ir Γ x = true → PE X x (tE X.K C ca call W ir)) (hs : ∀ Γ x, ckEs ir Γ x = false) (ho : ∀ Γ x, ckO ir Γ x = false) (ht : ∀ Γ x, ckT ir Γ x = false)
    (hi : ∀ Γ tg x, ckI ir Γ tg x = false) (hk : ∀ Γ ks vs, ckK ir Γ ks vs = false := by intro _ _ _; rfl) : SndE C ca call k ir :=
  ⟨he, fun Γ X W x _ h => ff h (hs Γ x), fun Γ X W x _ h => ff h (ho Γ x), fun Γ X W x _ h => ff h (ht Γ x), fun Γ X W tg x _ h => ff h (hi Γ tg x), fun Γ X W ks vs pos _ h => ff h (hk Γ ks vs)⟩
theorem ckE_non {Γ x} : ckE .non Γ x = match x with | .Constant .none _ _ => true | _ => false := by
  cases x <;> try rfl
  rename_i v _ _; cases v <;> rfl
theorem snd_non : SndE C ca call k .non := .onlyE (fun Γ X W x o h => by
  rw [ckE_non] at h
  split at h
  · refine PE.imp pe_non ?_
    rintro σ H Q ⟨ρ, hh, env, w, er, p⟩
    exact p.ok Xt.refl w rfl
  · cases h) (fun _ x => by cases x <;> rfl) (fun _ x => by cases x <;> rfl) (fun _ x => by cases x <;> rfl) (fun _ tg x => by cases x <;> rfl)
theorem ckE_bl {Γ x b} : ckE (.bl b) Γ x = match x with | .Constant (.bool c) _ _ => b == c | _ => false := by
  cases x <;> try rfl
  rename_i v _ _; cases v <;> rfl
theorem snd_bl {b : Bool} : SndE C ca call k (.bl b) := .onlyE (fun Γ X W x o h => by
  rw [ckE_bl] at h
  split at h
  · have e := beq_iff_eq.mp h
    subst e
    refine PE.imp pe_bl ?_
    rintro σ H Q ⟨ρ, hh, env, w, er, p⟩
    exact p.ok Xt.refl w rfl
  · cases h) (fun _ x => by cases x <;> rfl) (fun _ x => by cases x <;> rfl) (fun _ x => by cases x <;> rfl) (fun _ tg x => by cases x <;> rfl)
theorem ckE_int {Γ x i} : ckE (.int i) Γ x = match x with | .Constant (.int j) _ _ => i == j | _ => false := by
  cases x <;> try rfl
  rename_i v _ _; cases v <;> rfl
theorem snd_int {i : Int} : SndE C ca call k (.int i) := .onlyE (fun Γ X W x o h => by
  rw [ckE_int] at h
  split at h
  · have e := beq_iff_eq.mp h
    subst e
    refine PE.imp pe_int ?_
    rintro σ H Q ⟨ρ, hh, env, w, er, p⟩
    exact p.ok Xt.refl w rfl
  · cases h) (fun _ x => by cases x <;> rfl) (fun _ x => by cases x <;> rfl) (fun _ x => by cases x <;> rfl) (fun _ tg x => by cases x <;> rfl)
theorem ckE_str {Γ x s} : ckE (.str s) Γ x = match x with | .Constant (.str t) _ _ => s == t | _ => false := by
  cases x <;> try rfl
  rename_i v _ _; cases v <;> rfl
theorem snd_str {s : Str} : SndE C ca call k (.str s) := .onlyE (fun Γ X W x o h => by
  rw [ckE_str] at h
  split at h
  · have e := beq_iff_eq.mp h
    subst e
    refine PE.imp pe_str ?_
    rintro σ H Q ⟨ρ, hh, env, w, er, p⟩
    exact p.ok Xt.refl w rfl
  · cases h) (fun _ x => by cases x <;> rfl) (fun _ x => by cases x <;> rfl) (fun _ x => by cases x <;> rfl) (fun _ tg x => by cases x <;> rfl)
theorem ckE_slot {Γ x i} : ckE (.slot i) Γ x = match x with | .Name x _ => decide (Γ.N[i]? = some x) && vis Γ.sc x && !dbg x && !(x == ("__classdict__" : Str)) | _ => false := by cases x <;> rfl
theorem vis_of {sc : Scope} {x : Str} (h : vis sc x = true) : Vis sc x := by
  unfold vis at h
  split at h
  · exact .inl (by assumption)
  · exact .inr (.inl (by assumption))
  · exact .inr (.inr (by assumption))
  · cases h
theorem snd_slot {i : Nat} : SndE C ca call k (.slot i) := .onlyE (fun Γ X W x o h => by
  rw [ckE_slot] at h
  split at h
  · simp only [Bool.and_eq_true, decide_eq_true_eq, Bool.not_eq_true'] at h
    refine PE.imp (pe_var (i := i) (by rw [o.hN]; exact h.1.1.1) (by rw [o.sc]; exact vis_of h.1.1.2) h.1.2 h.2) ?_
    rintro σ H Q ⟨ρ, hh, env, w, er, p⟩
    unfold ev at p
    split at p
    · rename_i d e
      obtain ⟨v, e1, e2⟩ := er.at' i d e
      exact ⟨v, e1, p.ok Xt.refl w e2⟩
    · exact p.elim
  · cases h) (fun _ x => by cases x <;> rfl) (fun _ x => by cases x <;> rfl) (fun _ x => by cases x <;> rfl) (fun _ tg x => by cases x <;> rfl)
theorem glb_of {Γ : Gm} {X : Cx} {W : WX} {x : Str} (o : XOk C ca call k Γ X W) (h : glb Γ.sc x = true) : Gl X x := by
  have h' := of_decide_eq_true h
  show X.env.scope.names.lookup x = _
  rw [o.sc]; exact h'
theorem ckE_con {Γ x d y} : ckE (.con d y) Γ x = match x with | .Name z _ => y == z && glb Γ.sc y && !dbg y && Γ.con.any (fun p => p.1 == y && p.2.beq d) | _ => false := by cases x <;> rfl
theorem snd_con {d : D} {y : Str} : SndE C ca call k (.con d y) := .onlyE (fun Γ X W x o h => by
  rw [ckE_con] at h
  split at h
  · simp only [Bool.and_eq_true, Bool.not_eq_true', List.any_eq_true, beq_iff_eq] at h
    obtain ⟨⟨⟨e1, e2⟩, e3⟩, q, q1, q2, q3⟩ := h
    subst e1
    obtain ⟨q0, d'⟩ := q
    have ed := D.beq_eq _ _ q3
    dsimp only at q2 ed
    subst q2; subst ed
    obtain ⟨v, u, c1, c2, c3⟩ := o.con _ _ q1
    refine PE.imp (pe_glob (glb_of o e2) c1 c2 e3) ?_
    rintro σ H Q ⟨ρ, hh, env, w, er, p⟩
    exact p.ok Xt.refl w (c3 ρ H)
  · cases h) (fun _ x => by cases x <;> rfl) (fun _ x => by cases x <;> rfl) (fun _ x => by cases x <;> rfl) (fun _ tg x => by cases x <;> rfl)
theorem ckE_bin {Γ x op a b} : ckE (.bin op a b) Γ x = match x with | .BinOp a' op' b' _ => decide (op = op') && ckE a Γ a' && ckE b Γ b' | _ => false := by cases x <;> rfl
theorem snd_bin {op : Operator} {a b : E} (iha : SndE C ca call k a) (ihb : SndE C ca call k b) : SndE C ca call k (.bin op a b) := .onlyE (fun Γ X W x o h => by
  rw [ckE_bin] at h
  split at h
  · simp only [Bool.and_eq_true, decide_eq_true_eq] at h
    obtain ⟨⟨e, h1⟩, h2⟩ := h
    subst e
    obtain ⟨r, hr, hr2⟩ := bin_ok (X := X) (C := C) (ca := ca) op
    refine PE.imp (pe_op hr (iha.e Γ X W _ o h1) (ihb.e Γ X W _ o h2)) ?_
    rintro σ H Q ⟨ρ, hh, env, w, er, p⟩
    refine ⟨ρ, hh, env, w, er, p.bndX Xt.refl fun x1 h1 ρ1 H1 v1 p1 y1 z1 w1 r1 => ?_⟩
    refine ⟨ρ1, h1, env, w1, er.fwd w z1, p1.bndX z1 fun x2 h2 ρ2 H2 v2 p2 y2 z2 w2 r2 => ?_⟩
    exact hr2 w2 (w1.rv y2 r1) r2 (p2.fwd z2)
  · cases h) (fun _ x => by cases x <;> rfl) (fun _ x => by cases x <;> rfl) (fun _ x => by cases x <;> rfl) (fun _ tg x => by cases x <;> rfl)
theorem ckE_neg {Γ x a} : ckE (.neg a) Γ x = match x with | .UnaryOp .USub a' _ => ckE a Γ a' | _ => false := by
  cases x <;> try rfl
  rename_i v _ _; cases v <;> rfl
theorem snd_neg {a : E} (iha : SndE C ca call k a) : SndE C ca call k (.neg a) := .onlyE (fun Γ X W x o h => by
  rw [ckE_neg] at h
  split at h
  · refine PE.imp (pe_un un_neg (iha.e Γ X W _ o h)) ?_
    rintro σ H Q ⟨ρ, hh, env, w, er, p⟩
    refine ⟨ρ, hh, env, w, er, p.bndX Xt.refl fun x1 h1 ρ1 H1 v1 p1 y1 z1 w1 r1 => ?_⟩
    split at p1
    · cases r1
      exact ⟨_, rfl, p1.ok z1 w1 rfl⟩
    · exact p1.elim
  · cases h) (fun _ x => by cases x <;> rfl) (fun _ x => by cases x <;> rfl) (fun _ x => by cases x <;> rfl) (fun _ tg x => by cases x <;> rfl)
theorem ckE_cmp {Γ x op a b} : ckE (.cmp op a b) Γ x = match x with | .Compare a' [op'] [b'] _ => decide (op = op') && ckE a Γ a' && ckE b Γ b' && plainX b' | _ => false := by
  cases x <;> try rfl
  rename_i l os cs _
  cases os <;> try rfl
  rename_i o1 os
  cases os <;> try rfl
  cases cs <;> try rfl
  rename_i c1 cs
  cases cs <;> rfl
/-- a comparison's answer, temporary objects forgotten -/
theorem cmp_gc {X : Cx} {ρ ρ2 : List Addr} {H H2 : Hp} {h h2 : List O} {Wc : Value → Option Addr → Hp → Prop} {Q : VK} {op : CmpOp} {x y : D} (w : Wd X.K ρ h H) (z : Xt ρ H ρ2 H2)
    (p : Post ⟨X.K, C, ca⟩ ρ H (relD X.K) Wc Q (match cmpD op x y h2 with | some c => okB c (gc h (.bl c) h2) | none => none)) : Post ⟨X.K, C, ca⟩ ρ2 H2 (relD X.K) Wc Q (cmpG op x y h2) := by
  unfold cmpG
  split at p
  · rename_i c e
    first
      | rw [e]
      | skip
    intro ρ' H' b x' w' rb
    have rb' : b = .bl c := rb
    subst rb'
    obtain ⟨ρ'', x'', w'', r''⟩ := gc_ok (v := .bl c) (d := .bl c) w (z.trans x') w' rfl
    exact p.ok x'' w'' r''
  · exact p.elim
theorem cmp_key {op : CmpOp} {a b : E} (iha : SndE C ca call k a) (ihb : SndE C ca call k b) {Γ : Gm} {X : Cx} {W : WX} {x : PySem.Expr} (o : XOk C ca call k Γ X W) (h : ckE (.cmp op a b) Γ x = true) :
    PE X x (tE X.K C ca call W (.cmp op a b)) ∧ PT X x (fun σ H Q => tE X.K C ca call W (.cmp op a b) σ H fun v H1 => ∃ c, v = .bl c ∧ Q c H1) := by
  rw [ckE_cmp] at h
  split at h
  · simp only [Bool.and_eq_true, decide_eq_true_eq] at h
    obtain ⟨⟨⟨e, h1⟩, h2⟩, h3⟩ := h
    subst e
    obtain ⟨r, hr, hr2⟩ := cmp_ok (X := X) (C := C) (ca := ca) o.hu op
    have key : ∀ σ H Q, tE X.K C ca call W (.cmp op a b) σ H Q → tOp r (tE X.K C ca call W a) (tE X.K C ca call W b) σ H Q := by
      rintro σ H Q ⟨ρ, hh, env, w, er, p⟩
      refine ⟨ρ, hh, env, w, er, p.bndX Xt.refl fun x1 h1 ρ1 H1 v1 p1 y1 z1 w1 r1 => ?_⟩
      refine ⟨ρ1, h1, env, w1, er.fwd w z1, p1.bndX z1 fun x2 h2 ρ2 H2 v2 p2 y2 z2 w2 r2 => ?_⟩
      exact hr2 w2 (w1.rv y2 r1) r2 (cmp_gc w z2 p2)
    exact ⟨PE.imp (pe_cmpR hr (iha.e Γ X W _ o h1) (ihb.e Γ X W _ o h2) (plain_mark h3 op)) key, PT.imp (pt_cmpR hr (iha.e Γ X W _ o h1) (ihb.e Γ X W _ o h2) (plain_mark h3 op)) fun σ H Q q => key σ H _ q⟩
  · cases h
theorem snd_cmp {op : CmpOp} {a b : E} (iha : SndE C ca call k a) (ihb : SndE C ca call k b) : SndE C ca call k (.cmp op a b) ∧ SndC C ca call k (.cmp op a b) :=
  ⟨.onlyE (fun Γ X W x o h => (cmp_key iha ihb o h).1) (fun _ x => by cases x <;> rfl) (fun _ x => by cases x <;> rfl) (fun _ x => by cases x <;> rfl) (fun _ tg x => by cases x <;> rfl), fun Γ X W x o h _ => (cmp_key iha ihb o h).2⟩
theorem ckE_chn {Γ x op1 op2 a b c} : ckE (.chn op1 op2 a b c) Γ x = match x with | .Compare a' [o1, o2] [b', c'] _ => decide (op1 = o1) && decide (op2 = o2) && ckE a Γ a' && ckE b Γ b' && ckE c Γ c' && plainX b' && plainX c' | _ => false := by
  cases x <;> try rfl
  rename_i l os cs _
  cases os <;> try rfl
  rename_i o1 os
  cases os <;> try rfl
  rename_i o2 os
  cases os <;> try rfl
  cases cs <;> try rfl
  rename_i c1 cs
  cases cs <;> try rfl
  rename_i c2 cs
  cases cs <;> rfl
theorem chn_step {X : Cx} {ρ2 : List Addr} {H2 : Hp} {h2 : List O} {Wc : Value → Option Addr → Hp → Prop} {Q : VK} {op : CmpOp} {x y : D} {c : Bool} (e : cmpD op x y h2 = some c) (q : ∀ ρ' H', Xt ρ2 H2 ρ' H' → Wd X.K ρ' h2 H' → Q (.bl c) H') :
    Post ⟨X.K, C, ca⟩ ρ2 H2 (relD X.K) Wc Q (cmpG op x y h2) := by
  unfold cmpG
  rw [e]
  intro ρ' H' b x' w' rb
  have rb' : b = .bl c := rb
  subst rb'
  exact q ρ' H' x' w'
theorem chn_key {op1 op2 : CmpOp} {a b c : E} (iha : SndE C ca call k a) (ihb : SndE C ca call k b) (ihc : SndE C ca call k c) {Γ : Gm} {X : Cx} {W : WX} {x : PySem.Expr} (o : XOk C ca call k Γ X W) (h : ckE (.chn op1 op2 a b c) Γ x = true) :
    PE X x (tE X.K C ca call W (.chn op1 op2 a b c)) ∧ PT X x (fun σ H Q => tE X.K C ca call W (.chn op1 op2 a b c) σ H fun v H1 => ∃ c, v = .bl c ∧ Q c H1) := by
  rw [ckE_chn] at h
  split at h
  · simp only [Bool.and_eq_true, decide_eq_true_eq] at h
    obtain ⟨⟨⟨⟨⟨⟨e1, e2⟩, h1⟩, h2⟩, h3⟩, h4⟩, h5⟩ := h
    subst e1; subst e2
    obtain ⟨r, hr, hr2⟩ := cmp_ok (X := X) (C := C) (ca := ca) o.hu op1
    obtain ⟨r', hr', hr2'⟩ := cmp_ok (X := X) (C := C) (ca := ca) o.hu op2
    have key : ∀ σ H Q, tE X.K C ca call W (.chn op1 op2 a b c) σ H Q → tChain r r' (tE X.K C ca call W a) (tE X.K C ca call W b) (tE X.K C ca call W c) σ H Q := by
      rintro σ H Q ⟨ρ, hh, env, w, er, p⟩
      refine ⟨ρ, hh, env, w, er, p.bndX Xt.refl fun x1 h1 ρ1 H1 v1 p1 y1 z1 w1 r1 => ?_⟩
      refine ⟨ρ1, h1, env, w1, er.fwd w z1, p1.bndX z1 fun x2 h2 ρ2 H2 v2 p2 y2 z2 w2 r2 => ?_⟩
      split at p2
      · rename_i e
        refine hr2 (Wc := fun _ _ _ => True) w2 (w1.rv y2 r1) r2 (chn_step e fun ρ3 H3 x3 w3 => ⟨true, rfl, ?_⟩)
        rw [if_pos rfl]
        refine ⟨ρ3, h2, env, w3, er.fwd w (z2.trans x3), p2.bndX (z2.trans x3) fun x4 h4 ρ4 H4 v4 p4 y4 z4 w4 r4 => ?_⟩
        split at p4
        · rename_i e4
          exact hr2' (Wc := fun _ _ _ => True) w4 (w3.rv y4 (w2.rv x3 r2)) r4 (chn_step e4 fun ρ5 H5 x5 w5 => p4.ok (z4.trans x5) w5 rfl)
        · exact p4.elim
      · rename_i e
        refine hr2 (Wc := fun _ _ _ => True) w2 (w1.rv y2 r1) r2 (chn_step e fun ρ3 H3 x3 w3 => ⟨false, rfl, ?_⟩)
        rw [if_neg (by decide)]
        exact p2.ok (z2.trans x3) w3 rfl
      · exact p2.elim
    exact ⟨PE.imp (pe_chain hr hr' (iha.e Γ X W _ o h1) (ihb.e Γ X W _ o h2) (ihc.e Γ X W _ o h3) (plain_mark h5 _)) key, PT.imp (pt_chain hr hr' (iha.e Γ X W _ o h1) (ihb.e Γ X W _ o h2) (ihc.e Γ X W _ o h3) (plain_mark h5 _)) fun σ H Q q => key σ H _ q⟩
  · cases h
theorem snd_chn {op1 op2 : CmpOp} {a b c : E} (iha : SndE C ca call k a) (ihb : SndE C ca call k b) (ihc : SndE C ca call k c) : SndE C ca call k (.chn op1 op2 a b c) ∧ SndC C ca call k (.chn op1 op2 a b c) :=
  ⟨.onlyE (fun Γ X W x o h => (chn_key iha ihb ihc o h).1) (fun _ x => by cases x <;> rfl) (fun _ x => by cases x <;> rfl) (fun _ x => by cases x <;> rfl) (fun _ tg x => by cases x <;> rfl), fun Γ X W x o h _ => (chn_key iha ihb ihc o h).2⟩
theorem ckE_and {Γ x a b} : ckE (.and a b) Γ x = match x with | .BoolOp .And (a' :: b' :: r) pos => ckE a Γ a' && (match r with | [] => ckE b Γ b' | _ => ckE b Γ (.BoolOp .And (b' :: r) pos)) | _ => false := by
  cases x <;> try rfl
  rename_i op vs p
  cases op <;> try rfl
  cases vs <;> try rfl
  rename_i v1 vs
  cases vs <;> rfl
theorem ckE_or {Γ x a b} : ckE (.or a b) Γ x = match x with | .BoolOp .Or (a' :: b' :: r) pos => ckE a Γ a' && (match r with | [] => ckE b Γ b' | _ => ckE b Γ (.BoolOp .Or (b' :: r) pos)) | _ => false := by
  cases x <;> try rfl
  rename_i op vs p
  cases op <;> try rfl
  cases vs <;> try rfl
  rename_i v1 vs
  cases vs <;> rfl
theorem ckT_and {Γ x a b} : ckT (.and a b) Γ x = match x with | .BoolOp .And (a' :: b' :: r) pos => ckT a Γ a' && (match r with | [] => ckT b Γ b' | _ => ckT b Γ (.BoolOp .And (b' :: r) pos)) | _ => false := by
  cases x <;> try rfl
  rename_i op vs p
  cases op <;> try rfl
  cases vs <;> try rfl
  rename_i v1 vs
  cases vs <;> rfl
theorem ckT_or {Γ x a b} : ckT (.or a b) Γ x = match x with | .BoolOp .Or (a' :: b' :: r) pos => ckT a Γ a' && (match r with | [] => ckT b Γ b' | _ => ckT b Γ (.BoolOp .Or (b' :: r) pos)) | _ => false := by
  cases x <;> try rfl
  rename_i op vs p
  cases op <;> try rfl
  cases vs <;> try rfl
  rename_i v1 vs
  cases vs <;> rfl
theorem snd_and {a b : E} (iha : SndE C ca call k a) (ihb : SndE C ca call k b) : SndE C ca call k (.and a b) := by
  refine ⟨fun Γ X W x o h => ?_, fun Γ X W x _ h => ff h (by cases x <;> rfl), fun Γ X W x _ h => ff h (by cases x <;> rfl), fun Γ X W x o h => ?_, fun Γ X W tg x _ h => ff h (by cases x <;> rfl), fun Γ X W ks vs pos _ h => ff h rfl⟩
  · rw [ckE_and] at h
    split at h
    · rename_i a' b' r pos
      simp only [Bool.and_eq_true] at h
      have hb : PE X (.BoolOp .And (b' :: r) pos) (tE X.K C ca call W b) := by
        cases r with
        | nil => exact pe_one (ihb.e Γ X W _ o h.2)
        | cons c r => exact ihb.e Γ X W _ o h.2
      refine PE.imp (pe_andT (iha.e Γ X W _ o h.1) hb) ?_
      rintro σ H Q ⟨ρ, hh, env, w, er, p⟩
      refine ⟨ρ, hh, env, w, er, p.bndX Xt.refl fun x1 h1 ρ1 H1 v1 p1 y1 z1 w1 r1 => ?_⟩
      split at p1
      · rename_i e
        refine ⟨true, truth_ok w1 r1 e, ?_⟩
        rw [if_pos rfl]
        exact ⟨ρ1, h1, env, w1, er.fwd w z1, p1.fwd z1⟩
      · rename_i e
        refine ⟨false, truth_ok w1 r1 e, ?_⟩
        rw [if_neg (by decide)]
        exact p1.ok z1 w1 r1
      · exact p1.elim
    · cases h
  · rw [ckT_and] at h
    split at h
    · rename_i a' b' r pos
      simp only [Bool.and_eq_true] at h
      have hb : PW X (.BoolOp .And (b' :: r) pos) (tT X.K C ca call W b) := by
        cases r with
        | nil => exact pw_and1 (ihb.t Γ X W _ o h.2).1
        | cons c r => exact (ihb.t Γ X W _ o h.2).2 _ _ _ rfl
      have hw : PW X (.BoolOp .And (a' :: b' :: r) pos) (tT X.K C ca call W (.and a b)) := by
        refine PW.imp (pw_and (iha.t Γ X W _ o h.1).1 hb) ?_
        rintro σ H Q ⟨ρ, hh, env, w, er, p⟩
        refine ⟨ρ, hh, env, w, er, p.bndX Xt.refl fun x1 h1 ρ1 H1 v1 p1 y1 z1 w1 r1 => ?_⟩
        have r1' : v1 = x1 := r1
        subst r1'
        cases v1 with
        | true =>
          rw [if_pos rfl] at p1 ⊢
          exact ⟨ρ1, h1, env, w1, er.fwd w z1, p1.fwd z1⟩
        | false =>
          rw [if_neg (by decide)] at p1 ⊢
          exact p1.ok z1 w1 rfl
      exact ⟨hw.pt, fun op vs p e => e ▸ hw⟩
    · cases h
theorem snd_or {a b : E} (iha : SndE C ca call k a) (ihb : SndE C ca call k b) : SndE C ca call k (.or a b) := by
  refine ⟨fun Γ X W x o h => ?_, fun Γ X W x _ h => ff h (by cases x <;> rfl), fun Γ X W x _ h => ff h (by cases x <;> rfl), fun Γ X W x o h => ?_, fun Γ X W tg x _ h => ff h (by cases x <;> rfl), fun Γ X W ks vs pos _ h => ff h rfl⟩
  · rw [ckE_or] at h
    split at h
    · rename_i a' b' r pos
      simp only [Bool.and_eq_true] at h
      have hb : PE X (.BoolOp .Or (b' :: r) pos) (tE X.K C ca call W b) := by
        cases r with
        | nil => exact pe_one (ihb.e Γ X W _ o h.2)
        | cons c r => exact ihb.e Γ X W _ o h.2
      refine PE.imp (pe_orT (iha.e Γ X W _ o h.1) hb) ?_
      rintro σ H Q ⟨ρ, hh, env, w, er, p⟩
      refine ⟨ρ, hh, env, w, er, p.bndX Xt.refl fun x1 h1 ρ1 H1 v1 p1 y1 z1 w1 r1 => ?_⟩
      split at p1
      · rename_i e
        refine ⟨true, truth_ok w1 r1 e, ?_⟩
        rw [if_pos rfl]
        exact p1.ok z1 w1 r1
      · rename_i e
        refine ⟨false, truth_ok w1 r1 e, ?_⟩
        rw [if_neg (by decide)]
        exact ⟨ρ1, h1, env, w1, er.fwd w z1, p1.fwd z1⟩
      · exact p1.elim
    · cases h
  · rw [ckT_or] at h
    split at h
    · rename_i a' b' r pos
      simp only [Bool.and_eq_true] at h
      have hb : PW X (.BoolOp .Or (b' :: r) pos) (tT X.K C ca call W b) := by
        cases r with
        | nil => exact pw_or1 (ihb.t Γ X W _ o h.2).1
        | cons c r => exact (ihb.t Γ X W _ o h.2).2 _ _ _ rfl
      have hw : PW X (.BoolOp .Or (a' :: b' :: r) pos) (tT X.K C ca call W (.or a b)) := by
        refine PW.imp (pw_or (iha.t Γ X W _ o h.1).1 hb) ?_
        rintro σ H Q ⟨ρ, hh, env, w, er, p⟩
        refine ⟨ρ, hh, env, w, er, p.bndX Xt.refl fun x1 h1 ρ1 H1 v1 p1 y1 z1 w1 r1 => ?_⟩
        have r1' : v1 = x1 := r1
        subst r1'
        cases v1 with
        | true =>
          rw [if_pos rfl] at p1 ⊢
          exact p1.ok z1 w1 rfl
        | false =>
          rw [if_neg (by decide)] at p1 ⊢
          exact ⟨ρ1, h1, env, w1, er.fwd w z1, p1.fwd z1⟩
      exact ⟨hw.pt, fun op vs p e => e ▸ hw⟩
    · cases h
theorem ckT_nt {Γ x a} : ckT (.nt a) Γ x = match x with | .UnaryOp .Not a' _ => ckT a Γ a' | _ => false := by
  cases x <;> try rfl
  rename_i v _ _; cases v <;> rfl
theorem snd_nt {a : E} (iha : SndE C ca call k a) : SndE C ca call k (.nt a) := by
  refine ⟨fun Γ X W x o h => ff h (by cases x <;> rfl), fun Γ X W x _ h => ff h (by cases x <;> rfl), fun Γ X W x _ h => ff h (by cases x <;> rfl), fun Γ X W x o h => ?_, fun Γ X W tg x _ h => ff h (by cases x <;> rfl), fun Γ X W ks vs pos _ h => ff h rfl⟩
  rw [ckT_nt] at h
  split at h
  · refine ⟨PT.imp (pt_not (iha.t Γ X W _ o h).1) ?_, fun op vs p e => by cases e⟩
    rintro σ H Q ⟨ρ, hh, env, w, er, p⟩
    refine ⟨ρ, hh, env, w, er, p.bndX Xt.refl fun x1 h1 ρ1 H1 v1 p1 y1 z1 w1 r1 => ?_⟩
    have r1' : v1 = x1 := r1
    subst r1'
    exact p1.ok z1 w1 rfl
  · cases h
theorem ckE_ntv {Γ x a} : ckE (.ntv a) Γ x = match x with | .UnaryOp .Not a' _ => ckE a Γ a' | _ => false := by
  cases x <;> try rfl
  rename_i v _ _; cases v <;> rfl
theorem snd_ntv {a : E} (iha : SndE C ca call k a) : SndE C ca call k (.ntv a) := .onlyE (fun Γ X W x o h => by
  rw [ckE_ntv] at h
  split at h
  · refine PE.imp (pe_notT (iha.e Γ X W _ o h)) ?_
    rintro σ H Q ⟨ρ, hh, env, w, er, p⟩
    refine ⟨ρ, hh, env, w, er, p.bndX Xt.refl fun x1 h1 ρ1 H1 v1 p1 y1 z1 w1 r1 => ?_⟩
    split at p1
    · rename_i b e
      exact ⟨b, truth_ok w1 r1 e, p1.ok z1 w1 rfl⟩
    · exact p1.elim
  · cases h) (fun _ x => by cases x <;> rfl) (fun _ x => by cases x <;> rfl) (fun _ x => by cases x <;> rfl) (fun _ tg x => by cases x <;> rfl)
theorem ckE_ifx {Γ x c a b} : ckE (.ifx c a b) Γ x = match x with | .IfExp c' a' b' _ => ckT c Γ c' && ckE a Γ a' && ckE b Γ b' | _ => false := by cases x <;> rfl
theorem snd_ifx {c a b : E} (ihc : SndE C ca call k c) (iha : SndE C ca call k a) (ihb : SndE C ca call k b) : SndE C ca call k (.ifx c a b) := .onlyE (fun Γ X W x o h => by
  rw [ckE_ifx] at h
  split at h
  · simp only [Bool.and_eq_true] at h
    refine PE.imp (pe_ifExp (ihc.t Γ X W _ o h.1.1).1 (iha.e Γ X W _ o h.1.2) (ihb.e Γ X W _ o h.2)) ?_
    rintro σ H Q ⟨ρ, hh, env, w, er, p⟩
    refine ⟨ρ, hh, env, w, er, p.bndX Xt.refl fun x1 h1 ρ1 H1 v1 p1 y1 z1 w1 r1 => ?_⟩
    have r1' : v1 = x1 := r1
    subst r1'
    cases v1 with
    | true =>
      rw [if_pos rfl] at p1 ⊢
      exact ⟨ρ1, h1, env, w1, er.fwd w z1, p1.fwd z1⟩
    | false =>
      rw [if_neg (by decide)] at p1 ⊢
      exact ⟨ρ1, h1, env, w1, er.fwd w z1, p1.fwd z1⟩
  · cases h) (fun _ x => by cases x <;> rfl) (fun _ x => by cases x <;> rfl) (fun _ x => by cases x <;> rfl) (fun _ tg x => by cases x <;> rfl)
theorem ckE_tup {Γ x es} : ckE (.tup es) Γ x = match x with | .Tuple ts _ _ => ckEs es Γ ts | _ => false := by cases x <;> rfl
theorem snd_tup {es : E} (ih : SndE C ca call k es) : SndE C ca call k (.tup es) := .onlyE (fun Γ X W x o h => by
  rw [ckE_tup] at h
  split at h
  · refine PE.imp (pe_tup (ih.s Γ X W _ o h)) ?_
    rintro σ H Q ⟨ρ, hh, env, w, er, p⟩
    refine ⟨ρ, hh, env, w, er, p.bndX Xt.refl fun x1 h1 ρ1 H1 v1 p1 y1 z1 w1 r1 => ?_⟩
    split at p1
    · rename_i hl
      have r1' : RVs X.K ρ1 H1 v1 x1 := r1
      exact ⟨by rw [r1'.len, ← lim_eq]; exact hl, post_tup w1 r1 (p1.fwd z1)⟩
    · exact p1.elim
  · cases h) (fun _ x => by cases x <;> rfl) (fun _ x => by cases x <;> rfl) (fun _ x => by cases x <;> rfl) (fun _ tg x => by cases x <;> rfl)
theorem ckE_lst {Γ x es} : ckE (.lst es) Γ x = match x with | .List ts _ => ckEs es Γ ts | _ => false := by cases x <;> rfl
theorem snd_lst {es : E} (ih : SndE C ca call k es) : SndE C ca call k (.lst es) := .onlyE (fun Γ X W x o h => by
  rw [ckE_lst] at h
  split at h
  · refine PE.imp (pe_lst (ih.s Γ X W _ o h)) ?_
    rintro σ H Q ⟨ρ, hh, env, w, er, p⟩
    refine ⟨ρ, hh, env, w, er, p.bndX Xt.refl fun x1 h1 ρ1 H1 v1 p1 y1 z1 w1 r1 => ?_⟩
    split at p1
    · rename_i hl
      have r1' : RVs X.K ρ1 H1 v1 x1 := r1
      exact ⟨by rw [r1'.len, ← lim_eq]; exact hl, post_alloc w1 r1 (p1.fwd z1)⟩
    · exact p1.elim
  · cases h) (fun _ x => by cases x <;> rfl) (fun _ x => by cases x <;> rfl) (fun _ x => by cases x <;> rfl) (fun _ tg x => by cases x <;> rfl)
theorem ckE_ix {Γ x a b} : ckE (.ix a b) Γ x = match x with | .Subscript a' b' _ => ckE a Γ a' && ckE b Γ b' && plainX b' | _ => false := by cases x <;> rfl
theorem snd_ix {a b : E} (iha : SndE C ca call k a) (ihb : SndE C ca call k b) : SndE C ca call k (.ix a b) := .onlyE (fun Γ X W x o h => by
  rw [ckE_ix] at h
  split at h
  · simp only [Bool.and_eq_true] at h
    obtain ⟨r, hr, hr2⟩ := ix_ok (X := X) (C := C) (ca := ca) o.hu
    refine PE.imp (pe_ix hr (iha.e Γ X W _ o h.1.1) (ihb.e Γ X W _ o h.1.2) (plain_ix h.2)) ?_
    rintro σ H Q ⟨ρ, hh, env, w, er, p⟩
    refine ⟨ρ, hh, env, w, er, p.bndX Xt.refl fun x1 h1 ρ1 H1 v1 p1 y1 z1 w1 r1 => ?_⟩
    refine ⟨ρ1, h1, env, w1, er.fwd w z1, p1.bndX z1 fun x2 h2 ρ2 H2 v2 p2 y2 z2 w2 r2 => ?_⟩
    exact hr2 w2 (w1.rv y2 r1) r2 (p2.fwd z2)
  · cases h) (fun _ x => by cases x <;> rfl) (fun _ x => by cases x <;> rfl) (fun _ x => by cases x <;> rfl) (fun _ tg x => by cases x <;> rfl)
theorem ckE_sl {Γ x a lo hi} : ckE (.sl a lo hi) Γ x = match x with | .Subscript a' (.Slice l u none _) _ => ckE a Γ a' && ckO lo Γ l && ckO hi Γ u | _ => false := by
  cases x <;> try rfl
  rename_i v s _
  cases s <;> try rfl
  rename_i l u st _
  cases st <;> rfl
theorem snd_sl {a lo hi : E} (iha : SndE C ca call k a) (ihl : SndE C ca call k lo) (ihu : SndE C ca call k hi) : SndE C ca call k (.sl a lo hi) := .onlyE (fun Γ X W x o h => by
  rw [ckE_sl] at h
  split at h
  · simp only [Bool.and_eq_true] at h
    obtain ⟨r, hr, hr2⟩ := sl_ok (X := X) (C := C) (ca := ca)
    refine PE.imp (pe_slice hr (iha.e Γ X W _ o h.1.1) (ihl.o Γ X W _ o h.1.2) (ihu.o Γ X W _ o h.2)) ?_
    rintro σ H Q ⟨ρ, hh, env, w, er, p⟩
    refine ⟨ρ, hh, env, w, er, p.bndX Xt.refl fun x1 h1 ρ1 H1 v1 p1 y1 z1 w1 r1 => ?_⟩
    refine ⟨ρ1, h1, env, w1, er.fwd w z1, p1.bndX z1 fun x2 h2 ρ2 H2 v2 p2 y2 z2 w2 r2 => ?_⟩
    have e2 : v2 = x2 := r2
    subst e2
    refine ⟨ρ2, h2, env, w2, er.fwd w z2, p2.bndX z2 fun x3 h3 ρ3 H3 v3 p3 y3 z3 w3 r3 => ?_⟩
    have e3 : v3 = x3 := r3
    subst e3
    exact hr2 w3 (w2.rv y3 (w1.rv y2 r1)) (p3.fwd z3)
  · cases h) (fun _ x => by cases x <;> rfl) (fun _ x => by cases x <;> rfl) (fun _ x => by cases x <;> rfl) (fun _ tg x => by cases x <;> rfl)
end
end Mini
end

section
/-! Mini: calls, comprehensions, lists of expressions, what is walked; all expressions together (own work). -/
namespace Mini
open PySem PySem.Spec PyProof.Rows L2
section
variable {C : List Cl} {ca : Nat → Addr} {call : Caller} {k : Nat}
theorem ckEs_cons {Γ a b ts} : ckEs (.cons a b) Γ ts = match ts with | t :: ts => ckE a Γ t && plainX t && ckEs b Γ ts | [] => false := by cases ts <;> rfl
theorem ckEs_nil {Γ ts} : ckEs .nil Γ ts = ts.isEmpty := by cases ts <;> rfl
theorem ckEs_plain {Γ : Gm} : ∀ {es : E} {ts : List PySem.Expr}, ckEs es Γ ts = true → ts.all plainX = true
  | es, [], _ => rfl
  | es, t :: ts, h => by
    cases es with
    | cons a b =>
      rw [ckEs_cons] at h
      simp only [Bool.and_eq_true] at h
      simp only [List.all_cons, Bool.and_eq_true]
      exact ⟨h.1.2, ckEs_plain h.2⟩
    | _ => cases h
theorem snd_nil : SndE C ca call k .nil := by
  refine ⟨fun Γ X W x o h => ff h (by cases x <;> rfl), fun Γ X W x o h => ?_, fun Γ X W x _ h => ff h (by cases x <;> rfl), fun Γ X W x _ h => ff h (by cases x <;> rfl), fun Γ X W tg x _ h => ff h (by cases x <;> rfl), fun Γ X W ks vs pos o h => ?_⟩
  · cases x with
    | nil =>
      refine PA.imp pa_nil ?_
      rintro σ H Q ⟨ρ, hh, env, w, er, p⟩
      exact p.ok Xt.refl w rfl
    | cons t ts => cases h
  · cases ks with
    | nil =>
      cases vs with
      | nil => exact pps_nil
      | cons v vs => cases h
    | cons k ks => cases h
theorem ckK_kv {Γ k v r ks vs} : ckK (.kv k v r) Γ ks vs = match ks, vs with | some k' :: ks, v' :: vs => ckE k Γ k' && ckE v Γ v' && ckK r Γ ks vs | _, _ => false := by
  cases ks with
  | nil => cases vs <;> rfl
  | cons k ks => cases k <;> cases vs <;> rfl
theorem snd_kv {a b r : E} (iha : SndE C ca call k a) (ihb : SndE C ca call k b) (ihr : SndE C ca call k r) : SndE C ca call k (.kv a b r) := by
  refine ⟨fun Γ X W x o h => ff h (by cases x <;> rfl), fun Γ X W x o h => ff h (by cases x <;> rfl), fun Γ X W x _ h => ff h (by cases x <;> rfl), fun Γ X W x _ h => ff h (by cases x <;> rfl), fun Γ X W tg x _ h => ff h (by cases tg <;> cases x <;> rfl), fun Γ X W ks vs pos o h => ?_⟩
  rw [ckK_kv] at h
  split at h
  · simp only [Bool.and_eq_true] at h
    exact pps_cons (iha.e Γ X W _ o h.1.1) (ihb.e Γ X W _ o h.1.2) (ihr.k Γ X W _ _ pos o h.2)
  · cases h
theorem ckO_cons {Γ a b x} : ckO (.cons a b) Γ x = match x with | some t => ckE a Γ t | none => false := by cases x <;> rfl
theorem snd_cons {a b : E} (iha : SndE C ca call k a) (ihb : SndE C ca call k b) : SndE C ca call k (.cons a b) := by
  refine ⟨fun Γ X W x o h => ff h (by cases x <;> rfl), fun Γ X W x o h => ?_, fun Γ X W x o h => ?_, fun Γ X W x _ h => ff h (by cases x <;> rfl), fun Γ X W tg x _ h => ff h (by cases x <;> rfl), fun Γ X W ks vs pos _ h => ff h rfl⟩
  · cases x with
    | nil => cases h
    | cons t ts =>
      rw [ckEs_cons] at h
      simp only [Bool.and_eq_true] at h
      refine PA.imp (pa_cons (iha.e Γ X W _ o h.1.1) (ihb.s Γ X W _ o h.2) (plain_star h.1.2 _ _)) ?_
      rintro σ H Q ⟨ρ, hh, env, w, er, p⟩
      refine ⟨ρ, hh, env, w, er, p.bndX Xt.refl fun x1 h1 ρ1 H1 v1 p1 y1 z1 w1 r1 => ?_⟩
      refine ⟨ρ1, h1, env, w1, er.fwd w z1, p1.bndX z1 fun x2 h2 ρ2 H2 v2 p2 y2 z2 w2 r2 => ?_⟩
      exact p2.ok z2 w2 ⟨v1, v2, rfl, w1.rv y2 r1, r2⟩
  · rw [ckO_cons] at h
    split at h
    · refine PO.imp (po_some (iha.e Γ X W _ o h)) ?_
      rintro σ H Q ⟨ρ, hh, env, w, er, p⟩
      refine ⟨ρ, hh, env, w, er, p.bndX Xt.refl fun x1 h1 ρ1 H1 v1 p1 y1 z1 w1 r1 => ?_⟩
      split at p1
      · cases r1
        exact ⟨_, rfl, p1.ok z1 w1 rfl⟩
      · exact p1.elim
    · cases h
theorem snd_omit : SndE C ca call k .omit := by
  refine ⟨fun Γ X W x o h => ff h (by cases x <;> rfl), fun Γ X W x _ h => ff h (by cases x <;> rfl), fun Γ X W x o h => ?_, fun Γ X W x _ h => ff h (by cases x <;> rfl), fun Γ X W tg x _ h => ff h (by cases x <;> rfl), fun Γ X W ks vs pos _ h => ff h rfl⟩
  cases x with
  | none =>
    refine PO.imp po_none ?_
    rintro σ H Q ⟨ρ, hh, env, w, er, p⟩
    exact p.ok Xt.refl w rfl
  | some t => cases h
theorem ckT_tru {Γ x a} : ckT (.tru a) Γ x = (ckE a Γ x && (plainT x || isCmp x)) := by cases x <;> rfl
theorem bool_of {X : Cx} {ρ : List Addr} {H : Hp} {h : List O} {v : V} {d : D} {b : Bool} (w : Wd X.K ρ h H) (r : RV X.K ρ H v d) (e : truth h d = some b) (hb : ∃ c, v = .bl c) : v = .bl b := by
  obtain ⟨c, rfl⟩ := hb
  have := truth_ok w r e
  have e2 : b = c := this
  rw [e2]
/-- a comparison is a bool -/
theorem cmp_bl {ir : E} {Γ : Gm} {x : PySem.Expr} (h : ckE ir Γ x = true) (hx : isCmp x = true) {env : Env} {hp h' : List O} {d : D} (e : ev call ir env hp = some (.ok d h')) : ∃ b, d = .bl b := by
  cases x <;> first | (cases hx; done) | skip
  rename_i l os cs p
  cases ir with
  | cmp op a b =>
    unfold ev at e
    cases ea : ev call a env hp with
    | none => rw [ea] at e; cases e
    | some r =>
      rw [ea] at e
      cases r with
      | exc c fs h1 => cases e
      | ok x1 h1 =>
        rw [bnd_ok] at e
        cases eb : ev call b env h1 with
        | none => rw [eb] at e; cases e
        | some r =>
          rw [eb] at e
          cases r with
          | exc c fs h2 => cases e
          | ok x2 h2 =>
            rw [bnd_ok] at e
            split at e
            · cases e; exact ⟨_, rfl⟩
            · cases e
  | chn op op' a b c =>
    unfold ev at e
    cases ea : ev call a env hp with
    | none => rw [ea] at e; cases e
    | some r =>
      rw [ea] at e
      cases r with
      | exc c fs h1 => cases e
      | ok x1 h1 =>
        rw [bnd_ok] at e
        cases eb : ev call b env h1 with
        | none => rw [eb] at e; cases e
        | some r =>
          rw [eb] at e
          cases r with
          | exc c fs h2 => cases e
          | ok x2 h2 =>
            rw [bnd_ok] at e
            split at e
            · cases ec : ev call c env h2 with
              | none => rw [ec] at e; cases e
              | some r =>
                rw [ec] at e
                cases r with
                | exc c fs h3 => cases e
                | ok x3 h3 =>
                  rw [bnd_ok] at e
                  split at e
                  · cases e; exact ⟨_, rfl⟩
                  · cases e
            · cases e; exact ⟨_, rfl⟩
            · cases e
  | lc own tg it c elt => cases h
  | lck i a =>
    have h' : (ckE a Γ (.Compare l os cs p) && !true) = true := h
    simp at h'
  | _ => cases h
theorem snd_tru {a : E} (iha : SndE C ca call k a) (ihc : SndC C ca call k a) : SndE C ca call k (.tru a) := by
  refine ⟨fun Γ X W x o h => ff h (by cases x <;> rfl), fun Γ X W x _ h => ff h (by cases x <;> rfl), fun Γ X W x _ h => ff h (by cases x <;> rfl), fun Γ X W x o h => ?_, fun Γ X W tg x _ h => ff h (by cases x <;> rfl), fun Γ X W ks vs pos _ h => ff h rfl⟩
  rw [ckT_tru] at h
  simp only [Bool.and_eq_true, Bool.or_eq_true] at h
  obtain ⟨h1, h2⟩ := h
  by_cases hp : plainT x = true
  · refine ⟨PT.imp (pt_truth (iha.e Γ X W _ o h1) (fun whole => by cases x <;> first | rfl | (cases hp; done) | (rename_i op _ _; cases op <;> first | rfl | cases hp))) ?_, fun op vs p e => by rw [e] at hp; cases hp⟩
    rintro σ H Q ⟨ρ, hh, env, w, er, p⟩
    refine ⟨ρ, hh, env, w, er, p.bndX Xt.refl fun x1 h1 ρ1 H1 v1 p1 y1 z1 w1 r1 => ?_⟩
    split at p1
    · rename_i b e
      exact ⟨b, truth_ok w1 r1 e, p1.ok z1 w1 rfl⟩
    · exact p1.elim
  · have hc : isCmp x = true := by
      rcases h2 with h2 | h2
      · exact absurd h2 hp
      · exact h2
    refine ⟨PT.imp (ihc Γ X W _ o h1 hc) ?_, fun op vs p e => by rw [e] at hc; cases hc⟩
    rintro σ H Q ⟨ρ, hh, env, w, er, p⟩
    refine ⟨ρ, hh, env, w, er, p.bndE Xt.refl fun x1 h1' ρ1 H1 v1 em p1 y1 z1 w1 r1 => ?_⟩
    obtain ⟨b, rfl⟩ := cmp_bl h1 hc em
    split at p1
    · rename_i b' e
      cases e
      exact ⟨b, r1, p1.ok z1 w1 rfl⟩
    · exact p1.elim
theorem call_shape {ts : List PySem.Expr} (h : (!ts.isEmpty) = true) : ∃ t r, ts = t :: r := by
  cases ts with
  | nil => cases h
  | cons t r => exact ⟨t, r, rfl⟩
theorem ckE_call {Γ x f es ds} : ckE (.call f es ds) Γ x = match x with | .Call (.Name y _) ts [] _ => glb Γ.sc y && !dbg y && ckEs es Γ ts && Γ.fns.any (fun p => p.1 == y && p.2.1 == f && D.beqL p.2.2 ds) | _ => false := by
  cases x <;> try rfl
  rename_i fn as kw _
  cases fn <;> try rfl
  cases kw <;> rfl
theorem snd_call {f : Nat} {es : E} {ds : List D} (ih : SndE C ca call k es) : SndE C ca call k (.call f es ds) := .onlyE (fun Γ X W x o h => by
  rw [ckE_call] at h
  split at h
  · rename_i y py ts pos
    simp only [Bool.and_eq_true, Bool.not_eq_true', List.any_eq_true, beq_iff_eq] at h
    obtain ⟨⟨⟨e1, e2⟩, e4⟩, q, q1, ⟨q2, q3⟩, q4⟩ := h
    obtain ⟨qx, qf, qd⟩ := q
    dsimp only at q2 q3 q4
    subst q2; subst q3
    have ed := D.beqL_eq _ _ q4
    subst ed
    obtain ⟨a, fd, ps, us, dvs, c1, c2, c3, c4, c5, c6⟩ := o.fns _ _ _ q1
    cases ts with
    | nil =>
      refine PE.imp (pe_callG0 c3 o.rm o.gd (glb_of o e1) c1 c2 c4 c5 o.tk e2) ?_
      rintro σ H Q ⟨ρ, hh, env, w, er, p⟩
      have e0 : evs call es env hh = some (.ok [] hh) := by
        cases es <;> first | rfl | cases e4
      unfold ev at p
      rw [e0] at p
      refine ⟨ρ, hh, _, w, c6 ρ H, ?_⟩
      simpa using p
    | cons t r =>
      have pl := ckEs_plain e4
      have pl' : plainX t = true ∧ r.all plainX = true := by simpa using pl
      refine PE.imp (pe_callG c3 o.rm o.gd (glb_of o e1) c1 c2 c4 c5 o.tk (ih.s Γ X W _ o e4) e2 (plain_star pl'.1 _ _) (plain_any pl'.2)) ?_
      rintro σ H Q ⟨ρ, hh, env, w, er, p⟩
      refine ⟨ρ, hh, env, w, er, p.bndX Xt.refl fun x1 h1 ρ1 H1 v1 p1 y1 z1 w1 r1 => ?_⟩
      have r1' : RVs X.K ρ1 H1 v1 x1 := r1
      exact ⟨ρ1, h1, _, w1, r1'.append (c6 ρ1 H1), p1.fwd z1⟩
  · cases h) (fun _ x => by cases x <;> rfl) (fun _ x => by cases x <;> rfl) (fun _ x => by cases x <;> rfl) (fun _ tg x => by cases x <;> rfl)
theorem ckE_bi {Γ x b es} : ckE (.bi b es) Γ x = match x with | .Call (.Name y _) ts [] _ => y == biName b && decide (b ≠ .bad) && glb Γ.sc y && !ts.isEmpty && ckEs es Γ ts | _ => false := by
  cases x <;> try rfl
  rename_i fn as kw _
  cases fn <;> try rfl
  cases kw <;> rfl
theorem bi_blt (b : Bi) (h : b ≠ .bad) : biName b ∈ blts := by
  cases b <;> first | exact absurd rfl h | decide
theorem snd_bi {b : Bi} {es : E} (ih : SndE C ca call k es) : SndE C ca call k (.bi b es) := .onlyE (fun Γ X W x o h => by
  rw [ckE_bi] at h
  split at h
  · simp only [Bool.and_eq_true, Bool.not_eq_true', beq_iff_eq, decide_eq_true_eq] at h
    obtain ⟨⟨⟨⟨e1, e2⟩, e3⟩, e4⟩, e5⟩ := h
    subst e1
    obtain ⟨t, r, rfl⟩ := call_shape (by rw [e4]; rfl)
    have pl := ckEs_plain e5
    have pl' : plainX t = true ∧ r.all plainX = true := by simpa using pl
    obtain ⟨rr, hr, hr2⟩ := bi_pe (C := C) (ca := ca) b e2 o.hc o.hu o.gd (glb_of o e3) (o.blt _ (bi_blt b e2)) (ih.s Γ X W _ o e5) (plain_star pl'.1 _ _) (plain_any pl'.2)
    refine PE.imp hr ?_
    rintro σ H Q ⟨ρ, hh, env, w, er, p⟩
    refine ⟨ρ, hh, env, w, er, p.bndX Xt.refl fun x1 h1 ρ1 H1 v1 p1 y1 z1 w1 r1 => ?_⟩
    refine hr2 w1 r1 (p1.bndX z1 fun x2 h2 ρ2 H2 v2 p2 y2 z2 w2 r2 => ?_)
    obtain ⟨ρ'', x'', w'', r''⟩ := gc_ok w z2 w2 r2
    exact p2.ok x'' w'' r''
  · cases h) (fun _ x => by cases x <;> rfl) (fun _ x => by cases x <;> rfl) (fun _ x => by cases x <;> rfl) (fun _ tg x => by cases x <;> rfl)
theorem ckE_isi {Γ x a t} : ckE (.isi a t) Γ x = match x with | .Call (.Name f _) [a', .Name y _] [] _ => f == ("isinstance" : Str) && y == tyStr t && glb Γ.sc f && glb Γ.sc y && ckE a Γ a' && plainX a' | _ => false := by
  cases x <;> try rfl
  rename_i fn as kw _
  cases fn <;> try rfl
  cases as <;> try rfl
  rename_i a1 as
  cases as <;> try rfl
  rename_i a2 as
  cases a2 <;> try rfl
  cases as <;> try rfl
  cases kw <;> rfl
theorem snd_isi {a : E} {t : Ty} (iha : SndE C ca call k a) : SndE C ca call k (.isi a t) := .onlyE (fun Γ X W x o h => by
  rw [ckE_isi] at h
  split at h
  · simp only [Bool.and_eq_true, beq_iff_eq] at h
    obtain ⟨⟨⟨⟨⟨e1, e2⟩, e3⟩, e4⟩, e5⟩, e6⟩ := h
    subst e1; subst e2
    have ty : ∀ pos, PE X (.Name (tyStr t) pos) (tC (.ty (tyName t))) := fun pos => by
      cases t with
      | int => exact pe_bltn (glb_of o e4) (o.blt _ (by decide)) (u := .type "int") (by decide +kernel) rfl
      | bool => exact pe_bltn (glb_of o e4) (o.blt _ (by decide)) (u := .type "bool") (by decide +kernel) rfl
      | str => exact pe_bltn (glb_of o e4) (o.blt _ (by decide)) (u := .type "str") (by decide +kernel) rfl
      | tuple => exact pe_bltn (glb_of o e4) (o.blt _ (by decide)) (u := .type "tuple") (by decide +kernel) rfl
      | list => exact pe_bltn (glb_of o e4) (o.blt _ (by decide)) (u := .type "list") (by decide +kernel) rfl
      | dict => exact pe_bltn (glb_of o e4) (o.blt _ (by decide)) (u := .type "dict") (by decide +kernel) rfl
    refine PE.imp (pe_callB call_isi (glb_of o e3) (o.blt _ (by decide)) (by decide +kernel) (pa_cons (iha.e Γ X W _ o e5) (pa_cons (ty _) pa_nil rfl) (plain_star e6 _ _)) (by decide) (by decide) (plain_star e6 _ _) rfl) ?_
    rintro σ H Q ⟨ρ, hh, env, w, er, p⟩
    refine ⟨ρ, hh, env, w, er, p.bndX Xt.refl fun x1 h1 ρ1 H1 v1 p1 y1 z1 w1 r1 => ?_⟩
    exact isi_ok w1 r1 (p1.fwd z1)
  · cases h) (fun _ x => by cases x <;> rfl) (fun _ x => by cases x <;> rfl) (fun _ x => by cases x <;> rfl) (fun _ tg x => by cases x <;> rfl)
end
end Mini
end

section
/-! Mini: methods, comprehensions, iterables; all expressions together (own work). -/
namespace Mini
open PySem PySem.Spec PyProof.Rows L2
section
variable {C : List Cl} {ca : Nat → Addr} {call : Caller} {k : Nat}
theorem plain_base {o : PySem.Expr} (h : plainB o = true) (n : Str) (env : PySem.Env) (w : Sem Value) : attributeBase o n env w = w := by
  cases o <;> try rfl
  rename_i f as kw p
  cases f <;> try rfl
  cases as <;> try rfl
  cases kw <;> first | rfl | cases h
theorem ckE_mt {Γ x m o es} : ckE (.mt m o es) Γ x = match x with | .Call (.Attribute o' n p) ts [] q => ckE o Γ o' && plainB o' && ckEs es Γ ts && decide (p.endLine = q.line) && mtSyn m n ts.length | _ => false := by
  cases x <;> try rfl
  rename_i fn as kw _
  cases fn <;> try rfl
  cases kw <;> rfl
theorem evs_len {Γ : Gm} : ∀ {es : E} {ts : List PySem.Expr} {env : Env} {h h' : List O} {xs : List D}, ckEs es Γ ts = true → evs call es env h = some (.ok xs h') → xs.length = ts.length
  | es, [], env, h, h', xs, hc, e => by
    cases es with
    | nil => unfold evs at e; cases e; rfl
    | _ => cases hc
  | es, t :: ts, env, h, h', xs, hc, e => by
    cases es with
    | cons a b =>
      rw [ckEs_cons] at hc
      simp only [Bool.and_eq_true] at hc
      unfold evs at e
      cases ea : ev call a env h with
      | none => rw [ea] at e; cases e
      | some r =>
        rw [ea] at e
        cases r with
        | exc c fs h1 => cases e
        | ok x1 h1 =>
          rw [bnd_ok] at e
          cases eb : evs call b env h1 with
          | none => rw [eb] at e; cases e
          | some r =>
            rw [eb] at e
            cases r with
            | exc c fs h2 => cases e
            | ok x2 h2 =>
              rw [bnd_ok] at e
              cases e
              rw [List.length_cons, List.length_cons, evs_len hc.2 eb]
    | _ => cases hc
theorem mt_ref {m : Mt} {x : D} {h : List O} (hm : m ≠ .get) (e : mtPre m x h = true) : ∃ n, x = .ref n ∧ (isLst h n).isSome = true := by
  unfold mtPre at e
  split at e
  · exact ⟨_, rfl, e⟩
  · exact ⟨_, rfl, e⟩
  · exact absurd rfl hm
  · cases e
theorem mt_dct {x : D} {h : List O} (e : mtPre .get x h = true) : ∃ n, x = .ref n ∧ (rdDct h n).isSome = true := by
  unfold mtPre at e
  split at e <;> first | exact ⟨_, rfl, e⟩ | (rename_i q; cases q) | cases e
theorem evs_two {Γ : Gm} {X : Cx} {W : WX} {es : E} {t : PySem.Expr} {ts : List PySem.Expr} (hc : ckEs es Γ (t :: ts) = true) : ∃ a b, es = .cons a b ∧ ckE a Γ t = true ∧ plainX t = true ∧ ckEs b Γ ts = true := by
  cases es with
  | cons a b =>
    rw [ckEs_cons] at hc
    simp only [Bool.and_eq_true] at hc
    exact ⟨a, b, rfl, hc.1.1, hc.1.2, hc.2⟩
  | _ => cases hc
theorem pl_one {t : PySem.Expr} (h : [t].all plainX = true) : plainX t = true := by simpa using h
/-- o.get(..), the arguments read as a row -/
theorem pe_get1 {X : Cx} {o e : PySem.Expr} {td : TE} {ta : TA} {apos cpos : Pos} (hu : X.A.units + 1 < cLine) (ho : PE X o td) (ha : PA X [e] ta) (m : M1 X o "get" apos e cpos) :
    PE X (.Call (.Attribute o "get" apos) [e] [] cpos) (fun σ H Q => td σ H fun x H1 => ∃ a, x = .ref a ∧ IsD H1 a ∧ ta σ H1 fun vs H2 => ∃ y, vs = [y] ∧ ∃ o, DGet H2 a y o ∧ Q (o.getD .non) H2) := by
  refine ⟨fun pins s σ H Q I h => ?_⟩
  refine wpAny_Call_method m.base m.few m.line PySem.F.plainAttrs_dict PySem.F.slot_dict_get PySem.F.type_dict_get (thn (ho.run pins s σ H _ I h) fun u s1 ⟨x, H1, I1, rx, a, ex, hD, q⟩ => ?_)
  subst ex
  obtain rfl : u = Value.ref a := rx
  obtain ⟨ty, nd, _⟩ := isD_at I1 hD
  have key := ha.run cpos pins s1 σ H1 _ I1 q
  rw [m.trees] at key ⊢
  refine ⟨ty, nd, Calls.callWith_builtin rfl (Calls.evalArgs_plain (thn key fun us s2 ⟨vs, H2, I2, r, y, ev, ov, g, q2⟩ => ?_))⟩
  subst ev
  obtain ⟨w, rfl, rw'⟩ := Vals.one r
  exact d_get1 hu I2 g rw' fun w' s3 I3 rw' => ⟨_, H2, I3, rw', q2⟩
theorem pe_get2 {X : Cx} {o e f : PySem.Expr} {td : TE} {ta : TA} {apos cpos : Pos} (hu : X.A.units + 1 < cLine) (ho : PE X o td) (ha : PA X [e, f] ta) (m : M2 X o "get" apos e f cpos) :
    PE X (.Call (.Attribute o "get" apos) [e, f] [] cpos) (fun σ H Q => td σ H fun x H1 => ∃ a, x = .ref a ∧ IsD H1 a ∧ ta σ H1 fun vs H2 => ∃ y z, vs = [y, z] ∧ ∃ o, DGet H2 a y o ∧ Q (o.getD z) H2) := by
  refine ⟨fun pins s σ H Q I h => ?_⟩
  refine wpAny_Call_method m.base m.few m.line PySem.F.plainAttrs_dict PySem.F.slot_dict_get PySem.F.type_dict_get (thn (ho.run pins s σ H _ I h) fun u s1 ⟨x, H1, I1, rx, a, ex, hD, q⟩ => ?_)
  subst ex
  obtain rfl : u = Value.ref a := rx
  obtain ⟨ty, nd, _⟩ := isD_at I1 hD
  have key := ha.run cpos pins s1 σ H1 _ I1 q
  rw [m.trees] at key ⊢
  refine ⟨ty, nd, Calls.callWith_builtin rfl (Calls.evalArgs_plain (thn key fun us s2 ⟨vs, H2, I2, r, y, z, ev, ov, g, q2⟩ => ?_))⟩
  subst ev
  obtain ⟨v1, v2, rfl, r1, r2⟩ := vals2 r
  exact d_get2 hu I2 g r1 r2 fun w' s3 I3 rw' => ⟨_, H2, I3, rw', q2⟩
theorem snd_mt {m : Mt} {o es : E} (iho : SndE C ca call k o) (ihs : SndE C ca call k es) : SndE C ca call k (.mt m o es) := .onlyE (fun Γ X W x ok h => by
  rw [ckE_mt] at h
  split at h
  · rename_i o' n p ts q
    simp only [Bool.and_eq_true, decide_eq_true_eq] at h
    obtain ⟨⟨⟨⟨e1, e2⟩, e3⟩, e4⟩, e5⟩ := h
    have hl : (p.endLine == q.line) = true := by rw [e4]; exact beq_self_eq_true _
    unfold mtSyn at e5
    cases m with
    | append =>
      simp only [Bool.and_eq_true, beq_iff_eq, decide_eq_true_eq] at e5
      obtain ⟨rfl, e6⟩ := e5
      obtain ⟨t, rfl⟩ : ∃ t, ts = [t] := by
        match ts, e6 with
        | [t], _ => exact ⟨t, rfl⟩
      have pl := ckEs_plain e3
      have pl' : plainX t = true := by simpa using pl
      refine PE.imp (pe_bm PySem.F.plainAttrs_list PySem.F.slot_list_append PySem.F.type_list_append mt_append (iho.e Γ X W _ ok e1) (ihs.s Γ X W _ ok e3) (plain_base e2 _ _ _) (by rw [plain_star pl']; rfl) hl (plain_star pl' _ _) rfl) ?_
      rintro σ H Q ⟨ρ, hh, env, w, er, p⟩
      refine ⟨ρ, hh, env, w, er, p.bndX Xt.refl fun x1 h1 ρ1 H1 v1 p1 y1 z1 w1 r1 => ?_⟩
      split at p1
      · rename_i hp
        obtain ⟨n, en, hn⟩ := mt_ref (by decide) hp
        refine ⟨list_ty w1 r1 en hn, ρ1, h1, env, w1, er.fwd w z1, p1.bndX z1 fun x2 h2 ρ2 H2 v2 p2 y2 z2 w2 r2 => ?_⟩
        exact append_ok w2 (w1.rv y2 r1) r2 (p2.fwd z2)
      · exact p1.elim
    | pop =>
      simp only [Bool.and_eq_true, beq_iff_eq, decide_eq_true_eq] at e5
      obtain ⟨rfl, e6⟩ := e5
      have e7 : ts = [] := List.length_eq_zero_iff.mp e6
      subst e7
      refine PE.imp (pe_bm0 PySem.F.plainAttrs_list PySem.F.slot_list_pop PySem.F.type_list_pop mt_pop (iho.e Γ X W _ ok e1) (plain_base e2 _ _ _) hl) ?_
      rintro σ H Q ⟨ρ, hh, env, w, er, p⟩
      refine ⟨ρ, hh, env, w, er, p.bndX Xt.refl fun x1 h1 ρ1 H1 v1 p1 y1 z1 w1 r1 => ?_⟩
      split at p1
      · rename_i hp
        obtain ⟨n, en, hn⟩ := mt_ref (by decide) hp
        refine ⟨list_ty w1 r1 en hn, ?_⟩
        cases es with
        | nil => exact pop_ok (ds := []) w1 r1 rfl (p1.fwd z1)
        | _ => cases e3
      · exact p1.elim
    | get =>
      simp only [Bool.and_eq_true, Bool.or_eq_true, beq_iff_eq, decide_eq_true_eq] at e5
      obtain ⟨rfl, e6⟩ := e5
      have hu1 : X.A.units + 1 < cLine := by have := ok.hu; omega
      rcases e6 with e6 | e6
      · obtain ⟨t, rfl⟩ : ∃ t, ts = [t] := by
          match ts, e6 with
          | [t], _ => exact ⟨t, rfl⟩
        have pt := pl_one (ckEs_plain e3)
        have rule := pe_get1 (apos := p) (cpos := q) hu1 (iho.e Γ X W _ ok e1) (ihs.s Γ X W _ ok e3) ⟨plain_base e2 _ _ _, by rw [plain_star pt]; rfl, hl, by rw [plain_star pt]; rfl⟩
        refine PE.imp rule ?_
        rintro σ H Q ⟨ρ, hh, env, w, er, p⟩
        refine ⟨ρ, hh, env, w, er, p.bndX Xt.refl fun x1 h1 ρ1 H1 v1 p1 y1 z1 w1 r1 => ?_⟩
        split at p1
        · rename_i hp
          obtain ⟨n, en, hn⟩ := mt_dct hp
          obtain ⟨a, ea, hD⟩ := dict_isD w1 r1 en hn
          refine ⟨a, ea, hD, ρ1, h1, env, w1, er.fwd w z1, p1.bndE z1 fun x2 h2 ρ2 H2 v2 em p2 y2 z2 w2 r2 => ?_⟩
          have hl2 := evs_len e3 em
          obtain ⟨d, rfl⟩ : ∃ d, x2 = [d] := by
            match x2, hl2 with
            | [d], _ => exact ⟨d, rfl⟩
          obtain ⟨y, rfl, ry⟩ := rvs1 r2
          obtain ⟨a', o', ea', g, q'⟩ := get_one w2 (w1.rv y2 r1) ry (p2.fwd z2)
          rw [ea] at ea'; cases ea'
          exact ⟨y, rfl, o', g, q'⟩
        · exact p1.elim
      · obtain ⟨t, t', rfl⟩ : ∃ t t', ts = [t, t'] := by
          match ts, e6 with
          | [t, t'], _ => exact ⟨t, t', rfl⟩
        have pl := ckEs_plain e3
        have pl' : plainX t = true ∧ plainX t' = true := by simpa using pl
        have rule := pe_get2 (apos := p) (cpos := q) hu1 (iho.e Γ X W _ ok e1) (ihs.s Γ X W _ ok e3) ⟨plain_base e2 _ _ _, by rw [plain_star pl'.1, plain_star pl'.2]; rfl, hl, by rw [plain_star pl'.1, plain_star pl'.2]; rfl⟩
        refine PE.imp rule ?_
        rintro σ H Q ⟨ρ, hh, env, w, er, p⟩
        refine ⟨ρ, hh, env, w, er, p.bndX Xt.refl fun x1 h1 ρ1 H1 v1 p1 y1 z1 w1 r1 => ?_⟩
        split at p1
        · rename_i hp
          obtain ⟨n, en, hn⟩ := mt_dct hp
          obtain ⟨a, ea, hD⟩ := dict_isD w1 r1 en hn
          refine ⟨a, ea, hD, ρ1, h1, env, w1, er.fwd w z1, p1.bndE z1 fun x2 h2 ρ2 H2 v2 em p2 y2 z2 w2 r2 => ?_⟩
          have hl2 := evs_len e3 em
          obtain ⟨d, d', rfl⟩ : ∃ d d', x2 = [d, d'] := by
            match x2, hl2 with
            | [d, d'], _ => exact ⟨d, d', rfl⟩
          obtain ⟨y, y', rfl, ry, ry'⟩ := rvs2 r2
          obtain ⟨a', o', ea', g, q'⟩ := get_two w2 (w1.rv y2 r1) ry ry' (p2.fwd z2)
          rw [ea] at ea'; cases ea'
          exact ⟨y, y', rfl, o', g, q'⟩
        · exact p1.elim
    | _ => cases e5
  · cases h) (fun _ x => by cases x <;> rfl) (fun _ x => by cases x <;> rfl) (fun _ x => by cases x <;> rfl) (fun _ tg x => by cases x <;> rfl)

/-! ### what is walked -/
theorem SndE.onlyI {ir : E} (he : ∀ Γ x, ckE ir Γ x = false) (hs : ∀ Γ x, ckEs ir Γ x = false) (ho : ∀ Γ x, ckO ir Γ x = false) (ht : ∀ Γ x, ckT ir Γ x = false)
    (hi : ∀ Γ X W tg x, XOk C ca call k Γ X W → ckI ir Γ tg x = true → PI X tg x (tI X.K C ca call W ir)) (hk : ∀ Γ ks vs, ckK ir Γ ks vs = false := by intro _ _ _; rfl) : SndE C ca call k ir :=
  ⟨fun Γ X W x _ h => ff h (he Γ x), fun Γ X W x _ h => ff h (hs Γ x), fun Γ X W x _ h => ff h (ho Γ x), fun Γ X W x _ h => ff h (ht Γ x), hi, fun Γ X W ks vs pos _ h => ff h (hk Γ ks vs)⟩
theorem ckI_rng {Γ tg x es} : ckI (.rng es) Γ tg x = match x with | .Call (.Name y _) ts [] _ => y == ("range" : Str) && glb Γ.sc y && (decide (ts.length = 1) || decide (ts.length = 2)) && ckEs es Γ ts | _ => false := by
  cases x <;> try rfl
  rename_i fn as kw _
  cases fn <;> try rfl
  cases kw <;> rfl
theorem snd_rng {es : E} (ih : SndE C ca call k es) : SndE C ca call k (.rng es) := .onlyI (fun _ x => by cases x <;> rfl) (fun _ x => by cases x <;> rfl) (fun _ x => by cases x <;> rfl) (fun _ x => by cases x <;> rfl) (fun Γ X W tg x o h => by
  rw [ckI_rng] at h
  split at h
  · rename_i y p ts q
    simp only [Bool.and_eq_true, Bool.or_eq_true, beq_iff_eq, decide_eq_true_eq] at h
    obtain ⟨⟨⟨rfl, e1⟩, e2⟩, e3⟩ := h
    have pl := ckEs_plain e3
    have hm := o.blt "range" (by decide)
    rcases e2 with e2 | e2
    · obtain ⟨t, rfl⟩ : ∃ t, ts = [t] := by
        match ts, e2 with
        | [t], _ => exact ⟨t, rfl⟩
      have pl' : plainX t = true := by simpa using pl
      refine PI.imp (pi_range1 (glb_of o e1) hm (ih.s Γ X W _ o e3) (plain_star pl' _ _)) ?_
      rintro σ H R ⟨ρ, hh, env, w, er, p⟩
      refine ⟨ρ, hh, env, w, er, p.bndE Xt.refl fun x1 h1 ρ1 H1 v1 em p1 y1 z1 w1 r1 => ?_⟩
      have hl := evs_len e3 em
      split at p1
      · rename_i xs e
        unfold rangeD at e
        split at e
        · split at e
          · rename_i hb
            cases e
            obtain ⟨v, rfl, q⟩ := rvs1 r1
            cases q
            exact ⟨_, rfl, hb.1, hb.2, p1.ok z1 w1 it_rng⟩
          · cases e
        · cases hl
        · cases e
      · exact p1.elim
    · obtain ⟨t, t', rfl⟩ : ∃ t t', ts = [t, t'] := by
        match ts, e2 with
        | [t, t'], _ => exact ⟨t, t', rfl⟩
      have pl' : plainX t = true ∧ plainX t' = true := by simpa using pl
      refine PI.imp (pi_range2 (glb_of o e1) hm (ih.s Γ X W _ o e3) (by rw [plain_star pl'.1, plain_star pl'.2]; rfl) (plain_star pl'.2 _ _)) ?_
      rintro σ H R ⟨ρ, hh, env, w, er, p⟩
      refine ⟨ρ, hh, env, w, er, p.bndE Xt.refl fun x1 h1 ρ1 H1 v1 em p1 y1 z1 w1 r1 => ?_⟩
      have hl := evs_len e3 em
      split at p1
      · rename_i xs e
        unfold rangeD at e
        split at e
        · cases hl
        · split at e
          · rename_i hb
            cases e
            obtain ⟨v, u, rfl, q, q'⟩ := rvs2 r1
            cases q; cases q'
            exact ⟨_, _, rfl, hb, p1.ok z1 w1 it_rng⟩
          · cases e
        · cases e
      · exact p1.elim
  · cases h)
theorem ckI_enu {Γ tg x a} : ckI (.enu a) Γ tg x = match tg, x with | .Tuple _ _ _, .Call (.Name y _) [a'] [] _ => y == ("enumerate" : Str) && glb Γ.sc y && ckE a Γ a' && plainX a' | _, _ => false := by
  cases tg <;> try rfl
  cases x <;> try rfl
  rename_i fn as kw _
  cases fn <;> try rfl
  cases as <;> try rfl
  rename_i a1 as
  cases as <;> try rfl
  cases kw <;> rfl
theorem snd_enu {a : E} (ih : SndE C ca call k a) : SndE C ca call k (.enu a) := .onlyI (fun _ x => by cases x <;> rfl) (fun _ x => by cases x <;> rfl) (fun _ x => by cases x <;> rfl) (fun _ x => by cases x <;> rfl) (fun Γ X W tg x o h => by
  rw [ckI_enu] at h
  split at h
  · simp only [Bool.and_eq_true, beq_iff_eq] at h
    obtain ⟨⟨⟨rfl, e1⟩, e2⟩, e3⟩ := h
    refine PI.imp (pi_enum (glb_of o e1) (o.blt "enumerate" (by decide)) (pa_cons (ih.e Γ X W _ o e2) pa_nil (plain_star e3 _ _)) (plain_star e3 _ _)) ?_
    rintro σ H R ⟨ρ, hh, env, w, er, p⟩
    refine ⟨ρ, hh, env, w, er, p.bndX Xt.refl fun x1 h1 ρ1 H1 v1 p1 y1 z1 w1 r1 => ?_⟩
    split at p1
    · rename_i pp e
      unfold enumP at e
      split at e
      · split at e
        · rename_i xs e0
          cases e
          obtain ⟨b, vs, rfl, ea, q, s⟩ := rd_lst w1 r1 e0
          exact ⟨b, vs, rfl, q, p1.ok z1 w1 (it_enum w1 ea)⟩
        · cases e
      · cases e
    · exact p1.elim
  · cases h)
theorem ckI_zip {Γ tg x a b} : ckI (.zip a b) Γ tg x = match tg, x with | .Tuple _ _ _, .Call (.Name y _) [a', b'] [] _ => y == ("zip" : Str) && glb Γ.sc y && ckE a Γ a' && plainX a' && ckE b Γ b' && plainX b' | _, _ => false := by
  cases tg <;> try rfl
  cases x <;> try rfl
  rename_i fn as kw _
  cases fn <;> try rfl
  cases as <;> try rfl
  rename_i a1 as
  cases as <;> try rfl
  rename_i a2 as
  cases as <;> try rfl
  cases kw <;> rfl
theorem snd_zip {a b : E} (iha : SndE C ca call k a) (ihb : SndE C ca call k b) : SndE C ca call k (.zip a b) := .onlyI (fun _ x => by cases x <;> rfl) (fun _ x => by cases x <;> rfl) (fun _ x => by cases x <;> rfl) (fun _ x => by cases x <;> rfl) (fun Γ X W tg x o h => by
  rw [ckI_zip] at h
  split at h
  · simp only [Bool.and_eq_true, beq_iff_eq] at h
    obtain ⟨⟨⟨⟨⟨rfl, e1⟩, e2⟩, e3⟩, e4⟩, e5⟩ := h
    refine PI.imp (RZ.pi_zipA (glb_of o e1) (o.blt "zip" (by decide)) (pa_cons (iha.e Γ X W _ o e2) (pa_cons (ihb.e Γ X W _ o e4) pa_nil (plain_star e5 _ _)) (plain_star e3 _ _)) (plain_star e3 _ _) (by rw [plain_star e5]; rfl)) ?_
    rintro σ H R ⟨ρ, hh, env, w, er, p⟩
    refine ⟨ρ, hh, env, w, er, p.bndX Xt.refl fun x1 h1 ρ1 H1 v1 p1 y1 z1 w1 r1 => ?_⟩
    refine ⟨ρ1, h1, env, w1, er.fwd w z1, p1.bndX z1 fun x2 h2 ρ2 H2 v2 p2 y2 z2 w2 r2 => ?_⟩
    split at p2
    · rename_i pp e
      have r1' := w1.rv y2 r1
      unfold zipP at e
      split at e
      · cases e
        obtain ⟨b1, vs, rfl, q, s⟩ := r1'
        obtain ⟨b2, us, rfl, q', s'⟩ := r2
        exact ⟨b1, b2, vs, us, rfl, .inr ⟨sqt q, sqt q', p2.ok z2 w2 (it_zipT w2 q s q' s')⟩⟩
      · split at e
        · rename_i xs ys e0 e0'
          cases e
          obtain ⟨b1, vs, rfl, ea, q, s⟩ := rd_lst w2 r1' e0
          obtain ⟨b2, us, rfl, eb, q', s'⟩ := rd_lst w2 r2 e0'
          exact ⟨b1, b2, vs, us, rfl, .inl ⟨q, q', p2.ok z2 w2 (it_zipL w2 ea eb)⟩⟩
        · cases e
      · cases e
    · exact p2.elim
  · cases h)
theorem ckI_itr {Γ tg x a} : ckI (.itr a) Γ tg x = ckE a Γ x := by cases tg <;> cases x <;> rfl
theorem snd_itr {a : E} (ih : SndE C ca call k a) : SndE C ca call k (.itr a) := .onlyI (fun _ x => by cases x <;> rfl) (fun _ x => by cases x <;> rfl) (fun _ x => by cases x <;> rfl) (fun _ x => by cases x <;> rfl) (fun Γ X W tg x o h => by
  rw [ckI_itr] at h
  refine PI.imp (PI.or (PI.or (pi_list (ih.e Γ X W _ o h)) (pi_tup (ih.e Γ X W _ o h))) (pi_keys (ih.e Γ X W _ o h))) ?_
  rintro σ H R ⟨ρ, hh, env, w, er, p⟩
  have p' : Post ⟨X.K, C, ca⟩ ρ H (relI X.K) _ R (bnd (ev call a env hh) _) := p
  cases em : ev call a env hh with
  | none =>
    rw [em] at p'
    exact p'.elim
  | some r =>
    cases r with
    | exc c fs h' =>
      left; left
      refine ⟨ρ, hh, env, w, er, ?_⟩
      rw [em] at p' ⊢
      exact p'
    | ok d h' =>
      rw [em, bnd_ok] at p'
      split at p'
      · rename_i pp e
        unfold itemsOf at e
        split at e
        · cases e
          left; right
          refine ⟨ρ, hh, env, w, er, ?_⟩
          rw [em]
          intro ρ1 H1 v1 z1 w1 r1
          obtain ⟨b, vs, rfl, q, s⟩ := r1
          exact ⟨b, rfl, ⟨vs, sqt q⟩, p'.ok z1 w1 (it_tup w1 q s)⟩
        · split at e
          · rename_i xs e0
            cases e
            left; left
            refine ⟨ρ, hh, env, w, er, ?_⟩
            rw [em]
            intro ρ1 H1 v1 z1 w1 r1
            obtain ⟨b, vs, rfl, ea, q, s⟩ := rd_lst w1 r1 e0
            exact ⟨b, rfl, ⟨vs, q⟩, p'.ok z1 w1 (it_list w1 ea)⟩
          · split at e
            · rename_i t kvs e1
              cases e
              right
              refine ⟨ρ, hh, env, w, er, ?_⟩
              rw [em]
              intro ρ1 H1 v1 z1 w1 r1
              obtain ⟨b, rfl, _, q⟩ := lk_dct w1 r1 e1
              rcases q with ⟨_, ob, ws, e2, dr⟩ | ⟨_, ob, ws, e2, dr⟩
              · exact ⟨b, ob, rfl, .inl ⟨ws, e2, p'.ok z1 w1 (it_keysK w1 e2 dr)⟩⟩
              · exact ⟨b, ob, rfl, .inr ⟨ws, e2, p'.ok z1 w1 (it_keysT w1 e2 dr)⟩⟩
            · split at e
              · rename_i xs e1
                cases e
                left; right
                refine ⟨ρ, hh, env, w, er, ?_⟩
                rw [em]
                intro ρ1 H1 v1 z1 w1 r1
                obtain ⟨b, o, vs, rfl, _, q, _, s⟩ := rd_tpl w1 r1 e1
                exact ⟨b, rfl, ⟨vs, .inl (.inr ⟨o, q⟩)⟩, p'.ok z1 w1 (it_tpl w1 q s)⟩
              · cases e
        · cases e
      · exact p'.elim)
theorem ckI_dit {Γ tg x a} : ckI (.dit a) Γ tg x = match tg, x with | .Tuple _ _ _, .Call (.Attribute o' n p) [] [] q => n == ("items" : Str) && ckE a Γ o' && plainB o' && decide (p.endLine = q.line) | _, _ => false := by
  cases tg <;> try rfl
  cases x <;> try rfl
  rename_i fn as kw _
  cases fn <;> try rfl
  cases as <;> try rfl
  cases kw <;> rfl
theorem snd_dit {a : E} (ih : SndE C ca call k a) : SndE C ca call k (.dit a) := .onlyI (fun _ x => by cases x <;> rfl) (fun _ x => by cases x <;> rfl) (fun _ x => by cases x <;> rfl) (fun _ x => by cases x <;> rfl) (fun Γ X W tg x o h => by
  rw [ckI_dit] at h
  split at h
  · rename_i o' n p q
    simp only [Bool.and_eq_true, beq_iff_eq, decide_eq_true_eq] at h
    obtain ⟨⟨⟨rfl, e1⟩, e2⟩, e3⟩ := h
    have hl : (p.endLine == q.line) = true := by rw [e3]; exact beq_self_eq_true _
    refine PI.imp (PI.or (pi_items (ih.e Γ X W _ o e1) (plain_base e2 _ _ _) hl) (pi_pairsT (ih.e Γ X W _ o e1) (plain_base e2 _ _ _) hl)) ?_
    rintro σ H R ⟨ρ, hh, env, w, er, p⟩
    have p' : Post ⟨X.K, C, ca⟩ ρ H (relI X.K) _ R (bnd (ev call a env hh) _) := p
    cases em : ev call a env hh with
    | none =>
      rw [em] at p'
      exact p'.elim
    | some r =>
      cases r with
      | exc c fs h' =>
        left
        refine ⟨ρ, hh, env, w, er, ?_⟩
        rw [em] at p' ⊢
        exact p'
      | ok d h' =>
        rw [em, bnd_ok] at p'
        split at p'
        · rename_i pp e
          unfold ditP at e
          split at e
          · split at e
            · rename_i t kvs e1
              cases e
              cases t with
              | false =>
                left
                refine ⟨ρ, hh, env, w, er, ?_⟩
                rw [em]
                intro ρ1 H1 v1 z1 w1 r1
                obtain ⟨b, rfl, _, q⟩ := lk_dct w1 r1 e1
                rcases q with ⟨_, ob, ws, e2, dr⟩ | ⟨z, _⟩
                · exact ⟨b, ob, ws, rfl, e2, p'.ok z1 w1 (it_pairsK w1 e2 dr)⟩
                · cases z
              | true =>
                right
                refine ⟨ρ, hh, env, w, er, ?_⟩
                rw [em]
                intro ρ1 H1 v1 z1 w1 r1
                obtain ⟨b, rfl, _, q⟩ := lk_dct w1 r1 e1
                rcases q with ⟨z, _⟩ | ⟨_, ob, ws, e2, dr⟩
                · cases z
                · exact ⟨b, ob, ws, rfl, e2, p'.ok z1 w1 (it_pairsT w1 e2 dr)⟩
            · cases e
          · cases e
        · exact p'.elim
  · cases h)
/-! ### what runs while a dict is locked -/
theorem PE.or {X : Cx} {e : PySem.Expr} {t t' : TE} (h : PE X e t) (h' : PE X e t') : PE X e (fun σ H Q => t σ H Q ∨ t' σ H Q) := ⟨fun pins s σ H Q I q => q.elim (h.run pins s σ H Q I) (h'.run pins s σ H Q I)⟩
theorem ckE_lck {Γ x i a} : ckE (.lck i a) Γ x = (ckE a Γ x && !isCmp x) := by cases x <;> rfl
theorem snd_lck {i : Nat} {a : E} (ih : SndE C ca call k a) : SndE C ca call k (.lck i a) := .onlyE (fun Γ X W x o h => by
  rw [ckE_lck] at h
  simp only [Bool.and_eq_true] at h
  refine PE.imp (PE.or (ih.e Γ X W _ o h.1) (pe_lock (ih.e Γ X W _ o h.1))) ?_
  rintro σ H Q ⟨ρ, hh, env, w, er, p⟩
  unfold ev at p
  split at p
  · rename_i n en
    unfold lockE at p
    split at p
    · exact .inl ⟨ρ, hh, env, w, er, p⟩
    · rename_i t kvs eh
      right
      dsimp only at p
      obtain ⟨d, u, ed, eu, mu, lk⟩ := lock_in w eh
      refine ⟨d, u, eu, mut_of mu, fun od => ?_⟩
      obtain ⟨wl, ts⟩ := lk od
      refine ⟨ρ, _, env, wl, ⟨er.len, fun j d' q => let ⟨v, q1, q2⟩ := er.at' j d' q; ⟨v, q1, RV.mono ts (fun _ _ q => q) _ _ q2⟩⟩, ?_⟩
      cases em : ev call a env (setH hh n (.dct true t kvs)) with
      | none => rw [em] at p; exact p.elim
      | some r =>
        rw [em] at p
        cases r with
        | exc c fs h' => exact p.elim
        | ok v h' =>
          dsimp only at p
          split at p
          · rename_i t' kvs' e'
            intro ρ' H' b x' w' rb
            obtain ⟨g1, g2, g3, g4⟩ := unlock_out w ed eu mu x' w' e'
            exact ⟨g1, p.ok g2 g3 (RV.mono g4 (fun _ _ q => q) _ _ rb)⟩
          · exact p.elim
    · exact p.elim
  · exact p.elim) (fun _ x => by cases x <;> rfl) (fun _ x => by cases x <;> rfl) (fun _ x => by cases x <;> rfl) (fun _ tg x => by cases tg <;> cases x <;> rfl)
/-! ### displays of dicts -/
theorem ckE_dnew {Γ x t} : ckE (.dnew t) Γ x = match x with | .Dict [] [] _ => true | _ => false := by
  cases x <;> try rfl
  rename_i ks vs _
  cases ks <;> cases vs <;> rfl
theorem post_new {X : Cx} {ρ : List Addr} {H : Hp} {h : List O} {Wc : Value → Option Addr → Hp → Prop} {Q : VK} {t : Bool} {kvs : List (D × D)} {u : HO} {a : Addr} (w : Wd X.K ρ h H) (n : H a = none) (q : DAt X.K (ρ ++ [a]) (upd H a u) a t kvs)
    (p : Post ⟨X.K, C, ca⟩ ρ H (relD X.K) Wc Q (alloc (.dct false t kvs) h)) : Q (.ref a) (upd H a u) := by
  obtain ⟨x, w', r'⟩ := w.allocO n q.or
  exact p.ok x w' r'
theorem ckE_rev {Γ x a} : ckE (.rev a) Γ x = match x with | .Subscript a' (.Slice none none (some (.UnaryOp .USub (.Constant (.int j) _ _) _)) _) _ => decide (j = 1) && ckE a Γ a' | _ => false := by
  cases x <;> try rfl
  rename_i v s _
  cases s <;> try rfl
  rename_i l u st _
  cases l <;> try rfl
  cases u <;> try rfl
  cases st <;> try rfl
  rename_i st
  cases st <;> try rfl
  rename_i op b _
  cases op <;> try rfl
  cases b <;> try rfl
  rename_i c _ _
  cases c <;> rfl
theorem snd_rev {a : E} (iha : SndE C ca call k a) : SndE C ca call k (.rev a) := .onlyE (fun Γ X W x o h => by
  rw [ckE_rev] at h
  split at h
  · simp only [Bool.and_eq_true, decide_eq_true_eq] at h
    obtain ⟨e1, h⟩ := h
    subst e1
    refine PE.imp (PE.or (pe_revL (iha.e Γ X W _ o h)) (pe_revT (iha.e Γ X W _ o h))) ?_
    rintro σ H Q ⟨ρ, hh, env, w, er, p⟩
    have p' : Post ⟨X.K, C, ca⟩ ρ H (relD X.K) _ Q (bnd (ev call a env hh) _) := p
    cases em : ev call a env hh with
    | none =>
      rw [em] at p'
      exact p'.elim
    | some r =>
      cases r with
      | exc c fs h' =>
        left
        refine ⟨ρ, hh, env, w, er, ?_⟩
        rw [em] at p' ⊢
        exact p'
      | ok d h' =>
        rw [em, bnd_ok] at p'
        split at p'
        · right
          refine ⟨ρ, hh, env, w, er, ?_⟩
          rw [em]
          intro ρ1 H1 v1 z1 w1 r1
          obtain ⟨b, vs, rfl, q, s⟩ := r1
          exact ⟨b, vs, rfl, sqt q, post_tup w1 s.rev (p'.fwd z1)⟩
        · split at p'
          · rename_i xs e0
            left
            refine ⟨ρ, hh, env, w, er, ?_⟩
            rw [em]
            intro ρ1 H1 v1 z1 w1 r1
            obtain ⟨b, vs, rfl, ea, q, s⟩ := rd_lst w1 r1 e0
            exact ⟨b, vs, rfl, q, post_alloc w1 s.rev (p'.fwd z1)⟩
          · exact p'.elim
        · exact p'.elim
  · cases h) (fun _ x => by cases x <;> rfl) (fun _ x => by cases x <;> rfl) (fun _ x => by cases x <;> rfl) (fun _ tg x => by cases tg <;> cases x <;> rfl)
theorem snd_dnew {t : Bool} : SndE C ca call k (.dnew t) := .onlyE (fun Γ X W x o h => by
  rw [ckE_dnew] at h
  split at h
  · refine PE.imp (PE.or pe_dnewK pe_dnewT) ?_
    rintro σ H Q ⟨ρ, hh, env, w, er, p⟩
    cases t with
    | false =>
      left
      intro a n
      exact post_new w n (.empty upd_same) p
    | true =>
      right
      intro a n
      exact post_new w n (.empty upd_same) p
  · cases h) (fun _ x => by cases x <;> rfl) (fun _ x => by cases x <;> rfl) (fun _ x => by cases x <;> rfl) (fun _ tg x => by cases tg <;> cases x <;> rfl)
theorem bnd_bnd {α β γ : Type} (m : Option (R α)) (f : α → List O → Option (R β)) (g : β → List O → Option (R γ)) : bnd (bnd m f) g = bnd m fun a h => bnd (f a h) g := by
  cases m with
  | none => rfl
  | some r => cases r <;> rfl
/-- the pairs of a display, by the evaluator -/
theorem pairs_ok {X : Cx} {W : WX} {γ δ : Type} {rel2 : Rel γ δ} {Q2 : δ → Hp → Prop} {σ : L2.St} {ρ : List Addr} {H : Hp} {env : Env} : ∀ (ir : E) {f : List (D × D) → List O → Option (R γ)} {ρ1 : List Addr} {h1 : List O} {H1 : Hp} {Q1 : List (V × V) → Hp → Prop}, Xt ρ H ρ1 H1 → Wd X.K ρ1 h1 H1 → EnvR X.K ρ1 H1 σ env →
    Post ⟨X.K, C, ca⟩ ρ H rel2 (fun c d H' => W c d σ H') Q2 (bnd (evk call ir env h1) f) →
    (∀ ps h2 ρ2 H2 vs, Post ⟨X.K, C, ca⟩ ρ H rel2 (fun c d H' => W c d σ H') Q2 (f ps h2) → Xt ρ1 H1 ρ2 H2 → Wd X.K ρ2 h2 H2 → VD X.K ρ2 H2 vs ps → Q1 vs H2) → tPairs (trsOf X.K C ca call W ir) σ H1 Q1 := by
  intro ir
  induction ir with
  | nil =>
    intro f ρ1 h1 H1 Q1 x1 w1 er p go
    exact go [] h1 ρ1 H1 [] p Xt.refl w1 .nil
  | kv a b r _ _ ihr =>
    intro f ρ1 h1 H1 Q1 x1 w1 er p go
    have p' : Post ⟨X.K, C, ca⟩ ρ H rel2 (fun c d H' => W c d σ H') Q2 (bnd (bnd (ev call a env h1) fun x h1 => bnd (ev call b env h1) fun y h2 => bnd (evk call r env h2) fun ps h3 => some (.ok ((x, y) :: ps) h3)) f) := p
    rw [bnd_bnd] at p'
    refine ⟨ρ1, h1, env, w1, er, p'.bndX x1 fun u h2 ρ2 H2 v2 p2 y2 z2 w2 r2 => ?_⟩
    rw [bnd_bnd] at p2
    refine ⟨ρ2, h2, env, w2, er.fwd w1 y2, p2.bndX z2 fun u3 h3 ρ3 H3 v3 p3 y3 z3 w3 r3 => ?_⟩
    rw [bnd_bnd] at p3
    refine ihr z3 w3 ((er.fwd w1 y2).fwd w2 y3) p3 fun ps h4 ρ4 H4 vs p4 x4 w4 vd => ?_
    exact go _ h4 ρ4 H4 _ p4 ((y2.trans y3).trans x4) w4 (.cons ⟨w3.rv x4 (w2.rv y3 r2), w3.rv x4 r3⟩ vd)
  | _ =>
    intro f ρ1 h1 H1 Q1 x1 w1 er p go
    exact p.elim
theorem ckE_dsp {Γ x t kvs} : ckE (.dsp t kvs) Γ x = match x with | .Dict ks vs _ => ckK kvs Γ ks vs && !ks.isEmpty && decide (ks.length ≤ 15) | _ => false := by cases x <;> rfl
theorem ckK_some {Γ : Gm} : ∀ {ir : E} {ks : List (Option PySem.Expr)} {vs : List PySem.Expr}, ckK ir Γ ks vs = true → ks.all (·.isSome) = true ∧ ks.length = vs.length
  | ir, [], [], _ => ⟨rfl, rfl⟩
  | ir, [], _ :: _, h => by cases ir <;> cases h
  | ir, none :: _, _, h => by cases ir <;> cases h
  | ir, some _ :: _, [], h => by cases ir <;> cases h
  | ir, some k :: ks, v :: vs, h => by
    cases ir with
    | kv a b r =>
      rw [ckK_kv] at h
      simp only [Bool.and_eq_true] at h
      obtain ⟨q1, q2⟩ := ckK_some h.2
      exact ⟨by simp [q1], by simp [q2]⟩
    | _ => cases h
theorem snd_dsp {t : Bool} {kvs : E} (ih : SndE C ca call k kvs) : SndE C ca call k (.dsp t kvs) := .onlyE (fun Γ X W x o h => by
  rw [ckE_dsp] at h
  split at h
  · rename_i ks vs pos
    simp only [Bool.and_eq_true, Bool.not_eq_true', decide_eq_true_eq] at h
    obtain ⟨⟨h1, h2⟩, h3⟩ := h
    have h0 : ks ≠ [] := fun z => by rw [z] at h2; cases h2
    obtain ⟨g1, g2⟩ := ckK_some h1
    have hu1 : X.A.units + 1 < cLine := by have := o.hu; omega
    have pk := ih.k Γ X W ks vs pos o h1
    refine PE.imp (PE.or (pe_disp pk g1 g2 h0 h3) (pe_dispT hu1 pk g1 g2 h0 h3)) ?_
    rintro σ H Q ⟨ρ, hh, env, w, er, p⟩
    unfold ev at p
    -- the dict is made ahead
    have go : ∀ (B : Addr) (u0 : HO) (Q1 : List (V × V) → Hp → Prop), H B = none → MutO u0 →
        (∀ ps ρ2 H2 us, ps.all (fun p => okK t p.1) = true → ps.length ≤ 15 → H2 B = some u0 → VD X.K ρ2 H2 us ps → (∀ u', DAt X.K ρ2 (upd H2 B u') B t (ps.foldl (fun acc p => dPut acc p.1 p.2) []) → Q (.ref B) (upd H2 B u')) → Q1 us H2) →
        tPairs (trsOf X.K C ca call W kvs) σ (upd H B u0) Q1 := by
      intro B u0 Q1 nB mu hq
      refine pairs_ok kvs (xt_new nB) (w.new nB) (er.fwd w (xt_new nB)) p fun ps h2 ρ2 H2 us p2 x2 w2 vd => ?_
      split at p2
      · rename_i hc
        simp only [Bool.and_eq_true, decide_eq_true_eq] at hc
        have nB2 : B ∉ ρ2 := by
          obtain ⟨τ, e1, n1⟩ := x2.pre
          rw [e1]
          intro m
          rcases List.mem_append.mp m with m | m
          · exact w.there m nB
          · have := n1 B m
            rw [upd_same] at this; cases this
        have eB2 : H2 B = some u0 := x2.frame B u0 upd_same fun m => w.there m nB
        refine hq ps ρ2 H2 us hc.1 hc.2 eB2 vd fun u' q => ?_
        have x3 : Xt ρ H ρ2 (upd H2 B u') := ((xt_new (ρ := ρ) nB).trans x2).side' nB
        obtain ⟨w4, r4⟩ := (w2.side' (u' := u') nB2 eB2 mu).adoptO nB2 (q.mono TS'.refl pre_app rfl).or
        exact p2.ok (x3.named nB) w4 r4
      · exact p2.elim
    cases t with
    | false =>
      left
      intro B nB
      refine go B (.dK []) _ nB trivial fun ps ρ2 H2 us hk hl eB vd fin => ⟨eB, ?_⟩
      obtain ⟨ws, rfl, dr⟩ := vd.keysK hk
      refine ⟨ws, rfl, by rw [dr.len]; exact hl, fin _ (.inl ⟨rfl, _, upd_same, ?_⟩)⟩
      exact (DR.merge (fun _ _ => kD_inj) dr DR.nil).mono (TS'.wr eB trivial) fun _ _ q => q
    | true =>
      right
      intro B nB
      refine go B (.dT []) _ nB trivial fun ps ρ2 H2 us hk hl eB vd fin => ⟨eB, ?_⟩
      obtain ⟨ws, kp, dr⟩ := vd.keysT hk
      refine ⟨ws, kp, by rw [dr.len]; exact hl, fin _ (.inr ⟨rfl, _, upd_same, ?_⟩)⟩
      exact (DR.merge (fun _ _ => keyT_inj) dr DR.nil).mono (TS'.wr eB trivial) fun _ _ q => q
  · cases h) (fun _ x => by cases x <;> rfl) (fun _ x => by cases x <;> rfl) (fun _ x => by cases x <;> rfl) (fun _ tg x => by cases tg <;> cases x <;> rfl)
/-! ### comprehensions -/
theorem notin_fwd {ρ ρ' : List Addr} {H H' : Hp} {a : Addr} (x : Xt ρ H ρ' H') (n : a ∉ ρ) (e : H a ≠ none) : a ∉ ρ' := by
  obtain ⟨τ, e1, n1⟩ := x.pre
  rw [e1]
  intro m
  rcases List.mem_append.mp m with m | m
  · exact n m
  · exact e (n1 a m)
theorem ckE_lc {Γ x own tg it c elt} : ckE (.lc own tg it c elt) Γ x = match x with | .ListComp elt' [⟨tg', it', ifs, n⟩] scope _ => decide (n = 0) && blkC Γ.N Γ.sc scope (ownN Γ.N own) && tgIn own tg && ckI it Γ tg' it' && plainX it' && ckG { Γ with sc := relS scope Γ.sc, ts := scope } tg tg' && ckE elt { Γ with sc := relS scope Γ.sc, ts := scope } elt' && (match ifs with | [] => (match c with | .omit => true | _ => false) | [c'] => ckT c { Γ with sc := relS scope Γ.sc, ts := scope } c' | _ => false) | _ => false := by
  cases x <;> try rfl
  rename_i e gs s p
  cases gs <;> try rfl
  rename_i g gs
  cases g
  cases gs <;> rfl
theorem wipe_at (σ : L2.St) (i : Nat) : ∀ vs : List Nat, (wipe σ vs)[i]? = if i ∈ vs then (σ[i]?).map fun _ => none else σ[i]?
  | [] => by simp [wipe]
  | v :: vs => by
    show ((wipe σ vs).set v none)[i]? = _
    have ih := wipe_at σ i vs
    have hl : (wipe σ vs).length = σ.length := wipe_length σ vs
    by_cases e : v = i
    · subst e
      rw [if_pos List.mem_cons_self]
      by_cases hb : v < σ.length
      · rw [List.getElem?_set_self (by rw [hl]; exact hb), List.getElem?_eq_getElem hb]; rfl
      · rw [List.getElem?_eq_none (by simpa [hl] using hb), List.getElem?_eq_none (by simpa using hb)]; rfl
    · rw [List.getElem?_set_ne e, ih]
      by_cases m : i ∈ vs
      · rw [if_pos m, if_pos (List.mem_cons_of_mem _ m)]
      · rw [if_neg m, if_neg (fun z => (List.mem_cons.mp z).elim (fun q => e q.symm) m)]
theorem wipe_wipe (σ : L2.St) (vs : List Nat) : wipe (wipe σ vs) vs = wipe σ vs := by
  apply List.ext_getElem?
  intro i
  rw [wipe_at, wipe_at]
  by_cases m : i ∈ vs
  · rw [if_pos m, if_pos m, Option.map_map]; rfl
  · rw [if_neg m, if_neg m]
theorem own_snd (N : List Str) (own : List Nat) : (ownN N own).map (·.2) = own := by
  unfold ownN
  rw [List.map_map]
  exact List.map_id own
theorem lc_parts {own : List Nat} {tg it c elt : E} (ihi : SndE C ca call k it) (ihc : SndE C ca call k c) (ihe : SndE C ca call k elt) {Γ : Gm} {X : Cx} {W : WX} {x : PySem.Expr} (o : XOk C ca call k Γ X W) (h : ckE (.lc own tg it c elt) Γ x = true) :
    ∃ elt' tg' it' ifs scope pos, x = .ListComp elt' [⟨tg', it', ifs, 0⟩] scope pos ∧ PI X tg' it' (tI X.K C ca call W it) ∧ BlkOk X.N X.env.scope scope (ownN Γ.N own) ∧
      (∀ (s : Shared) (H : Hp) (cC : Addr) (cl : List (Str × Addr)) (fp : List Addr), PG (X.blk s H scope (compEnvC scope cl cC X.env) fp) tg' (tG X.K tg)) ∧
      (∀ (s : Shared) (H : Hp) (cC : Addr) (cl : List (Str × Addr)) (fp : List Addr), PTs (X.blk s H scope (compEnvC scope cl cC X.env) fp) ifs (tT X.K C ca call (fun _ _ _ _ => False) c)) ∧
      (∀ (s : Shared) (H : Hp) (cC : Addr) (cl : List (Str × Addr)) (fp : List Addr), PE (X.blk s H scope (compEnvC scope cl cC X.env) fp) elt' (tE X.K C ca call (fun _ _ _ _ => False) elt)) ∧ plainX it' = true ∧
      ∀ σ H Q, tE X.K C ca call W (.lc own tg it c elt) σ H Q → tLc (tI X.K C ca call W it) (tG X.K tg) (tT X.K C ca call (fun _ _ _ _ => False) c) (tE X.K C ca call (fun _ _ _ _ => False) elt) ((ownN Γ.N own).map (·.2)) σ H Q := by
  rw [ckE_lc] at h
  split at h
  · rename_i elt' tg' it' ifs n scope pos
    simp only [Bool.and_eq_true, decide_eq_true_eq] at h
    obtain ⟨⟨⟨⟨⟨⟨⟨rfl, h2⟩, h3⟩, h4⟩, h5⟩, h6⟩, h7⟩, h8⟩ := h
    have bo : BlkOk X.N X.env.scope scope (ownN Γ.N own) := by
      rw [o.hN, o.sc]; exact blkOk_by h2
    have hg : ∀ (s : Shared) (H : Hp) (cC : Addr) (cl : List (Str × Addr)) (fp : List Addr), PG (X.blk s H scope (compEnvC scope cl cC X.env) fp) tg' (tG X.K tg) := fun s H cC cl fp =>
      (tg_ok (o.blk s H scope cl cC fp) tg).1 tg' h6
    have he : ∀ (s : Shared) (H : Hp) (cC : Addr) (cl : List (Str × Addr)) (fp : List Addr), PE (X.blk s H scope (compEnvC scope cl cC X.env) fp) elt' (tE X.K C ca call (fun _ _ _ _ => False) elt) := fun s H cC cl fp =>
      ihe.e _ _ _ _ (o.blk s H scope cl cC fp) h7
    have ht : ∀ (s : Shared) (H : Hp) (cC : Addr) (cl : List (Str × Addr)) (fp : List Addr), PTs (X.blk s H scope (compEnvC scope cl cC X.env) fp) ifs (tT X.K C ca call (fun _ _ _ _ => False) c) := fun s H cC cl fp => by
      split at h8
      · split at h8
        · refine PTs.imp pts_nil ?_
          rintro σ H Q ⟨ρ, hh, env, w, er, p⟩
          exact p.ok Xt.refl w rfl
        · cases h8
      · exact pts_one (ihc.t _ _ _ _ (o.blk s H scope cl cC fp) h8).1
      · cases h8
    refine ⟨elt', tg', it', ifs, scope, pos, rfl, ihi.i Γ X W tg' it' o h4, bo, hg, ht, he, h5, ?_⟩
    rintro σ H Q ⟨ρ, hh, env, w, er, p⟩
    refine ⟨ρ, hh, env, w, er, p.bndX Xt.refl fun pp h1 ρ1 H1 J p1 y1 z1 w1 hJ => ?_⟩
    rw [own_snd]
    intro A nA
    have nA0 : H A = none := by
      cases q : H A with
      | none => rfl
      | some u => exact absurd nA (z1.keep A (by rw [q]; simp))
    generalize hF : (fun (x : D) (h : List O) => match asgT tg x (wipeD env own) with
        | some env2 => bnd (evt call c env2 h) fun b h2 => if b = true then bnd (ev call elt env2 h2) fun y h3 => some (R.ok (some y) h3) else some (R.ok none h2)
        | none => none) = F at p1
    refine ⟨fun i m Hc => m = pp.1.length - i ∧ i ≤ pp.1.length ∧ ∃ ρc hc acc vs, Xt ρ1 H1 ρc Hc ∧ Wd X.K ρc hc Hc ∧ A ∉ ρc ∧ Hc A = some (.lst vs) ∧ RVs X.K ρc Hc vs acc ∧
      Post ⟨X.K, C, ca⟩ ρ H (relD X.K) (fun c d H' => W c d σ H') Q (bnd (lcGo pp.2 F (pp.1.drop i) acc hc) fun ys h4 => alloc (.lst ys) h4), ⟨pp.1.length, by simp, Nat.zero_le _, ρ1, h1, [], [], ?_⟩, ?_⟩
    · refine ⟨xt_new nA, w1.new nA, fun m => w1.there m nA, upd_same, rfl, ?_⟩
      exact p1
    rintro i m Hc ⟨rfl, hi, ρc, hc, acc, vs, xc, wc, nc, eA, rc, pc⟩
    have z : Xt ρ H ρc Hc := z1.trans xc
    by_cases hlt : i < pp.1.length
    · -- a turn
      right
      have hx : pp.1[i]? = some pp.1[i] := List.getElem?_eq_getElem hlt
      rw [List.drop_eq_getElem_cons hlt] at pc
      unfold lcGo at pc
      by_cases hk : chk pp.2 hc = true
      · rw [if_pos hk] at pc
        obtain ⟨hgo, _⟩ := hJ ρc hc Hc xc wc hk
        obtain ⟨hgo, hy⟩ := hgo i _ hx
        refine ⟨hgo, fun H' => ∃ ρc hc acc vs, Xt ρ1 H1 ρc H' ∧ Wd X.K ρc hc H' ∧ A ∉ ρc ∧ H' A = some (.lst vs) ∧ RVs X.K ρc H' vs acc ∧
          Post ⟨X.K, C, ca⟩ ρ H (relD X.K) (fun c d H' => W c d σ H') Q (bnd (lcGo pp.2 F (pp.1.drop (i + 1)) acc hc) fun ys h4 => alloc (.lst ys) h4), fun H' q => ⟨pp.1.length - (i + 1), by omega, rfl, hlt, q⟩, fun v H' yl => ?_⟩
        obtain ⟨xy, wy, rv⟩ := hy v H' yl
        have eA' : H' A = some (.lst vs) := xy.frame A _ eA nc
        have rc' := wc.rvs xy rc
        have xc' := xc.trans xy
        have er' : EnvR X.K ρc H' (wipe σ own) (wipeD env own) := (er.fwd w (z.trans xy)).wipe own
        cases ea : asgT tg pp.1[i] (wipeD env own) with
        | none =>
          rw [← hF] at pc
          dsimp only at pc
          rw [ea] at pc
          exact pc.elim
        | some env2 =>
          refine ⟨ρc, hc, pp.1[i], wipeD env own, env2, wy, er', rv, ea, fun σ2 er2 hw => ⟨(hw own h3).trans (wipe_wipe σ own), ?_⟩⟩
          have eF : F pp.1[i] hc = bnd (evt call c env2 hc) fun b h2 => if b = true then bnd (ev call elt env2 h2) fun y h3 => some (R.ok (some y) h3) else some (R.ok none h2) := by
            rw [← hF]
            dsimp only
            rw [ea]
          rw [eF] at pc
          refine ⟨ρc, hc, env2, wy, er2, ?_⟩
          cases eb : evt call c env2 hc with
          | none => rw [eb] at pc; exact pc.elim
          | some r =>
            rw [eb] at pc
            cases r with
            | exc c0 fs h2 => exact pc.elim
            | ok b h2 =>
              intro ρ2 H2 b' x2 w2 hb
              have hb' : b' = b := hb
              subst hb'
              rw [bnd_ok] at pc
              have nA2 : A ∉ ρ2 := notin_fwd x2 nc (by rw [eA']; simp)
              have eA2 : H2 A = some (.lst vs) := x2.frame A _ eA' nc
              have rc2 := wy.rvs x2 rc'
              cases b' with
              | false =>
                rw [if_neg (by decide)] at pc ⊢
                exact ⟨ρ2, h2, acc, vs, xc'.trans x2, w2, nA2, eA2, rc2, pc⟩
              | true =>
                rw [if_pos rfl] at pc ⊢
                refine ⟨ρ2, h2, env2, w2, er2.fwd wy x2, ?_⟩
                cases ee : ev call elt env2 h2 with
                | none => rw [ee] at pc; exact pc.elim
                | some r =>
                  rw [ee] at pc
                  cases r with
                  | exc c0 fs h3 => exact pc.elim
                  | ok y h3 =>
                    intro ρ3 H3 u x3 w3 ru
                    rw [bnd_ok] at pc
                    dsimp only at pc
                    have eA3 : H3 A = some (.lst vs) := x3.frame A _ eA2 nA2
                    have nA3 : A ∉ ρ3 := notin_fwd x3 nA2 (by rw [eA2]; simp)
                    have rc3 := w2.rvs x3 rc2
                    by_cases hl : acc.length < lim
                    · rw [if_pos hl] at pc
                      have ts := TS'.wr (K := X.K) (u' := .lst (vs ++ [u])) eA3 trivial
                      refine ⟨vs, eA3, by rw [rc3.len, ← lim_eq]; exact hl, ρ3, h3, acc ++ [y], vs ++ [u], ((xc'.trans x2).trans x3).side' nA, w3.side' nA3 eA3 trivial, nA3, upd_same, ?_, pc⟩
                      exact RVs.mono ts (fun _ _ e => e) _ _ (rc3.append (RVs.one ru))
                    · rw [if_neg hl] at pc
                      exact pc.elim
      · rw [if_neg hk] at pc
        exact pc.elim
    · -- the end
      left
      have hi' : i = pp.1.length := by omega
      subst hi'
      rw [List.drop_length] at pc
      unfold lcGo at pc
      by_cases hk : chk pp.2 hc = true
      · rw [if_pos hk, bnd_ok] at pc
        refine ⟨(hJ ρc hc Hc xc wc hk).2, ?_⟩
        obtain ⟨wa, ra⟩ := wc.adopt nc eA rc
        exact pc.ok (z.named nA0) wa ra
      · rw [if_neg hk] at pc
        exact pc.elim
  · cases h
theorem snd_lc {own : List Nat} {tg it c elt : E} (ihi : SndE C ca call k it) (ihc : SndE C ca call k c) (ihe : SndE C ca call k elt) : SndE C ca call k (.lc own tg it c elt) := .onlyE (fun Γ X W x o h => by
  obtain ⟨elt', tg', it', ifs, scope, pos, rfl, h1, h2, h3, h4, h5, h6, h7⟩ := lc_parts ihi ihc ihe o h
  exact PE.imp (pe_lc o.hc (by rw [o.hN]; exact o.nd) h1 h2 h3 h4 h5 (plain_set h6 _)) h7) (fun _ x => by cases x <;> rfl) (fun _ x => by cases x <;> rfl) (fun _ x => by cases x <;> rfl) (fun _ tg x => by cases tg <;> cases x <;> rfl)
theorem ckE_dc {Γ x own t tg it c a b} : ckE (.dc own t tg it c a b) Γ x = match x with | .DictComp a' b' [⟨tg', it', ifs, n⟩] scope _ => decide (n = 0) && blkC Γ.N Γ.sc scope (ownN Γ.N own) && tgIn own tg && ckI it Γ tg' it' && plainX it' && ckG { Γ with sc := relS scope Γ.sc, ts := scope } tg tg' && ckE a { Γ with sc := relS scope Γ.sc, ts := scope } a' && ckE b { Γ with sc := relS scope Γ.sc, ts := scope } b' && (match ifs with | [] => (match c with | .omit => true | _ => false) | [c'] => ckT c { Γ with sc := relS scope Γ.sc, ts := scope } c' | _ => false) | _ => false := by
  cases x <;> try rfl
  rename_i e e2 gs s p
  cases gs <;> try rfl
  rename_i g gs
  cases g
  cases gs <;> rfl
theorem dc_parts {own : List Nat} {t : Bool} {tg it c a b : E} (ihi : SndE C ca call k it) (ihc : SndE C ca call k c) (iha : SndE C ca call k a) (ihb : SndE C ca call k b) {Γ : Gm} {X : Cx} {W : WX} {x : PySem.Expr} (o : XOk C ca call k Γ X W) (h : ckE (.dc own t tg it c a b) Γ x = true) :
    ∃ a' b' tg' it' ifs scope pos, x = .DictComp a' b' [⟨tg', it', ifs, 0⟩] scope pos ∧ PI X tg' it' (tI X.K C ca call W it) ∧ BlkOk X.N X.env.scope scope (ownN Γ.N own) ∧
      (∀ (s : Shared) (H : Hp) (cC : Addr) (cl : List (Str × Addr)) (fp : List Addr), PG (X.blk s H scope (compEnvC scope cl cC X.env) fp) tg' (tG X.K tg)) ∧
      (∀ (s : Shared) (H : Hp) (cC : Addr) (cl : List (Str × Addr)) (fp : List Addr), PTs (X.blk s H scope (compEnvC scope cl cC X.env) fp) ifs (tT X.K C ca call (fun _ _ _ _ => False) c)) ∧
      (∀ (s : Shared) (H : Hp) (cC : Addr) (cl : List (Str × Addr)) (fp : List Addr), PE (X.blk s H scope (compEnvC scope cl cC X.env) fp) a' (tE X.K C ca call (fun _ _ _ _ => False) a)) ∧
      (∀ (s : Shared) (H : Hp) (cC : Addr) (cl : List (Str × Addr)) (fp : List Addr), PE (X.blk s H scope (compEnvC scope cl cC X.env) fp) b' (tE X.K C ca call (fun _ _ _ _ => False) b)) ∧ plainX it' = true ∧
      ∀ σ H Q, tE X.K C ca call W (.dc own t tg it c a b) σ H Q → tDcX t (tI X.K C ca call W it) (tG X.K tg) (tT X.K C ca call (fun _ _ _ _ => False) c) (tE X.K C ca call (fun _ _ _ _ => False) a) (tE X.K C ca call (fun _ _ _ _ => False) b) ((ownN Γ.N own).map (·.2)) σ H Q := by
  rw [ckE_dc] at h
  split at h
  · rename_i a' b' tg' it' ifs n scope pos
    simp only [Bool.and_eq_true, decide_eq_true_eq] at h
    obtain ⟨⟨⟨⟨⟨⟨⟨⟨rfl, h2⟩, h3⟩, h4⟩, h5⟩, h6⟩, h7⟩, h7b⟩, h8⟩ := h
    have bo : BlkOk X.N X.env.scope scope (ownN Γ.N own) := by
      rw [o.hN, o.sc]; exact blkOk_by h2
    have hg : ∀ (s : Shared) (H : Hp) (cC : Addr) (cl : List (Str × Addr)) (fp : List Addr), PG (X.blk s H scope (compEnvC scope cl cC X.env) fp) tg' (tG X.K tg) := fun s H cC cl fp =>
      (tg_ok (o.blk s H scope cl cC fp) tg).1 tg' h6
    have ha : ∀ (s : Shared) (H : Hp) (cC : Addr) (cl : List (Str × Addr)) (fp : List Addr), PE (X.blk s H scope (compEnvC scope cl cC X.env) fp) a' (tE X.K C ca call (fun _ _ _ _ => False) a) := fun s H cC cl fp =>
      iha.e _ _ _ _ (o.blk s H scope cl cC fp) h7
    have hb : ∀ (s : Shared) (H : Hp) (cC : Addr) (cl : List (Str × Addr)) (fp : List Addr), PE (X.blk s H scope (compEnvC scope cl cC X.env) fp) b' (tE X.K C ca call (fun _ _ _ _ => False) b) := fun s H cC cl fp =>
      ihb.e _ _ _ _ (o.blk s H scope cl cC fp) h7b
    have ht : ∀ (s : Shared) (H : Hp) (cC : Addr) (cl : List (Str × Addr)) (fp : List Addr), PTs (X.blk s H scope (compEnvC scope cl cC X.env) fp) ifs (tT X.K C ca call (fun _ _ _ _ => False) c) := fun s H cC cl fp => by
      split at h8
      · split at h8
        · refine PTs.imp pts_nil ?_
          rintro σ H Q ⟨ρ, hh, env, w, er, p⟩
          exact p.ok Xt.refl w rfl
        · cases h8
      · exact pts_one (ihc.t _ _ _ _ (o.blk s H scope cl cC fp) h8).1
      · cases h8
    refine ⟨a', b', tg', it', ifs, scope, pos, rfl, ihi.i Γ X W tg' it' o h4, bo, hg, ht, ha, hb, h5, ?_⟩
    rintro σ H Q ⟨ρ, hh, env, w, er, p⟩
    refine ⟨ρ, hh, env, w, er, p.bndX Xt.refl fun pp h1 ρ1 H1 J p1 y1 z1 w1 hJ => ?_⟩
    rw [own_snd]
    intro B nB
    have nB0 : H B = none := by
      cases q : H B with
      | none => rfl
      | some u => exact absurd nB (z1.keep B (by rw [q]; simp))
    generalize hF : (fun (x : D) (h : List O) => match asgT tg x (wipeD env own) with
        | some env2 => bnd (evt call c env2 h) fun q h2 => if q = true then bnd (ev call a env2 h2) fun y h3 => bnd (ev call b env2 h3) fun z h4 => some (R.ok (some (y, z)) h4) else some (R.ok none h2)
        | none => none) = F at p1
    refine ⟨fun i m Hc => m = pp.1.length - i ∧ i ≤ pp.1.length ∧ ∃ ρc hc acc, Xt ρ1 H1 ρc Hc ∧ Wd X.K ρc hc Hc ∧ B ∉ ρc ∧ DAt X.K ρc Hc B t acc ∧
      Post ⟨X.K, C, ca⟩ ρ H (relD X.K) (fun c d H' => W c d σ H') Q (bnd (dcGo pp.2 t F (pp.1.drop i) acc hc) fun ys h4 => alloc (.dct false t ys) h4), ⟨pp.1.length, by simp, Nat.zero_le _, ρ1, h1, [], ?_⟩, ?_⟩
    · exact ⟨xt_new nB, w1.new nB, fun m => w1.there m nB, .empty upd_same, p1⟩
    rintro i m Hc ⟨rfl, hi, ρc, hc, acc, xc, wc, nc, dc, pc⟩
    have z : Xt ρ H ρc Hc := z1.trans xc
    by_cases hlt : i < pp.1.length
    · right
      have hx : pp.1[i]? = some pp.1[i] := List.getElem?_eq_getElem hlt
      rw [List.drop_eq_getElem_cons hlt] at pc
      unfold dcGo at pc
      by_cases hk : chk pp.2 hc = true
      · rw [if_pos hk] at pc
        obtain ⟨hgo, _⟩ := hJ ρc hc Hc xc wc hk
        obtain ⟨hgo, hy⟩ := hgo i _ hx
        refine ⟨hgo, fun H' => ∃ ρc hc acc, Xt ρ1 H1 ρc H' ∧ Wd X.K ρc hc H' ∧ B ∉ ρc ∧ DAt X.K ρc H' B t acc ∧
          Post ⟨X.K, C, ca⟩ ρ H (relD X.K) (fun c d H' => W c d σ H') Q (bnd (dcGo pp.2 t F (pp.1.drop (i + 1)) acc hc) fun ys h4 => alloc (.dct false t ys) h4), fun H' q => ⟨pp.1.length - (i + 1), by omega, rfl, hlt, q⟩, fun v H' yl => ?_⟩
        obtain ⟨xy, wy, rv⟩ := hy v H' yl
        obtain ⟨u0, eB, mB⟩ := dc.there
        have eB' : H' B = some u0 := xy.frame B _ eB nc
        have dc' : DAt X.K ρc H' B t acc := dc.mono (wc.tups xy) xy.get (by rw [eB', eB])
        have xc' := xc.trans xy
        have er' : EnvR X.K ρc H' (wipe σ own) (wipeD env own) := (er.fwd w (z.trans xy)).wipe own
        cases ea : asgT tg pp.1[i] (wipeD env own) with
        | none =>
          rw [← hF] at pc
          dsimp only at pc
          rw [ea] at pc
          exact pc.elim
        | some env2 =>
          refine ⟨ρc, hc, pp.1[i], wipeD env own, env2, wy, er', rv, ea, fun σ2 er2 hw => ⟨(hw own h3).trans (wipe_wipe σ own), ?_⟩⟩
          have eF : F pp.1[i] hc = bnd (evt call c env2 hc) fun q h2 => if q = true then bnd (ev call a env2 h2) fun y h3 => bnd (ev call b env2 h3) fun z h4 => some (R.ok (some (y, z)) h4) else some (R.ok none h2) := by
            rw [← hF]
            dsimp only
            rw [ea]
          rw [eF] at pc
          refine ⟨ρc, hc, env2, wy, er2, ?_⟩
          cases eb : evt call c env2 hc with
          | none => rw [eb] at pc; exact pc.elim
          | some r =>
            rw [eb] at pc
            cases r with
            | exc c0 fs h2 => exact pc.elim
            | ok q0 h2 =>
              intro ρ2 H2 q' x2 w2 hb
              have hb' : q' = q0 := hb
              subst hb'
              rw [bnd_ok] at pc
              have nB2 : B ∉ ρ2 := notin_fwd x2 nc (by rw [eB']; simp)
              have eB2 : H2 B = some u0 := x2.frame B _ eB' nc
              have dc2 : DAt X.K ρ2 H2 B t acc := dc'.mono (wy.tups x2) x2.get (by rw [eB2, eB'])
              cases q' with
              | false =>
                rw [if_neg (by decide)] at pc ⊢
                exact ⟨ρ2, h2, acc, xc'.trans x2, w2, nB2, dc2, pc⟩
              | true =>
                rw [if_pos rfl] at pc ⊢
                refine ⟨ρ2, h2, env2, w2, er2.fwd wy x2, ?_⟩
                cases ee : ev call a env2 h2 with
                | none => rw [ee] at pc; exact pc.elim
                | some r =>
                  rw [ee] at pc
                  cases r with
                  | exc c0 fs h3 => exact pc.elim
                  | ok y h3 =>
                    intro ρ3 H3 uy x3 w3 ry
                    rw [bnd_ok] at pc
                    refine ⟨ρ3, h3, env2, w3, (er2.fwd wy x2).fwd w2 x3, ?_⟩
                    cases e4 : ev call b env2 h3 with
                    | none => rw [e4] at pc; exact pc.elim
                    | some r =>
                      rw [e4] at pc
                      cases r with
                      | exc c0 fs h4 => exact pc.elim
                      | ok zv h4 =>
                        intro ρ4 H4 uz x4 w4 rz
                        rw [bnd_ok] at pc
                        dsimp only at pc
                        have x24 := x3.trans x4
                        have nB4 : B ∉ ρ4 := notin_fwd x24 nB2 (by rw [eB2]; simp)
                        have eB4 : H4 B = some u0 := x24.frame B _ eB2 nB2
                        have dc4 : DAt X.K ρ4 H4 B t acc := dc2.mono (w2.tups x24) x24.get (by rw [eB4, eB2])
                        split at pc
                        · rename_i hl
                          simp only [Bool.and_eq_true, decide_eq_true_eq] at hl
                          obtain ⟨u', dp, dn⟩ := dc4.put hl.1 (by rw [← lim_eq]; exact hl.2) (w3.rv x4 ry) rz
                          exact ⟨_, dp, ρ4, h4, _, ((xc'.trans x2).trans x24).side' nB, w4.side' nB4 eB4 mB, nB4, dn, pc⟩
                        · exact pc.elim
      · rw [if_neg hk] at pc
        exact pc.elim
    · left
      have hi' : i = pp.1.length := by omega
      subst hi'
      rw [List.drop_length] at pc
      unfold dcGo at pc
      by_cases hk : chk pp.2 hc = true
      · rw [if_pos hk, bnd_ok] at pc
        refine ⟨(hJ ρc hc Hc xc wc hk).2, ?_⟩
        obtain ⟨wa, ra⟩ := wc.adoptO nc (dc.mono TS'.refl pre_app rfl).or
        exact pc.ok (z.named nB0) wa ra
      · rw [if_neg hk] at pc
        exact pc.elim
  · cases h
theorem snd_dc {own : List Nat} {t : Bool} {tg it c a b : E} (ihi : SndE C ca call k it) (ihc : SndE C ca call k c) (iha : SndE C ca call k a) (ihb : SndE C ca call k b) : SndE C ca call k (.dc own t tg it c a b) := .onlyE (fun Γ X W x o h => by
  obtain ⟨a', b', tg', it', ifs, scope, pos, rfl, h1, h2, h3, h4, h5, h5b, h6, h7⟩ := dc_parts ihi ihc iha ihb o h
  have hu1 : X.A.units + 1 < cLine := by have := o.hu; omega
  exact PE.imp (pe_dcX t hu1 o.hc (by rw [o.hN]; exact o.nd) h1 h2 h3 h4 h5 h5b (plain_set h6 _)) h7) (fun _ x => by cases x <;> rfl) (fun _ x => by cases x <;> rfl) (fun _ x => by cases x <;> rfl) (fun _ tg x => by cases tg <;> cases x <;> rfl)
/-- nothing of the text is tied to it -/
theorem SndE.no {ir : E} (he : ∀ Γ x, ckE ir Γ x = false) (hs : ∀ Γ x, ckEs ir Γ x = false) (ho : ∀ Γ x, ckO ir Γ x = false) (ht : ∀ Γ x, ckT ir Γ x = false) (hi : ∀ Γ tg x, ckI ir Γ tg x = false) (hk : ∀ Γ ks vs, ckK ir Γ ks vs = false := by intro _ _ _; rfl) : SndE C ca call k ir :=
  ⟨fun Γ X W x _ h => ff h (he Γ x), fun Γ X W x _ h => ff h (hs Γ x), fun Γ X W x _ h => ff h (ho Γ x), fun Γ X W x _ h => ff h (ht Γ x), fun Γ X W tg x _ h => ff h (hi Γ tg x), fun Γ X W ks vs pos _ h => ff h (hk Γ ks vs)⟩
theorem SndC.no {ir : E} (hn : ∀ Γ x, isCmp x = true → ckE ir Γ x = false) : SndC C ca call k ir := fun Γ X W x _ h hc => ff h (hn Γ x hc)
theorem snd_all : ∀ ir : E, SndE C ca call k ir ∧ SndC C ca call k ir := by
  intro ir
  induction ir with
  | nil => exact ⟨snd_nil, .no fun _ x hc => by cases x <;> first | rfl | cases hc⟩
  | cons a b iha ihb => exact ⟨snd_cons iha.1 ihb.1, .no fun _ x hc => by cases x <;> first | rfl | cases hc⟩
  | «omit» => exact ⟨snd_omit, .no fun _ x hc => by cases x <;> first | rfl | cases hc⟩
  | non => exact ⟨snd_non, .no fun _ x hc => by cases x <;> first | rfl | cases hc⟩
  | bl b => exact ⟨snd_bl, .no fun _ x hc => by cases x <;> first | rfl | cases hc⟩
  | int i => exact ⟨snd_int, .no fun _ x hc => by cases x <;> first | rfl | cases hc⟩
  | str s => exact ⟨snd_str, .no fun _ x hc => by cases x <;> first | rfl | cases hc⟩
  | slot i => exact ⟨snd_slot, .no fun _ x hc => by cases x <;> first | rfl | cases hc⟩
  | con d x => exact ⟨snd_con, .no fun _ x hc => by cases x <;> first | rfl | cases hc⟩
  | bin op a b iha ihb => exact ⟨snd_bin iha.1 ihb.1, .no fun _ x hc => by cases x <;> first | rfl | cases hc⟩
  | neg a iha => exact ⟨snd_neg iha.1, .no fun _ x hc => by cases x <;> first | rfl | cases hc⟩
  | cmp op a b iha ihb => exact snd_cmp iha.1 ihb.1
  | chn op1 op2 a b c iha ihb ihc => exact snd_chn iha.1 ihb.1 ihc.1
  | and a b iha ihb => exact ⟨snd_and iha.1 ihb.1, .no fun _ x hc => by cases x <;> first | rfl | cases hc⟩
  | or a b iha ihb => exact ⟨snd_or iha.1 ihb.1, .no fun _ x hc => by cases x <;> first | rfl | cases hc⟩
  | nt a iha => exact ⟨snd_nt iha.1, .no fun _ x hc => by cases x <;> first | rfl | cases hc⟩
  | ntv a iha => exact ⟨snd_ntv iha.1, .no fun _ x hc => by cases x <;> first | rfl | cases hc⟩
  | ifx c a b ihc iha ihb => exact ⟨snd_ifx ihc.1 iha.1 ihb.1, .no fun _ x hc => by cases x <;> first | rfl | cases hc⟩
  | tup es ih => exact ⟨snd_tup ih.1, .no fun _ x hc => by cases x <;> first | rfl | cases hc⟩
  | lst es ih => exact ⟨snd_lst ih.1, .no fun _ x hc => by cases x <;> first | rfl | cases hc⟩
  | ix a b iha ihb => exact ⟨snd_ix iha.1 ihb.1, .no fun _ x hc => by cases x <;> first | rfl | cases hc⟩
  | sl a lo hi iha ihl ihu => exact ⟨snd_sl iha.1 ihl.1 ihu.1, .no fun _ x hc => by cases x <;> first | rfl | cases hc⟩
  | call f es ds ih => exact ⟨snd_call ih.1, .no fun _ x hc => by cases x <;> first | rfl | cases hc⟩
  | bi b es ih => exact ⟨snd_bi ih.1, .no fun _ x hc => by cases x <;> first | rfl | cases hc⟩
  | isi a t iha => exact ⟨snd_isi iha.1, .no fun _ x hc => by cases x <;> first | rfl | cases hc⟩
  | mt m o es iho ihs => exact ⟨snd_mt iho.1 ihs.1, .no fun _ x hc => by cases x <;> first | rfl | cases hc⟩
  | lc own tg it c elt _ ihi ihc ihe => exact ⟨snd_lc ihi.1 ihc.1 ihe.1, .no fun _ x hc => by cases x <;> first | rfl | cases hc⟩
  | rng es ih => exact ⟨snd_rng ih.1, .no fun _ x hc => by cases x <;> first | rfl | cases hc⟩
  | enu a iha => exact ⟨snd_enu iha.1, .no fun _ x hc => by cases x <;> first | rfl | cases hc⟩
  | zip a b iha ihb => exact ⟨snd_zip iha.1 ihb.1, .no fun _ x hc => by cases x <;> first | rfl | cases hc⟩
  | tru a iha => exact ⟨snd_tru iha.1 iha.2, .no fun _ x hc => by cases x <;> first | rfl | cases hc⟩
  | itr a iha => exact ⟨snd_itr iha.1, .no fun _ x hc => by cases x <;> first | rfl | cases hc⟩
  | dnew t => exact ⟨snd_dnew, .no fun _ x hc => by cases x <;> first | rfl | cases hc⟩
  | kv a b r iha ihb ihr => exact ⟨snd_kv iha.1 ihb.1 ihr.1, .no fun _ x hc => by cases x <;> first | rfl | cases hc⟩
  | dsp t kvs ih => exact ⟨snd_dsp ih.1, .no fun _ x hc => by cases x <;> first | rfl | cases hc⟩
  | dc own t tg it c a b _ ihi ihc iha ihb => exact ⟨snd_dc ihi.1 ihc.1 iha.1 ihb.1, .no fun _ x hc => by cases x <;> first | rfl | cases hc⟩
  | dit a iha => exact ⟨snd_dit iha.1, .no fun _ x hc => by cases x <;> first | rfl | cases hc⟩
  | lck i a iha => exact ⟨snd_lck iha.1, .no fun _ x hc => by rw [ckE_lck, hc]; simp⟩
  | rev a iha => exact ⟨snd_rev iha.1, .no fun _ x hc => by cases x <;> first | rfl | cases hc⟩
  | tsub a b iha ihb => exact ⟨.no (fun _ x => by cases x <;> rfl) (fun _ x => by cases x <;> rfl) (fun _ x => by cases x <;> rfl) (fun _ x => by cases x <;> rfl) (fun _ tg x => by cases tg <;> cases x <;> rfl), .no fun _ x hc => by cases x <;> first | rfl | cases hc⟩
  | fld x => exact ⟨.no (fun _ x => by cases x <;> rfl) (fun _ x => by cases x <;> rfl) (fun _ x => by cases x <;> rfl) (fun _ x => by cases x <;> rfl) (fun _ tg x => by cases tg <;> cases x <;> rfl), .no fun _ x hc => by cases x <;> first | rfl | cases hc⟩
  | isx c => exact ⟨.no (fun _ x => by cases x <;> rfl) (fun _ x => by cases x <;> rfl) (fun _ x => by cases x <;> rfl) (fun _ x => by cases x <;> rfl) (fun _ tg x => by cases tg <;> cases x <;> rfl), .no fun _ x hc => by cases x <;> first | rfl | cases hc⟩
  | kin x cs => exact ⟨.no (fun _ x => by cases x <;> rfl) (fun _ x => by cases x <;> rfl) (fun _ x => by cases x <;> rfl) (fun _ x => by cases x <;> rfl) (fun _ tg x => by cases tg <;> cases x <;> rfl), .no fun _ x hc => by cases x <;> first | rfl | cases hc⟩
  | bad => exact ⟨.no (fun _ x => by cases x <;> rfl) (fun _ x => by cases x <;> rfl) (fun _ x => by cases x <;> rfl) (fun _ x => by cases x <;> rfl) (fun _ tg x => by cases tg <;> cases x <;> rfl), .no fun _ x hc => by cases x <;> first | rfl | cases hc⟩
end
end Mini
end

section
/-! Mini: the checker for statements, their soundness (own work). -/
namespace Mini
open PySem PySem.Spec PyProof.Rows L2

mutual
/-- a statement's target -/
def ckD (Γ : Gm) : E → PySem.Expr → Bool
  | .slot i, .Name x _ => decide (Γ.N[i]? = some x) && locS Γ.ts x
  | .tup es, .Tuple ts _ _ => ckDs Γ es ts
  | .tsub a b, .Subscript a' b' _ => ckE a Γ a' && ckE b Γ b' && plainX b'
  | _, _ => false
def ckDs (Γ : Gm) : E → List PySem.Expr → Bool
  | .nil, [] => true
  | .cons a b, t :: ts => ckD Γ a t && plainX t && ckDs Γ b ts
  | _, _ => false
end
def isComp : PySem.Expr → Bool
  | .ListComp .. => true
  | .SetComp .. => true
  | .DictComp .. => true
  | _ => false
def isTupX : PySem.Expr → Bool
  | .Tuple .. => true
  | _ => false
def isNm : PySem.Expr → Bool
  | .Name .. => true
  | _ => false
/-- the store of a comprehension's name happens within its frame -/
def swB (Γ : Gm) (y : Str) (py : Pos) : PySem.Expr → Bool
  | .ListComp _ _ scope pos => decide (Γ.sc.names.lookup y = some .local) && py.line == pos.line && !(scope.names.any fun (n, k) => n == y && (k == .local || k == .cell))
  | _ => false
/-- no local name -/
def noLoc (sc : Scope) : PySem.Expr → Bool
  | .Name x _ => !decide (sc.names.lookup x = some .local)
  | _ => true
/-- the stores of a tuple in the order of the text -/
def noSw (Γ : Gm) : PySem.Expr → PySem.Expr → Bool
  | .Tuple ts _ _, .Tuple _ _ _ => ts.any (noLoc Γ.sc)
  | _, _ => true
/-- the two names of a pair assignment -/
def ckPar (Γ : Gm) (i j : Nat) : List PySem.Expr → Bool
  | [.Name x p, .Name y q] => decide (Γ.N[i]? = some x) && decide (Γ.N[j]? = some y) && decide (i ≠ j) && decide (Γ.sc.names.lookup x = some .local) && decide (Γ.sc.names.lookup y = some .local) && decide (x ≠ y) && p.line == q.line
  | _ => false
/-- the exception's own name, in a suite -/
def isEn (en : Str) : PySem.Expr → Bool
  | .Name n _ => n == en
  | _ => false
/-- isinstance(e, y) -/
def ckIs (Γ : Gm) (en : Str) (a : Nat) : PySem.Expr → Bool
  | .Call (.Name x _) [o, .Name y _] [] _ => x == ("isinstance" : Str) && isEn en o && glb Γ.sc x && glb Γ.sc y && !dbg y && Γ.cls.any fun p => p.1 == y && p.2.1 == a
  | _ => false
/-- f(e) -/
def ckKin (Γ : Gm) (en : Str) (f : Str) (cs : List Nat) : PySem.Expr → Bool
  | .Call (.Name x _) [o] [] _ => x == f && glb Γ.sc x && !dbg x && isEn en o && Γ.kin.any fun p => p.1 == x && p.2 == cs
  | _ => false
/-- [] -/
def ckNil : PySem.Expr → Bool
  | .List [] _ => true
  | _ => false
mutual
/-- an except suite's value -/
def ckX (Γ : Gm) (en : Str) : E → PySem.Expr → Bool
  | .non, .Constant .none _ _ => true
  | .bl b, .Constant (.bool c) _ _ => b == c
  | .int i, .Constant (.int j) _ _ => i == j
  | .str s, .Constant (.str t) _ _ => s == t
  | .fld x, .Attribute o y _ => isEn en o && x == y
  | .isx a, e => ckIs Γ en a e
  | .kin f cs, e => ckKin Γ en f cs e
  | .lst .nil, e => ckNil e
  | .tup es, .Tuple ts _ _ => ckXs Γ en es ts
  | .ifx k a b, .IfExp k' a' b' _ => ckXT Γ en k k' && ckX Γ en a a' && ckX Γ en b b'
  | _, _ => false
def ckXs (Γ : Gm) (en : Str) : E → List PySem.Expr → Bool
  | .nil, [] => true
  | .cons a b, t :: ts => ckX Γ en a t && plainX t && ckXs Γ en b ts
  | _, _ => false
def ckXT (Γ : Gm) (en : Str) : E → PySem.Expr → Bool
  | .and a b, .BoolOp .And [a', b'] _ => ckXT Γ en a a' && ckXT Γ en b b'
  | .isx a, e => ckIs Γ en a e
  | _, _ => false
end
/-- a clause's class -/
def ckHt (Γ : Gm) (a : Nat) : PySem.Expr → Bool
  | .Name x _ => glb Γ.sc x && !dbg x && Γ.cls.any fun p => p.1 == x && p.2.1 == a && p.2.2 == 0
  | _ => false
/-- a clause's suite -/
def ckHs (Γ : Gm) (n : Str) (e : E) : PySem.Stmt → Bool
  | .Return (some v) _ => ckX Γ n e v
  | _ => false
/-- a clause -/
def ckHd (Γ : Gm) (a i : Nat) (e : E) : ExceptHandler → Bool
  | .ExceptHandler (some t) (some n) [s] _ => ckHt Γ a t && decide (Γ.N[i]? = some n) && decide (Γ.sc.names.lookup n = some .local) && !dbg n && !(n == ("__classdict__" : Str)) && ckHs Γ n e s
  | _ => false
/-- the clauses of a try -/
def ckH (Γ : Gm) : S → List ExceptHandler → Bool
  | .hnil, [] => true
  | .hcons a i e hs, hd :: r => ckHd Γ a i e hd && ckH Γ hs r
  | _, _ => false
/-- an item of a subscript, in place -/
def ckA (Γ : Gm) (a i : E) : PySem.Expr → Bool
  | .Subscript a' i' _ => ckE a Γ a' && ckE i Γ i' && plainX i'
  | _ => false
def isLck : E → Bool
  | .lck _ _ => true
  | _ => false
mutual
def ckS : S → Gm → PySem.Stmt → Bool
  | .asg tg e, Γ, .Assign [t] v _ => ckE e Γ v && ckD Γ tg t && plainX t && noSw Γ t v && !(isLck e && isComp v)
  | .par i j es, Γ, .Assign [.Tuple ts _ _] (.Tuple vs _ _) _ => (match vs with
    | [a, b] => plainX a && plainX b && !(foldedForSure 8 a && foldedForSure 8 b) && !(constantsAlone 8 a && constantsAlone 8 b)
    | _ => false) && ckPar Γ i j ts && ckEs es Γ vs
  | .augS a i op e, Γ, .AugAssign t op' v _ => decide (op = op') && ckA Γ a i t && ckE e Γ v
  | .raise c es, Γ, .Raise (some (.Call (.Name x _) ts [] _)) none _ => glb Γ.sc x && !dbg x && (Γ.cls.any fun p => p.1 == x && p.2.1 == c && p.2.2 == 0) && !ts.isEmpty && ckEs es Γ ts
  | .try b hs, Γ, .Try b' hds [] [] _ => ckSs b Γ b' && ckH Γ hs hds && !hds.isEmpty
  | .aug i op e, Γ, .AugAssign (.Name x _) op' v _ => decide (op = op') && decide (Γ.N[i]? = some x) && locS Γ.ts x && ckE e Γ v
  | .ex e, Γ, .Expr v _ => ckE e Γ v && !isComp v
  | .ite c a b, Γ, .If c' a' b' _ => ckT c Γ c' && ckSs a Γ a' && ckSs b Γ b'
  | .for tg it b, Γ, .For t i b' [] _ => ckG Γ tg t && ckI it Γ t i && plainX i && ckSs b Γ b'
  | .while c b, Γ, .While c' b' [] _ => ckT c Γ c' && ckSs b Γ b'
  | .lock _ b, Γ, t => ckS b Γ t
  | .brk, _, .Break _ => true
  | .cnt, _, .Continue _ => true
  | .ret e, Γ, .Return (some v) _ => ckE e Γ v
  | .retN, _, .Return none _ => true
  | .nil, _, .Pass _ => true
  | .bad, _, _ => true
  | _, _, _ => false
def ckSs : S → Gm → List PySem.Stmt → Bool
  | .nil, _, [] => true
  | .seq a b, Γ, t :: ts => ckS a Γ t && ckSs b Γ ts
  | _, _, _ => false
end
section
variable (K : PySem.W.Frag) (C : List Cl) (ca : Nat → Addr) (call : Caller) (W : WX)
def PostS (ρ : List Addr) (H : Hp) (D : Ends) : Option RS → Prop
  | none => False
  | some (.fl (.nx e) h') => ∀ ρ' H' σ', Xt ρ H ρ' H' → Wd K ρ' h' H' → EnvR K ρ' H' σ' e → D.nx σ' H'
  | some (.fl (.bk e) h') => ∀ ρ' H' σ', Xt ρ H ρ' H' → Wd K ρ' h' H' → EnvR K ρ' H' σ' e → D.bk σ' H'
  | some (.fl (.ct e) h') => ∀ ρ' H' σ', Xt ρ H ρ' H' → Wd K ρ' h' H' → EnvR K ρ' H' σ' e → D.ct σ' H'
  | some (.fl (.rt d) h') => ∀ ρ' H' v, Xt ρ H ρ' H' → Wd K ρ' h' H' → RV K ρ' H' v d → D.rt v H'
  | some (.exc c fs e h') => ∀ ρ' H' σ' dd fl, Xt ρ H ρ' H' → Wd K ρ' h' H' → EnvR K ρ' H' σ' e → H' dd = some (.xd fl) → XF K C ρ' H' c fs fl → W (.ref (ca c)) (some dd) σ' H'
def tS (ir : S) : TS := fun D σ H => ∃ ρ h env, Wd K ρ h H ∧ EnvR K ρ H σ env ∧ PostS K C ca W ρ H D (exec call C ir env h)
def tGS (ir : E) : TG := fun v σ H Q => ∃ ρ h d env env' h', Wd K ρ h H ∧ EnvR K ρ H σ env ∧ RV K ρ H v d ∧ asgS call ir d env h = some (env', h') ∧ ∀ ρ' H' σ', Xt ρ H ρ' H' → Wd K ρ' h' H' → EnvR K ρ' H' σ' env' → Q σ' H'
def tGSs (ir : E) : TGs := fun v σ H Q => ∃ ρ h d env env' h', Wd K ρ h H ∧ EnvR K ρ H σ env ∧ RVs K ρ H v d ∧ asgS.asgSs call ir d env h = some (env', h') ∧ ∀ ρ' H' σ', Xt ρ H ρ' H' → Wd K ρ' h' H' → EnvR K ρ' H' σ' env' → Q σ' H'
end
section
variable {K : PySem.W.Frag} {C : List Cl} {ca : Nat → Addr} {W : WX} {ρ ρ1 : List Addr} {H H1 : Hp} {D : Ends}
theorem PostS.fwd {r : Option RS} (x : Xt ρ H ρ1 H1) (p : PostS K C ca W ρ H D r) : PostS K C ca W ρ1 H1 D r := by
  cases r with
  | none => exact p
  | some r =>
    cases r with
    | exc c fs e h' => exact fun ρ' H' σ' dd fl x' w er e1 e2 => p ρ' H' σ' dd fl (x.trans x') w er e1 e2
    | fl f h' =>
      cases f with
      | nx e => exact fun ρ' H' σ' x' w er => p ρ' H' σ' (x.trans x') w er
      | bk e => exact fun ρ' H' σ' x' w er => p ρ' H' σ' (x.trans x') w er
      | ct e => exact fun ρ' H' σ' x' w er => p ρ' H' σ' (x.trans x') w er
      | rt d => exact fun ρ' H' v x' w r => p ρ' H' v (x.trans x') w r
/-- an expression's end within a statement -/
theorem PostS.bns {α β : Type} {rel : Rel α β} {Q1 : β → Hp → Prop} {σ : L2.St} {env : Env} {h1 : List O} {m : Option (R α)} {f : α → List O → Option RS} (x1 : Xt ρ H ρ1 H1) (w1 : Wd K ρ1 h1 H1) (er : EnvR K ρ1 H1 σ env) (p : PostS K C ca W ρ H D (Mini.bns m env f))
    (k : ∀ a h2 ρ2 H2 b, PostS K C ca W ρ H D (f a h2) → Xt ρ1 H1 ρ2 H2 → Xt ρ H ρ2 H2 → Wd K ρ2 h2 H2 → EnvR K ρ2 H2 σ env → rel ρ2 H2 b a → Q1 b H2) : Post ⟨K, C, ca⟩ ρ1 H1 rel (fun c d H' => W c d σ H') Q1 m := by
  cases m with
  | none => exact p
  | some r =>
    cases r with
    | ok a h' => exact fun ρ' H' b x' w q => k a h' ρ' H' b p x' (x1.trans x') w (er.fwd w1 x') q
    | exc c fs h' => exact fun ρ' H' dd fl x' w e1 e2 => p ρ' H' σ dd fl (x1.trans x') w (er.fwd w1 x') e1 e2
end
/-! ### targets -/
section
variable {C : List Cl} {ca : Nat → Addr} {call : Caller} {k : Nat}
theorem set_ok {K : PySem.W.Frag} {ρ : List Addr} {H : Hp} {h h' : List O} {o i d : D} {u v z : V} {Q : Hp → Prop} (w : Wd K ρ h H) (ro : RV K ρ H u o) (ri : RV K ρ H v i) (rd : RV K ρ H z d) (e : setI o i d h = some h')
    (q : ∀ H', Xt ρ H ρ H' → Wd K ρ h' H' → Q H') : rSetL u v z H Q ∨ rSetD u v z H Q := by
  have dct : setK o i d h = some h' → rSetL u v z H Q ∨ rSetD u v z H Q := fun e => by
    unfold setK at e
    split at e
    · split at e
      · rename_i t kvs e1
        split at e
        · rename_i hc
          simp only [Bool.and_eq_true, decide_eq_true_eq] at hc
          cases e
          obtain ⟨a, rfl, ea, qd⟩ := is_dct w ro e1
          obtain ⟨H', dp, x1, w1⟩ := dput_at w ea qd hc.1 (by rw [← lim_eq]; exact hc.2) ri rd
          exact .inr ⟨a, H', rfl, dp, q _ x1 w1⟩
        · cases e
      · cases e
    · cases e
  unfold setI at e
  split at e
  · split at e
    · rename_i xs e1
      split at e
      · rename_i j e2
        cases e
        cases ri
        obtain ⟨a, us, rfl, ea, eh, eH, s⟩ := is_lst w ro e1
        obtain ⟨x1, w1⟩ := w.write ea eH (s.set j rd)
        refine .inl ⟨a, us, _, j, rfl, rfl, eH, ?_, q _ x1 w1⟩
        rw [s.len]; exact e2
      · cases e
    · exact dct e
  · exact dct e
theorem PSet.or {X : Cx} {t t' : TSet} (h : PSet X t) (h' : PSet X t') : PSet X (fun o i v H Q => t o i v H Q ∨ t' o i v H Q) := fun pins s σ H o i v ov iv u Q I ro ri rv q => q.elim (h pins s σ H o i v ov iv u Q I ro ri rv) (h' pins s σ H o i v ov iv u Q I ro ri rv)
theorem set_both {X : Cx} (hu : X.A.units + 64 < cLine) : PSet X (fun o i v H Q => rSetL o i v H Q ∨ rSetD o i v H Q) := PSet.or set_list (set_dict (by omega))
theorem sub_assign {a' b' : PySem.Expr} {p : Pos} {env : PySem.Env} (h : plainX b' = true) (v : Value) : assign (.Subscript a' b' p) env v = (do
    let ov ← holding [v] (eval a' env)
    let iv ← holding [v, ov] (eval b' env)
    standAt p
    holding [v, ov, iv] (setItem ov iv v)
    release [v, ov, iv] []) := by
  cases b' <;> first | rfl | cases h
theorem only_ok {α : Type} {m : Option (R α)} {a : α} {h : List O} (e : onlyOk m = some (a, h)) : m = some (.ok a h) := by
  unfold onlyOk at e
  split at e
  · cases e; rfl
  · cases e
theorem ckD_slot {Γ : Gm} {i : Nat} {e : PySem.Expr} : ckD Γ (.slot i) e = match e with | .Name x _ => decide (Γ.N[i]? = some x) && locS Γ.ts x | _ => false := by cases e <;> rfl
theorem ckD_tup {Γ : Gm} {es : E} {e : PySem.Expr} : ckD Γ (.tup es) e = match e with | .Tuple ts _ _ => ckDs Γ es ts | _ => false := by cases e <;> rfl
theorem ckD_tsub {Γ : Gm} {a b : E} {e : PySem.Expr} : ckD Γ (.tsub a b) e = match e with | .Subscript a' b' _ => ckE a Γ a' && ckE b Γ b' && plainX b' | _ => false := by cases e <;> rfl
theorem ckDs_cons {Γ : Gm} {a b : E} {ts : List PySem.Expr} : ckDs Γ (.cons a b) ts = match ts with | t :: ts => ckD Γ a t && plainX t && ckDs Γ b ts | [] => false := by cases ts <;> rfl
theorem ckDs_plain {Γ : Gm} : ∀ {es : E} {ts : List PySem.Expr}, ckDs Γ es ts = true → ts.all plainX = true
  | es, [], _ => rfl
  | es, t :: ts, h => by
    cases es with
    | cons a b =>
      rw [ckDs_cons] at h
      simp only [Bool.and_eq_true] at h
      simp only [List.all_cons, Bool.and_eq_true]
      exact ⟨h.1.2, ckDs_plain h.2⟩
    | _ => cases h
theorem asgSs_len {Γ : Gm} : ∀ (es : E) (xs : List D) (env env2 : Env) (h h2 : List O) (ts : List PySem.Expr), asgS.asgSs call es xs env h = some (env2, h2) → ckDs Γ es ts = true → xs.length = ts.length := by
  intro es
  induction es with
  | nil =>
    intro xs env env2 h h2 ts e1 e2
    cases xs with
    | nil => cases ts with
      | nil => rfl
      | cons t ts => cases e2
    | cons x xs => cases e1
  | cons a b _ ihb =>
    intro xs env env2 h h2 ts e1 e2
    cases xs with
    | nil => cases e1
    | cons x xs =>
      cases ts with
      | nil => cases e2
      | cons t ts =>
        unfold asgS.asgSs at e1
        rw [ckDs_cons] at e2
        simp only [Bool.and_eq_true] at e2
        split at e1
        · rw [List.length_cons, List.length_cons, ihb _ _ _ _ _ _ e1 e2.2]
        · cases e1
  | _ => intro xs env env2 h h2 ts e1; cases e1
theorem tgS_ok {Γ : Gm} {X : Cx} {W : WX} (o : XOk C ca call k Γ X W) : ∀ (ir : E), (∀ e, ckD Γ ir e = true → PG X e (tGS X.K call ir)) ∧ (∀ ts, ckDs Γ ir ts = true → PGs X ts (tGSs X.K call ir)) := by
  intro ir
  induction ir with
  | slot i =>
    refine ⟨fun e h => ?_, fun ts h => (by cases ts <;> cases h)⟩
    rw [ckD_slot] at h
    split at h
    · rename_i x p
      simp only [Bool.and_eq_true, decide_eq_true_eq] at h
      obtain ⟨h1, h2⟩ := o.fnx x h.2
      refine PG.imp (pg_name (i := i) (by rw [o.hN]; exact o.nd) (by rw [o.hN]; exact h.1) h1 h2) ?_
      rintro v σ H Q ⟨ρ, h, d, env, env2, hh, w, er, r, ea, q⟩
      unfold asgS at ea
      split at ea
      · cases ea
        exact q _ _ _ Xt.refl w (er.set r)
      · cases ea
    · cases h
  | tup es ih =>
    refine ⟨fun e h => ?_, fun ts h => (by cases ts <;> cases h)⟩
    rw [ckD_tup] at h
    split at h
    · rename_i ts k' p
      refine PG.imp (pg_tup (n := ts.length) o.hc (ih.2 ts h) len_each (each_star (ckDs_plain h))) ?_
      rintro v σ H Q ⟨ρ, hh, d, env, env2, h2, w, er, r, ea, q⟩
      cases d with
      | tup xs =>
        obtain ⟨a, vs, rfl, hq, s⟩ := r
        refine ⟨a, vs, rfl, sqt hq, ?_, ρ, hh, xs, env, env2, h2, w, er, s, ea, q⟩
        rw [s.len]
        exact asgSs_len es xs env env2 hh h2 ts ea h
      | _ => cases ea
    · cases h
  | nil =>
    refine ⟨fun e h => (by cases e <;> cases h), fun ts h => ?_⟩
    cases ts with
    | nil =>
      refine PGs.imp pgs_nil ?_
      rintro v σ H Q ⟨ρ, hh, d, env, env2, h2, w, er, r, ea, q⟩
      cases d with
      | nil =>
        cases r; cases ea
        exact ⟨rfl, q _ _ _ Xt.refl w er⟩
      | cons x xs => cases ea
    | cons t ts => cases h
  | cons a b iha ihb =>
    refine ⟨fun e h => (by cases e <;> cases h), fun ts h => ?_⟩
    cases ts with
    | nil => cases h
    | cons t ts =>
      rw [ckDs_cons] at h
      simp only [Bool.and_eq_true] at h
      refine PGs.imp (pgs_cons (iha.1 t h.1.1) (ihb.2 ts h.2) (by rw [each_cons h.1.2]; rfl)) ?_
      rintro v σ H Q ⟨ρ, hh, d, env, env2, h2, w, er, r, ea, q⟩
      cases d with
      | nil => cases ea
      | cons x xs =>
        obtain ⟨u, us, rfl, r1, r2⟩ := r
        unfold asgS.asgSs at ea
        split at ea
        · rename_i env' h' e1
          refine ⟨u, us, rfl, ρ, hh, x, env, env', h', w, er, r1, e1, fun ρ2 H2 σ2 x2 w2 er2 => ?_⟩
          exact ⟨ρ2, h', xs, env', env2, h2, w2, er2, w.rvs x2 r2, ea, fun ρ3 H3 σ3 x3 w3 er3 => q ρ3 H3 σ3 (x2.trans x3) w3 er3⟩
        · cases ea
  | tsub a b _ _ =>
    refine ⟨fun e h => ?_, fun ts h => (by cases ts <;> cases h)⟩
    rw [ckD_tsub] at h
    split at h
    · rename_i a' b' p
      simp only [Bool.and_eq_true] at h
      refine PG.imp (pg_sub ((snd_all a).1.e Γ X W _ o h.1.1) ((snd_all b).1.e Γ X W _ o h.1.2) (set_both o.hu) (fun v => sub_assign h.2 v)) ?_
      rintro v σ H Q ⟨ρ, hh, d, env, env2, h2, w, er, r, ea, q⟩
      unfold asgS at ea
      split at ea
      · rename_i x h1 e1
        split at ea
        · rename_i y h3 e2
          split at ea
          · rename_i h4 e3
            cases ea
            refine ⟨ρ, hh, env, w, er, ?_⟩
            rw [only_ok e1]
            intro ρ1 H1 v1 x1 w1 r1
            refine ⟨ρ1, h1, env, w1, er.fwd w x1, ?_⟩
            rw [only_ok e2]
            intro ρ2 H2 v2 x2 w2 r2
            refine set_ok w2 (w1.rv x2 r1) r2 (w.rv (x1.trans x2) r) e3 fun H3 x3 w3 => ?_
            exact q ρ2 H3 σ ((x1.trans x2).trans x3) w3 (er.fwd w ((x1.trans x2).trans x3))
          · cases ea
        · cases ea
      · cases ea
    · cases h
  | _ => exact ⟨fun e h => (by cases e <;> cases h), fun ts h => (by cases ts <;> cases h)⟩
/-! ### statements -/
theorem PS.imp {X : Cx} {s : PySem.Stmt} {t t' : TS} (h : PS X s t) (k : ∀ D σ H, t' D σ H → t D σ H) : PS X s t' := ⟨fun pins s σ H D I q => h.run pins s σ H D I (k _ _ _ q)⟩
theorem PSs.imp {X : Cx} {s : List PySem.Stmt} {t t' : TS} (h : PSs X s t) (k : ∀ D σ H, t' D σ H → t D σ H) : PSs X s t' := ⟨fun pins s σ H D I q => h.run pins s σ H D I (k _ _ _ q)⟩
/-- a def's own frame -/
structure FnX (X : Cx) : Prop where
  kind : X.env.scope.kind = .function
  stk : X.stack = X.env :: X.outer
  frm : X.env.frame = some X.env.locals
structure SndS (C : List Cl) (ca : Nat → Addr) (call : Caller) (k : Nat) (ir : S) : Prop where
  s : ∀ Γ X W x, XOk C ca call k Γ X W → PassesOwn (model X.prog X.w) X.A X.env X.xe → FnX X → ckS ir Γ x = true → PS X x (tS X.K C ca call W ir)
  ss : ∀ Γ X W x, XOk C ca call k Γ X W → PassesOwn (model X.prog X.w) X.A X.env X.xe → FnX X → ckSs ir Γ x = true → PSs X x (tS X.K C ca call W ir)
theorem sw_off {v : PySem.Expr} (h : isComp v = false) (t : Option PySem.Expr) (l : Nat) (env : PySem.Env) : swapsWith v t l env = pure false := by
  cases v <;> first | rfl | cases h
theorem sw_tgt {v t : PySem.Expr} (h : isNm t = false) (l : Nat) (env : PySem.Env) : swapsWith v (some t) l env = pure false := by
  cases v <;> cases t <;> first | rfl | cases h
theorem sw_lc {y : Str} {py pos : Pos} {e : PySem.Expr} {gs : List Comprehension} {scope : Scope} {l : Nat} {env : PySem.Env} (hk : env.scope.kind = .function) :
    swapsWith (.ListComp e gs scope pos) (some (.Name y py)) l env = pure (decide (env.scope.names.lookup y = some .local) && py.line == pos.line && !(scope.names.any fun (n, k) => n == y && (k == .local || k == .cell))) := by
  have hb : env.blockKind = .function := by
    unfold PySem.Env.blockKind
    rw [hk]; rfl
  unfold swapsWith
  simp only [hb]
  have hd : (env.kindOf y == some NameKind.local) = decide (env.scope.names.lookup y = some .local) := by
    show (env.scope.names.lookup y == some NameKind.local) = _
    by_cases e : env.scope.names.lookup y = some .local
    · rw [e]; rfl
    · rw [decide_eq_false e]
      exact beq_eq_false_iff_ne.mpr e
  rw [hd]
  rfl
theorem sw_dc {y : Str} {py pos : Pos} {e e2 : PySem.Expr} {gs : List Comprehension} {scope : Scope} {l : Nat} {env : PySem.Env} (hk : env.scope.kind = .function) :
    swapsWith (.DictComp e e2 gs scope pos) (some (.Name y py)) l env = pure (decide (env.scope.names.lookup y = some .local) && py.line == pos.line && !(scope.names.any fun (n, k) => n == y && (k == .local || k == .cell))) := by
  have hb : env.blockKind = .function := by
    unfold PySem.Env.blockKind
    rw [hk]; rfl
  unfold swapsWith
  simp only [hb]
  have hd : (env.kindOf y == some NameKind.local) = decide (env.scope.names.lookup y = some .local) := by
    show (env.scope.names.lookup y == some NameKind.local) = _
    by_cases e : env.scope.names.lookup y = some .local
    · rw [e]; rfl
    · rw [decide_eq_false e]
      exact beq_eq_false_iff_ne.mpr e
  rw [hd]
  rfl
/-- the reading of an assignment -/
theorem asg_key {X : Cx} {W : WX} {tg e : E} {D : Ends} {σ : L2.St} {H : Hp} (q : tS X.K C ca call W (.asg tg e) D σ H) : tAsg (tE X.K C ca call W e) (tGS X.K call tg) D σ H := by
  obtain ⟨ρ, hh, env, w, er, p⟩ := q
  refine ⟨ρ, hh, env, w, er, PostS.bns Xt.refl w er p fun d h1 ρ1 H1 v1 p1 y1 z1 w1 er1 r1 => ?_⟩
  split at p1
  · rename_i env' h2 ea
    exact ⟨ρ1, h1, d, env, env', h2, w1, er1, r1, ea, fun ρ2 H2 σ2 x2 w2 er2 => p1 ρ2 H2 σ2 (z1.trans x2) w2 er2⟩
  · exact p1.elim
theorem inv_asg {Γ : Gm} {tg e : E} {x : PySem.Stmt} (h : ckS (.asg tg e) Γ x = true) : ∃ t v p, x = .Assign [t] v p ∧ (ckE e Γ v && ckD Γ tg t && plainX t && noSw Γ t v && !(isLck e && isComp v)) = true := by
  cases x <;> first | (cases h; done) | skip
  rename_i ts v p
  cases ts with
  | nil => cases h
  | cons t ts =>
    cases ts with
    | nil => exact ⟨t, v, p, rfl, h⟩
    | cons _ _ => cases h
theorem fm_len {α β : Type} {f : α → Option β} : ∀ {l : List α}, (l.any fun x => (f x).isNone) = true → (l.filterMap f).length < l.length
  | [], h => by cases h
  | x :: l, h => by
    cases e : f x with
    | none =>
      rw [List.filterMap_cons_none e]
      exact Nat.lt_succ_of_le (List.length_filterMap_le _ _)
    | some y =>
      rw [List.filterMap_cons_some e]
      have h' : (l.any fun x => (f x).isNone) = true := by simpa [e] using h
      exact Nat.succ_lt_succ (fm_len h')
theorem sw_mix {ts vs : List PySem.Expr} {kt pt k2 pt2} {env : PySem.Env} (h : ts.any (noLoc env.scope) = true) : swappedStores [.Tuple ts kt pt] (.Tuple vs k2 pt2) env = pure none := by
  have key : ∀ (l : Nat), (ts.filterMap fun t => match t with | .Name id pos => (fun id (pos : Pos) => if (env.kindOf id == some NameKind.local && pos.line == l) = true then some id else none) id pos | _ => none).length ≠ ts.length := fun l => by
    refine Nat.ne_of_lt (fm_len ?_)
    rw [List.any_eq_true] at h ⊢
    obtain ⟨t, m, q⟩ := h
    refine ⟨t, m, ?_⟩
    cases t <;> try rfl
    rename_i x p
    have q' : ¬ env.scope.names.lookup x = some .local := by simpa [noLoc] using q
    have : (env.kindOf x == some NameKind.local) = false := beq_eq_false_iff_ne.mpr q'
    simp [this]
  unfold swappedStores
  dsimp only
  by_cases c1 : (!(ts.length == 2 || ts.length == 3) || vs.length != ts.length || env.blockKind != .function) = true
  · rw [if_pos c1]
  · rw [if_neg c1]
    split
    · rfl
    · split
      · rfl
      · rename_i c3
        refine absurd ?_ c3
        rw [Bool.or_eq_true]
        exact Or.inl (bne_iff_ne.mpr (key ((Option.map (fun x => x.pos.line) ts.head?).getD 0)))
theorem snd_asg {tg e : E} : SndS C ca call k (.asg tg e) := by
  refine ⟨fun Γ X W x o po hk h => ?_, fun Γ X W x _ _ _ h => ff h (by cases x <;> rfl)⟩
  obtain ⟨t, v, pos, rfl, hh⟩ := inv_asg h
  simp only [Bool.and_eq_true, Bool.not_eq_true'] at hh
  obtain ⟨⟨⟨⟨h1, h2⟩, h3⟩, h5⟩, h6⟩ := hh
  have pe := (snd_all e).1.e Γ X W v o h1
  by_cases hn : isNm t = true
  · cases t <;> first | (cases hn; done) | skip
    rename_i y py
    cases tg with
    | slot i =>
      rw [ckD_slot] at h2
      simp only [Bool.and_eq_true, decide_eq_true_eq] at h2
      obtain ⟨f1, f2⟩ := o.fnx y h2.2
      have gk : ∀ {te : TE} {D : Ends} {σ : L2.St} {H : Hp}, tAsg te (tGS X.K call (.slot i)) D σ H → (∀ σ H Q Q', (∀ v H', Q v H' → Q' v H') → te σ H Q → te σ H Q') → tAsg te (gName i) D σ H := by
        intro te D σ H q mono
        refine mono σ H _ _ ?_ q
        rintro u H' ⟨ρ, h, d, env, env2, hh, w, er, r, ea, qq⟩
        unfold asgS at ea
        split at ea
        · cases ea
          exact qq _ _ _ Xt.refl w (er.set r)
        · cases ea
      have monoE : ∀ σ H Q Q', (∀ v H', Q v H' → Q' v H') → tE X.K C ca call W e σ H Q → tE X.K C ca call W e σ H Q' := fun σ H Q Q' hq ⟨ρ, hh, env, w, er, p⟩ => ⟨ρ, hh, env, w, er, p.imp hq⟩
      by_cases hc : isComp v = true
      · cases v <;> first | (cases hc; done) | skip
        · rename_i elt gs scope vp
          by_cases hb : (decide (X.env.scope.names.lookup y = some .local) && py.line == vp.line && !(scope.names.any fun (n, k) => n == y && (k == .local || k == .cell))) = true
          · -- stored within the frame
            have hl : X.env.scope.names.lookup y = some .local := by
              simp only [Bool.and_eq_true, decide_eq_true_eq] at hb
              exact hb.1.1
            cases e with
            | lc own tg' it c elt' =>
              obtain ⟨e1, t1, i1, ifs, scope', pos', ex, g1, g2, g3, g4, g5, g6, g7⟩ := lc_parts (snd_all it).1 (snd_all c).1 (snd_all elt').1 o h1
              cases ex
              refine PS.imp (ps_setLc (i := i) o.hc (by rw [o.hN]; exact o.nd) (by rw [o.hN]; exact h2.1) hl (by rw [sw_lc hk.kind, hb]) g1 g2 g3 g4 g5 (plain_set g6 _)) fun D σ H q => ?_
              exact g7 _ _ _ (gk (asg_key q) monoE)
            | lck j a => cases h6
            | _ => cases h1
          · refine PS.imp (ps_set (i := i) (by rw [o.hN]; exact o.nd) (by rw [o.hN]; exact h2.1) f1 pe (by rw [sw_lc hk.kind]; simp only [Bool.not_eq_true] at hb; rw [hb]) f2) fun D σ H q => gk (asg_key q) monoE
        · cases e <;> first | cases h1 | cases h6
        · rename_i kx vx gs scope vp
          by_cases hb : (decide (X.env.scope.names.lookup y = some .local) && py.line == vp.line && !(scope.names.any fun (n, k) => n == y && (k == .local || k == .cell))) = true
          · have hl : X.env.scope.names.lookup y = some .local := by
              simp only [Bool.and_eq_true, decide_eq_true_eq] at hb
              exact hb.1.1
            cases e with
            | dc own t tg' it c a b =>
              obtain ⟨a1, b1, t1, i1, ifs, scope', pos', ex, g1, g2, g3, g4, g5, g5b, g6, g7⟩ := dc_parts (snd_all it).1 (snd_all c).1 (snd_all a).1 (snd_all b).1 o h1
              cases ex
              have hu1 : X.A.units + 1 < cLine := by have := o.hu; omega
              refine PS.imp (ps_dcX (i := i) t hu1 o.hc (by rw [o.hN]; exact o.nd) g1 g2 g3 g4 g5 g5b (plain_set g6 _) (by rw [o.hN]; exact h2.1) hl (by rw [sw_dc hk.kind, hb])) fun D σ H q => ?_
              exact g7 _ _ _ (gk (asg_key q) monoE)
            | lck j a => cases h6
            | _ => cases h1
          · refine PS.imp (ps_set (i := i) (by rw [o.hN]; exact o.nd) (by rw [o.hN]; exact h2.1) f1 pe (by rw [sw_dc hk.kind]; simp only [Bool.not_eq_true] at hb; rw [hb]) f2) fun D σ H q => gk (asg_key q) monoE
      · exact PS.imp (ps_set (i := i) (by rw [o.hN]; exact o.nd) (by rw [o.hN]; exact h2.1) f1 pe (sw_off (by simpa using hc) _ _ _) f2) fun D σ H q => gk (asg_key q) monoE
    | _ => cases h2
  · have hn' : isNm t = false := by simpa using hn
    refine PS.imp (ps_asg pe ((tgS_ok o tg).1 t h2) (sw_tgt hn' _ _) ?_ (by rw [each_cons h3]; rfl)) fun D σ H q => asg_key q
    cases t <;> first | rfl | (cases v <;> first | rfl | exact sw_mix (by rw [o.sc]; exact h5) | (cases tg <;> cases h2))
end
end Mini
end

section
/-! Mini: further statements (own work). -/
namespace Mini
open PySem PySem.Spec PyProof.Rows L2
section
variable {C : List Cl} {ca : Nat → Addr} {call : Caller} {k : Nat}
/-! ### in place -/
theorem aug_ok {X : Cx} (op : Operator) : ∃ r : R2, OpR X (inplaceOp op) r ∧ ∀ {ρ : List Addr} {H : Hp} {h : List O} {Wc : Value → Option Addr → Hp → Prop} {Q : VK} {u v : V} {x y : D}, Wd X.K ρ h H → RV X.K ρ H u x → RV X.K ρ H v y →
    Post ⟨X.K, C, ca⟩ ρ H (relD X.K) Wc Q (augD op x y h) → r u v H Q := by
  have none' : (∀ x y h, augD op x y h = none) → ∃ r : R2, OpR X (inplaceOp op) r ∧ ∀ {ρ : List Addr} {H : Hp} {h : List O} {Wc : Value → Option Addr → Hp → Prop} {Q : VK} {u v : V} {x y : D}, Wd X.K ρ h H → RV X.K ρ H u x → RV X.K ρ H v y →
      Post ⟨X.K, C, ca⟩ ρ H (relD X.K) Wc Q (augD op x y h) → r u v H Q := fun hn =>
    ⟨fun _ _ _ _ => False, fun _ _ _ _ _ _ _ _ _ _ _ _ q => q.elim, fun w r1 r2 p => by rw [hn] at p; exact p⟩
  have intsOnly : ∀ {x y : D} {h : List O} {r : R D}, op ≠ .Add → augD op x y h = some r → ∃ i j, x = .int i ∧ y = .int j := by
    intro x y h r ho e
    unfold augD at e
    split at e
    · exact ⟨_, _, rfl, rfl⟩
    · split at e
      · exact absurd rfl ho
      · cases e
    · cases e
  cases op with
  | Add =>
    refine ⟨_, iop_add.or iop_ext, ?_⟩
    intro ρ H h Wc Q u v x y w r1 r2 p
    unfold augD at p
    split at p
    · cases r1; cases r2
      exact .inl ⟨_, _, rfl, rfl, post_int w p⟩
    · split at p
      · rename_i xs ys e1 e2
        split at p
        · rename_i hl
          obtain ⟨a, us, rfl, ea, eh, eH, s⟩ := is_lst w r1 e1
          obtain ⟨b, vs, rfl, eb, _, eH', s'⟩ := is_lst w r2 e2
          obtain ⟨x1, w1⟩ := w.write ea eH (s.append s')
          exact .inr ⟨a, b, us, vs, rfl, rfl, eH, eH', by rw [s.len, s'.len, ← lim_eq]; exact hl, p.ok x1 w1 ⟨a, rfl, ea⟩⟩
        · exact p.elim
      · exact p.elim
    · exact p.elim
  | Sub =>
    refine ⟨_, iop_sub, ?_⟩
    intro ρ H h Wc Q u v x y w r1 r2 p
    cases e : augD .Sub x y h with
    | none => rw [e] at p; exact p.elim
    | some r =>
      obtain ⟨i, j, rfl, rfl⟩ := intsOnly (by decide) e
      cases r1; cases r2
      exact ⟨_, _, rfl, rfl, post_int w p⟩
  | Mult =>
    refine ⟨_, iop_mul, ?_⟩
    intro ρ H h Wc Q u v x y w r1 r2 p
    cases e : augD .Mult x y h with
    | none => rw [e] at p; exact p.elim
    | some r =>
      obtain ⟨i, j, rfl, rfl⟩ := intsOnly (by decide) e
      cases r1; cases r2
      change Post _ _ _ _ _ _ (if decide (i.natAbs < 2 ^ 64) || decide (j.natAbs < 2 ^ 64) then okI (i * j) h else none) at p
      split at p
      · rename_i hb
        simp only [Bool.or_eq_true, decide_eq_true_eq] at hb
        refine ⟨_, _, rfl, rfl, ?_, post_int w p⟩
        rcases hb with hb | hb
        · exact .inl (by omega)
        · exact .inr (by omega)
      · exact p.elim
  | Mod =>
    refine ⟨_, iop_mod, ?_⟩
    intro ρ H h Wc Q u v x y w r1 r2 p
    cases e : augD .Mod x y h with
    | none => rw [e] at p; exact p.elim
    | some r =>
      obtain ⟨i, j, rfl, rfl⟩ := intsOnly (by decide) e
      cases r1; cases r2
      change Post _ _ _ _ _ _ (if 0 < j then okI (i % j) h else none) at p
      split at p
      · rename_i hb
        exact ⟨_, _, rfl, rfl, hb, post_int w p⟩
      · exact p.elim
  | _ =>
    refine none' fun x y h => ?_
    unfold augD
    split
    · rfl
    · rfl
    · rfl
theorem inv_aug {Γ : Gm} {i : Nat} {op : Operator} {e : E} {x : PySem.Stmt} (h : ckS (.aug i op e) Γ x = true) : ∃ y py v p, x = .AugAssign (.Name y py) op v p ∧ Γ.N[i]? = some y ∧ locS Γ.ts y = true ∧ ckE e Γ v = true := by
  cases x <;> first | (cases h; done) | skip
  rename_i t op' v p
  cases t <;> first | (cases h; done) | skip
  rename_i y py
  have h' : (decide (op = op') && decide (Γ.N[i]? = some y) && locS Γ.ts y && ckE e Γ v) = true := h
  simp only [Bool.and_eq_true, decide_eq_true_eq] at h'
  obtain ⟨⟨⟨rfl, h2⟩, h3⟩, h4⟩ := h'
  exact ⟨y, py, v, p, rfl, h2, h3, h4⟩
theorem snd_aug {i : Nat} {op : Operator} {e : E} : SndS C ca call k (.aug i op e) := by
  refine ⟨fun Γ X W x o po hk h => ?_, fun Γ X W x _ _ _ h => ff h (by cases x <;> rfl)⟩
  obtain ⟨y, py, v, p, rfl, h2, h3, h4⟩ := inv_aug h
  obtain ⟨f1, f2⟩ := o.fnx y h3
  obtain ⟨r, hr, hr2⟩ := aug_ok (X := X) (C := C) (ca := ca) op
  have hp : PIp X op r := hr
  refine PS.imp (ps_aug (i := i) (by rw [o.hN]; exact o.nd) (by rw [o.hN]; exact h2) f1 ((snd_all e).1.e Γ X W v o h4) hp f2) ?_
  rintro D σ H ⟨ρ, hh, env, w, er, p⟩
  unfold exec at p
  split at p
  · rename_i d ed
    obtain ⟨u, e1, ru⟩ := er.at' i d ed
    refine ⟨u, e1, ρ, hh, env, w, er, PostS.bns Xt.refl w er p fun y h1 ρ1 H1 v1 p1 y1 z1 w1 er1 r1 => ?_⟩
    refine hr2 w1 (w.rv z1 ru) r1 (PostS.bns z1 w1 er1 p1 fun z h2 ρ2 H2 v2 p2 y2 z2 w2 er2 r2 => ?_)
    exact p2 ρ2 H2 _ z2 w2 (er2.set r2)
  · exact p.elim
theorem inv_ex {Γ : Gm} {e : E} {x : PySem.Stmt} (h : ckS (.ex e) Γ x = true) : ∃ v p, x = .Expr v p ∧ ckE e Γ v = true ∧ isComp v = false := by
  cases x <;> first | (cases h; done) | skip
  rename_i v p
  have h' : (ckE e Γ v && !isComp v) = true := h
  simp only [Bool.and_eq_true, Bool.not_eq_true'] at h'
  exact ⟨v, p, rfl, h'⟩
theorem snd_ex {e : E} : SndS C ca call k (.ex e) := by
  refine ⟨fun Γ X W x o po hk h => ?_, fun Γ X W x _ _ _ h => ff h (by cases x <;> rfl)⟩
  obtain ⟨v, p, rfl, h1, h2⟩ := inv_ex h
  refine PS.imp (ps_expr ((snd_all e).1.e Γ X W v o h1) (sw_off h2 _ _ _)) ?_
  rintro D σ H ⟨ρ, hh, env, w, er, p⟩
  refine ⟨ρ, hh, env, w, er, PostS.bns Xt.refl w er p fun y h1 ρ1 H1 v1 p1 y1 z1 w1 er1 r1 => ?_⟩
  exact p1 ρ1 H1 σ z1 w1 er1
theorem inv_ret {Γ : Gm} {e : E} {x : PySem.Stmt} (h : ckS (.ret e) Γ x = true) : ∃ v p, x = .Return (some v) p ∧ ckE e Γ v = true := by
  cases x <;> first | (cases h; done) | skip
  rename_i v p
  cases v with
  | none => cases h
  | some v => exact ⟨v, p, rfl, h⟩
theorem snd_ret {e : E} : SndS C ca call k (.ret e) := by
  refine ⟨fun Γ X W x o po hk h => ?_, fun Γ X W x _ _ _ h => ff h (by cases x <;> rfl)⟩
  obtain ⟨v, p, rfl, h1⟩ := inv_ret h
  refine PS.imp (ps_ret ((snd_all e).1.e Γ X W v o h1)) ?_
  rintro D σ H ⟨ρ, hh, env, w, er, p⟩
  refine ⟨ρ, hh, env, w, er, PostS.bns Xt.refl w er p fun y h1 ρ1 H1 v1 p1 y1 z1 w1 er1 r1 => ?_⟩
  exact p1 ρ1 H1 v1 z1 w1 r1
theorem snd_retN : SndS C ca call k .retN := by
  refine ⟨fun Γ X W x o po hk h => ?_, fun Γ X W x _ _ _ h => ff h (by cases x <;> rfl)⟩
  have e : ∃ p, x = .Return none p := by
    cases x <;> first | (cases h; done) | skip
    rename_i v p
    cases v with
    | none => exact ⟨p, rfl⟩
    | some v => cases h
  obtain ⟨p, rfl⟩ := e
  refine PS.imp ps_retN ?_
  rintro D σ H ⟨ρ, hh, env, w, er, p⟩
  exact p ρ H .non Xt.refl w rfl
theorem snd_brk : SndS C ca call k .brk := by
  refine ⟨fun Γ X W x o po hk h => ?_, fun Γ X W x _ _ _ h => ff h (by cases x <;> rfl)⟩
  have e : ∃ p, x = .Break p := by
    cases x <;> first | (cases h; done) | exact ⟨_, rfl⟩
  obtain ⟨p, rfl⟩ := e
  refine PS.imp ps_break ?_
  rintro D σ H ⟨ρ, hh, env, w, er, p⟩
  exact p ρ H σ Xt.refl w er
theorem snd_cnt : SndS C ca call k .cnt := by
  refine ⟨fun Γ X W x o po hk h => ?_, fun Γ X W x _ _ _ h => ff h (by cases x <;> rfl)⟩
  have e : ∃ p, x = .Continue p := by
    cases x <;> first | (cases h; done) | exact ⟨_, rfl⟩
  obtain ⟨p, rfl⟩ := e
  refine PS.imp ps_continue ?_
  rintro D σ H ⟨ρ, hh, env, w, er, p⟩
  exact p ρ H σ Xt.refl w er
theorem snd_nilS : SndS C ca call k .nil := by
  refine ⟨fun Γ X W x o po hk h => ?_, fun Γ X W x o po hk h => ?_⟩
  · have e : ∃ p, x = .Pass p := by
      cases x <;> first | (cases h; done) | exact ⟨_, rfl⟩
    obtain ⟨p, rfl⟩ := e
    refine PS.imp ps_pass ?_
    rintro D σ H ⟨ρ, hh, env, w, er, p⟩
    exact p ρ H σ Xt.refl w er
  · cases x with
    | nil =>
      refine PSs.imp pss_nil ?_
      rintro D σ H ⟨ρ, hh, env, w, er, p⟩
      exact p ρ H σ Xt.refl w er
    | cons _ _ => cases h
theorem snd_seq {a b : S} (iha : SndS C ca call k a) (ihb : SndS C ca call k b) : SndS C ca call k (.seq a b) := by
  refine ⟨fun Γ X W x o po hk h => ff h (by cases x <;> rfl), fun Γ X W x o po hk h => ?_⟩
  cases x with
  | nil => cases h
  | cons t ts =>
    have h' : (ckS a Γ t && ckSs b Γ ts) = true := h
    simp only [Bool.and_eq_true] at h'
    refine PSs.imp (pss_cons (iha.s Γ X W t o po hk h'.1) (ihb.ss Γ X W ts o po hk h'.2)) ?_
    rintro D σ H ⟨ρ, hh, env, w, er, p⟩
    refine ⟨ρ, hh, env, w, er, ?_⟩
    unfold exec at p
    cases ea : exec call C a env hh with
    | none => rw [ea] at p; exact p.elim
    | some r =>
      rw [ea] at p
      cases r with
      | exc c fs e h' => exact p
      | fl f h' =>
        cases f with
        | nx e => exact fun ρ' H' σ' x' w' er' => ⟨ρ', h', e, w', er', PostS.fwd x' p⟩
        | bk e => exact p
        | ct e => exact p
        | rt d => exact p
theorem inv_ite {Γ : Gm} {c : E} {a b : S} {x : PySem.Stmt} (h : ckS (.ite c a b) Γ x = true) : ∃ c' a' b' p, x = .If c' a' b' p ∧ ckT c Γ c' = true ∧ ckSs a Γ a' = true ∧ ckSs b Γ b' = true := by
  cases x <;> first | (cases h; done) | skip
  rename_i c' a' b' p
  have h' : (ckT c Γ c' && ckSs a Γ a' && ckSs b Γ b') = true := h
  simp only [Bool.and_eq_true] at h'
  exact ⟨c', a', b', p, rfl, h'.1.1, h'.1.2, h'.2⟩
theorem snd_ite {c : E} {a b : S} (iha : SndS C ca call k a) (ihb : SndS C ca call k b) : SndS C ca call k (.ite c a b) := by
  refine ⟨fun Γ X W x o po hk h => ?_, fun Γ X W x _ _ _ h => ff h (by cases x <;> rfl)⟩
  obtain ⟨c', a', b', p, rfl, h1, h2, h3⟩ := inv_ite h
  refine PS.imp (ps_if ((snd_all c).1.t Γ X W c' o h1).1 (iha.ss Γ X W a' o po hk h2) (ihb.ss Γ X W b' o po hk h3)) ?_
  rintro D σ H ⟨ρ, hh, env, w, er, p⟩
  refine ⟨ρ, hh, env, w, er, PostS.bns Xt.refl w er p fun y h1 ρ1 H1 v1 p1 y1 z1 w1 er1 r1 => ?_⟩
  have r1' : v1 = y := r1
  subst r1'
  cases v1 with
  | true =>
    rw [if_pos rfl] at p1 ⊢
    exact ⟨ρ1, h1, env, w1, er1, p1.fwd z1⟩
  | false =>
    rw [if_neg (by decide)] at p1 ⊢
    exact ⟨ρ1, h1, env, w1, er1, p1.fwd z1⟩
theorem inv_for {Γ : Gm} {tg it : E} {b : S} {x : PySem.Stmt} (h : ckS (.for tg it b) Γ x = true) : ∃ t i b' p, x = .For t i b' [] p ∧ ckG Γ tg t = true ∧ ckI it Γ t i = true ∧ plainX i = true ∧ ckSs b Γ b' = true := by
  cases x <;> first | (cases h; done) | skip
  rename_i t i b' els p
  cases els with
  | cons _ _ => cases h
  | nil =>
    have h' : (ckG Γ tg t && ckI it Γ t i && plainX i && ckSs b Γ b') = true := h
    simp only [Bool.and_eq_true] at h'
    exact ⟨t, i, b', p, rfl, h'.1.1.1, h'.1.1.2, h'.1.2, h'.2⟩
theorem snd_for {tg it : E} {b : S} (ihb : SndS C ca call k b) : SndS C ca call k (.for tg it b) := by
  refine ⟨fun Γ X W x o po hk h => ?_, fun Γ X W x _ _ _ h => ff h (by cases x <;> rfl)⟩
  obtain ⟨t, i, b', p, rfl, h1, h2, h3, h4⟩ := inv_for h
  refine PS.imp (ps_for po o.hc ((snd_all it).1.i Γ X W t i o h2) ((tg_ok o tg).1 t h1) (ihb.ss Γ X W b' o po hk h4) (plain_set h3 _)) ?_
  rintro D σ H ⟨ρ, hh, env, w, er, p⟩
  refine ⟨ρ, hh, env, w, er, PostS.bns Xt.refl w er p fun pp h1 ρ1 H1 J p1 y1 z1 w1 er1 hJ => ?_⟩
  generalize hF : (fun (x : Mini.D) (env : Mini.Env) (h : List O) => match asgT tg x env with
    | some env2 => exec call C b env2 h
    | none => none) = F at p1
  refine ⟨fun i m σc Hc => m = pp.1.length - i ∧ i ≤ pp.1.length ∧ ∃ ρc hc envc, Xt ρ1 H1 ρc Hc ∧ Wd X.K ρc hc Hc ∧ EnvR X.K ρc Hc σc envc ∧ PostS X.K C ca W ρ H D (forGo pp.2 F (pp.1.drop i) envc hc),
    ⟨pp.1.length, by simp, Nat.zero_le _, ρ1, h1, env, Xt.refl, w1, er1, p1⟩, ?_⟩
  rintro i m σc Hc ⟨rfl, hi, ρc, hc, envc, xc, wc, ec, pc⟩
  have z : Xt ρ H ρc Hc := z1.trans xc
  by_cases hlt : i < pp.1.length
  · right
    have hx : pp.1[i]? = some pp.1[i] := List.getElem?_eq_getElem hlt
    rw [List.drop_eq_getElem_cons hlt] at pc
    unfold forGo at pc
    by_cases hk' : chk pp.2 hc = true
    · rw [if_pos hk'] at pc
      obtain ⟨hgo, _⟩ := hJ ρc hc Hc xc wc hk'
      obtain ⟨hgo, hy⟩ := hgo i _ hx
      refine ⟨hgo, fun σ' H' => ∃ ρc hc envc, Xt ρ1 H1 ρc H' ∧ Wd X.K ρc hc H' ∧ EnvR X.K ρc H' σ' envc ∧ PostS X.K C ca W ρ H D (forGo pp.2 F (pp.1.drop (i + 1)) envc hc), fun σ' H' q => ⟨pp.1.length - (i + 1), by omega, rfl, hlt, q⟩, fun v H' yl => ?_⟩
      obtain ⟨xy, wy, rv⟩ := hy v H' yl
      have er' := ec.fwd wc xy
      cases ea : asgT tg pp.1[i] envc with
      | none =>
        rw [← hF] at pc
        dsimp only at pc
        rw [ea] at pc
        exact pc.elim
      | some env2 =>
        refine ⟨ρc, hc, pp.1[i], envc, env2, wy, er', rv, ea, fun σ2 er2 hw => ?_⟩
        have eF : F pp.1[i] envc hc = exec call C b env2 hc := by
          rw [← hF]
          dsimp only
          rw [ea]
        rw [eF] at pc
        refine ⟨ρc, hc, env2, wy, er2, ?_⟩
        have zy : Xt ρ1 H1 ρc H' := xc.trans xy
        cases eb : exec call C b env2 hc with
        | none => rw [eb] at pc; exact pc.elim
        | some r =>
          rw [eb] at pc
          cases r with
          | exc c0 fs e h' => exact fun ρ2 H2 σ2 dd fl x2 w2 e2 q1 q2 => pc ρ2 H2 σ2 dd fl ((z.trans xy).trans x2) w2 e2 q1 q2
          | fl f h' =>
            cases f with
            | nx e => exact fun ρ2 H2 σ2 x2 w2 e2 => ⟨ρ2, h', e, zy.trans x2, w2, e2, pc⟩
            | ct e => exact fun ρ2 H2 σ2 x2 w2 e2 => ⟨ρ2, h', e, zy.trans x2, w2, e2, pc⟩
            | bk e => exact fun ρ2 H2 σ2 x2 w2 e2 => pc ρ2 H2 σ2 ((z.trans xy).trans x2) w2 e2
            | rt d => exact fun ρ2 H2 v2 x2 w2 r2 => pc ρ2 H2 v2 ((z.trans xy).trans x2) w2 r2
    · rw [if_neg hk'] at pc
      exact pc.elim
  · left
    have hi' : i = pp.1.length := by omega
    subst hi'
    rw [List.drop_length] at pc
    unfold forGo at pc
    by_cases hk' : chk pp.2 hc = true
    · rw [if_pos hk'] at pc
      exact ⟨(hJ ρc hc Hc xc wc hk').2, pc ρc Hc σc z wc ec⟩
    · rw [if_neg hk'] at pc
      exact pc.elim
theorem inv_while {Γ : Gm} {c : E} {b : S} {x : PySem.Stmt} (h : ckS (.while c b) Γ x = true) : ∃ c' b' p, x = .While c' b' [] p ∧ ckT c Γ c' = true ∧ ckSs b Γ b' = true := by
  cases x <;> first | (cases h; done) | skip
  rename_i c' b' els p
  cases els with
  | cons _ _ => cases h
  | nil =>
    have h' : (ckT c Γ c' && ckSs b Γ b') = true := h
    simp only [Bool.and_eq_true] at h'
    exact ⟨c', b', p, rfl, h'.1, h'.2⟩
theorem snd_while {c : E} {b : S} (ihb : SndS C ca call k b) : SndS C ca call k (.while c b) := by
  refine ⟨fun Γ X W x o po hk h => ?_, fun Γ X W x _ _ _ h => ff h (by cases x <;> rfl)⟩
  obtain ⟨c', b', p, rfl, h1, h2⟩ := inv_while h
  refine PS.imp (ps_while po ((snd_all c).1.t Γ X W c' o h1).1 (ihb.ss Γ X W b' o po hk h2)) ?_
  rintro D σ H ⟨ρ, hh, env, w, er, p⟩
  unfold exec at p
  generalize wFuel = N at p
  refine ⟨fun m σc Hc => ∃ ρc hc envc, Xt ρ H ρc Hc ∧ Wd X.K ρc hc Hc ∧ EnvR X.K ρc Hc σc envc ∧ PostS X.K C ca W ρ H D (whileGo (fun env h => evt call c env h) (fun env h => exec call C b env h) m envc hc), ⟨N, ρ, hh, env, Xt.refl, w, er, p⟩, ?_⟩
  rintro m σc Hc ⟨ρc, hc, envc, xc, wc, ec, pc⟩
  cases m with
  | zero => exact pc.elim
  | succ m =>
    unfold whileGo at pc
    refine ⟨ρc, hc, envc, wc, ec, PostS.bns xc wc ec pc fun y h1 ρ1 H1 v1 p1 y1 z1 w1 er1 r1 => ?_⟩
    have r1' : v1 = y := r1
    subst r1'
    cases v1 with
    | false =>
      rw [if_neg (by decide)] at p1 ⊢
      exact p1 ρ1 H1 σc z1 w1 er1
    | true =>
      rw [if_pos rfl] at p1 ⊢
      refine ⟨fun σ' H' => ∃ ρc hc envc, Xt ρ H ρc H' ∧ Wd X.K ρc hc H' ∧ EnvR X.K ρc H' σ' envc ∧ PostS X.K C ca W ρ H D (whileGo (fun env h => evt call c env h) (fun env h => exec call C b env h) m envc hc), fun σ' H' q => ⟨m, Nat.lt_succ_self m, q⟩, ρ1, h1, envc, w1, er1, ?_⟩
      cases eb : exec call C b envc h1 with
      | none => rw [eb] at p1; exact p1.elim
      | some r =>
        rw [eb] at p1
        cases r with
        | exc c0 fs e h' => exact fun ρ2 H2 σ2 dd fl x2 w2 e2 q1 q2 => p1 ρ2 H2 σ2 dd fl (z1.trans x2) w2 e2 q1 q2
        | fl f h' =>
          cases f with
          | nx e => exact fun ρ2 H2 σ2 x2 w2 e2 => ⟨ρ2, h', e, z1.trans x2, w2, e2, p1⟩
          | ct e => exact fun ρ2 H2 σ2 x2 w2 e2 => ⟨ρ2, h', e, z1.trans x2, w2, e2, p1⟩
          | bk e => exact fun ρ2 H2 σ2 x2 w2 e2 => p1 ρ2 H2 σ2 (z1.trans x2) w2 e2
          | rt d => exact fun ρ2 H2 v2 x2 w2 r2 => p1 ρ2 H2 v2 (z1.trans x2) w2 r2
/-! ### what runs while a dict is locked -/
theorem PS.or {X : Cx} {s : PySem.Stmt} {t t' : TS} (h : PS X s t) (h' : PS X s t') : PS X s (fun D σ H => t D σ H ∨ t' D σ H) := ⟨fun pins s σ H D I q => q.elim (h.run pins s σ H D I) (h'.run pins s σ H D I)⟩
theorem snd_lock {i : Nat} {b : S} (ih : SndS C ca call k b) : SndS C ca call k (.lock i b) := by
  refine ⟨fun Γ X W x o po hk h => ?_, fun Γ X W x _ _ _ h => ff h (by cases x <;> rfl)⟩
  have h' : ckS b Γ x = true := by cases x <;> exact h
  have ps := ih.s Γ X W x o po hk h'
  refine PS.imp (PS.or ps (ps_lock ps)) ?_
  rintro D σ H ⟨ρ, hh, env, w, er, p⟩
  unfold exec at p
  split at p
  · rename_i n en
    split at p
    · exact .inl ⟨ρ, hh, env, w, er, p⟩
    · rename_i t kvs eh
      right
      obtain ⟨d, u, ed, eu, mu, lk⟩ := lock_in w eh
      refine ⟨d, u, eu, mut_of mu, fun od => ?_⟩
      obtain ⟨wl, ts⟩ := lk od
      refine ⟨ρ, _, env, wl, ⟨er.len, fun j d' q => let ⟨v, q1, q2⟩ := er.at' j d' q; ⟨v, q1, RV.mono ts (fun _ _ q => q) _ _ q2⟩⟩, ?_⟩
      cases em : exec call C b env (setH hh n (.dct true t kvs)) with
      | none => rw [em] at p; exact p.elim
      | some r =>
        rw [em] at p
        cases r with
        | exc c fs e h' => exact p.elim
        | fl f h' =>
          unfold unlk at p
          dsimp only at p
          split at p
          · rename_i t' kvs' e'
            have envs : ∀ {ρ' : List Addr} {H' : Hp} {σ' : L2.St} {e : Env}, TS' X.K H' (upd H' d u) → EnvR X.K ρ' H' σ' e → EnvR X.K ρ' (upd H' d u) σ' e := fun g4 er' => ⟨er'.len, fun j d' q => let ⟨v, q1, q2⟩ := er'.at' j d' q; ⟨v, q1, RV.mono g4 (fun _ _ q => q) _ _ q2⟩⟩
            cases f with
            | nx e =>
              exact fun ρ' H' σ' x' w' er' => by
                obtain ⟨g1, g2, g3, g4⟩ := unlock_out w ed eu mu x' w' e'
                exact ⟨g1, p ρ' _ σ' g2 g3 (envs g4 er')⟩
            | bk e =>
              exact fun ρ' H' σ' x' w' er' => by
                obtain ⟨g1, g2, g3, g4⟩ := unlock_out w ed eu mu x' w' e'
                exact ⟨g1, p ρ' _ σ' g2 g3 (envs g4 er')⟩
            | ct e =>
              exact fun ρ' H' σ' x' w' er' => by
                obtain ⟨g1, g2, g3, g4⟩ := unlock_out w ed eu mu x' w' e'
                exact ⟨g1, p ρ' _ σ' g2 g3 (envs g4 er')⟩
            | rt v =>
              exact fun ρ' H' v' x' w' rb => by
                obtain ⟨g1, g2, g3, g4⟩ := unlock_out w ed eu mu x' w' e'
                exact ⟨g1, p ρ' _ v' g2 g3 (RV.mono g4 (fun _ _ q => q) _ _ rb)⟩
          · exact p.elim
    · exact p.elim
  · exact p.elim
end
end Mini
end

section
/-! Mini: an own exception whose __init__ says super().__init__(..) and stores its arguments (own work). -/
namespace Mini
open PySem PySem.Spec PyProof.Rows L2

section
variable {X : Cx} {σ : L2.St} {H : Hp} {s : Shared} {f cc D cda a C : Addr} {qual x0 : Str} {scope : Scope} {L : Addr} {body : List PySem.Stmt} {e : PySem.Expr} {es : List PySem.Expr} {ta : TA} {p0 p1 p2 p3 p4 : Pos} {of : Obj} {fd : FuncData} {ar : Arg} {E : Value → Shared → Prop}
/-- super().__init__(..), nothing raised -/
theorem super_stmt {pl : Sem Bool} (T : InitIn X.prog X.K f cc D cda qual) (TC : InitC X.K C D) (he : X.env = PySem.W.envX qual scope L f (.ref cda) [("__class__", cc)]) (hks : scope.names.lookup ("super" : Str) = some .globalImplicit) (hkc : scope.names.lookup ("__class__" : Str) = some .free)
    (hf : X.K.lookup f = some of) (hfd : of.data = .func fd) (hp : (fd.params.posonlyargs ++ fd.params.args).head? = some ar) (hN : X.N[0]? = some ar.arg) (hka : scope.names.lookup ar.arg = some .local) (hσ : σ[0]? = some (some (.ref a)))
    (I : Inv X [] σ H s) (ea : H a = some (exo a C none)) (ha : PA X (e :: es) ta) (hta : ta σ H fun vs H1 => H1 = H ∧ vs.length ≤ 1000) (hst : starEach (e :: es) X.env = (false, eval e X.env) :: starEach es X.env) (hpl : (backTo p3 (starEach es X.env)).any (·.1) = false)
    (hev : eval (.Call (.Attribute (.Call (.Name "super" p0) [] [] p1) "__init__" p2) (e :: es) [] p3) X.env = (do
      let ov ← attributeBase (.Call (.Name "super" p0) [] [] p1) "__init__" X.env (eval (.Call (.Name "super" p0) [] [] p1) X.env)
      standAt p2.atName
      let (f, first) ← holding [ov] (getMethod ov "__init__" pl)
      callWith p3 f first (backTo p3 (starEach (e :: es) X.env)) [])) :
    PySem.wpAt (model X.prog X.w) X.A (.func body X.env) (PySem.exec (PySem.Stmt.Expr (.Call (.Attribute (.Call (.Name "super" p0) [] [] p1) "__init__" p2) (e :: es) [] p3) p4) X.env) (fun fl s' => fl = PySem.Flow.next ∧ Inv X [] σ H s') X.xe s := by
  obtain ⟨occ, odc, slc, hcell⟩ := T.cell
  obtain ⟨cdD, hD⟩ := T.dcls
  obtain ⟨ccl, ccd, ccs, vs, file, tf, hcode, hvs, hfile⟩ := T.code
  have KX := I.kIn
  have hkind : ∀ y, X.env.kindOf y = scope.names.lookup y := fun y => by rw [he]; rfl
  refine PySem.ks_wpAt_Expr_any ?_ I.quiet rfl
  refine PySem.ks_wpAt_MethodCall (pl := pl) ?_ hev
  -- the super object
  obtain ⟨oD, hD1, hD2⟩ : ∃ oD, s.heap.get? D = some oD ∧ oD.data = .cls cdD := by
    unfold PySem.W.clsIn at hD
    split at hD
    · rename_i c d cd' sl ho
      cases hD
      exact ⟨_, KX _ _ ho, rfl⟩
    · cases hD
  obtain ⟨t1, hx⟩ := exo_at I.hok ea
  obtain ⟨mb, hmb, hbt⟩ := I.mod.blt
  obtain ⟨m, hm, hl⟩ := I.loc
  obtain ⟨u, ru, lu⟩ := hl 0 ar.arg _ hN hσ (.inl (by rw [he]; exact hka))
  have ru' : u = .ref a := ru
  subst ru'
  have hma : m ar.arg = some (.ref a) := by
    rcases lu with ⟨_, e1⟩ | ⟨e1, _⟩
    · exact e1
    · rw [hkind, hka] at e1
      rcases e1 with e1 | e1 <;> cases e1
  have hlc : X.env.cells.lookup ("__class__" : Str) = some cc := by rw [he]; rfl
  refine PySem.ks_wpAt_super_base (by rw [hkind]; exact hks) (by rw [hkind]; exact hkc) (by decide) (by rw [he]) (KX _ _ hf) hfd hp (by rw [he]) (KX _ _ hcode) rfl hvs hfile T.top ?_
  refine PySem.W.ks_loadName_global I.ok.kind (by rw [hkind]; exact hks) (Calls.loadGlobal_builtin (by rw [I.ok.glob]; exact I.mod.glob.keeps I.bk) (PySem.W.mg_none_of KX (I.mod.glob.keeps I.bk) T.sup) (by rw [I.ok.blt]; exact hmb.keeps I.bk) ((hbt _ (by decide +kernel)).trans (by decide +kernel : bootBuiltins "super" = some (.type "super"))) ⟨rfl, ?_⟩)
  refine wpAny_loadName_free I.ok.kind (by rw [hkind]; exact hkc) hlc ⟨_, KX _ _ hcell, rfl⟩ ?_
  refine wpAny_loadName_local I.ok.kind (by rw [hkind]; exact hka) hm hma ?_
  obtain ⟨hh, g, d, t, os⟩ := s
  refine PySem.ks_wpAny_isType_cls hD1 hD2 ⟨rfl, ?_⟩
  have hsub : PySem.W.Looks (model X.prog X.w) hh (isSubtype (.ref C) (.ref D)) true := PySem.W.looks_mroIn KX TC.sub
  refine PySem.ks_wpAny_call_super hD1 hD2 hx rfl (fun c z => by cases z) hsub (fun h1 e1 k1 => ?_)
  -- its __init__, bound
  have I1 : Inv X [] σ H ⟨h1, g, d, t, os⟩ := I.kept (t' := t) (h' := h1) k1
  have KX1 : X.K.In h1 := I1.kIn
  obtain ⟨t2, hx1⟩ := exo_at I1.hok ea
  have Ia : PySem.W.InstAt h1 a { cls := .ref C, dict := none, data := .fields #[.ref t2, .none, .none, .none, .bool false, .none] } C none := ⟨hx1, rfl, rfl, trivial⟩
  have hI : PySem.W.Looks (model X.prog X.w) h1 (isInstance (.ref a) (.type "ValueError")) true := Ia.type.andThen (PySem.W.looks_subIn KX1 TC.ve)
  obtain ⟨cdC, hC, hchain⟩ : ∃ cd, PySem.W.clsIn X.K C = some cd ∧ PySem.W.alongIn X.K "__init__" ((cd.mro.dropWhile (· != .ref D)).drop 1) = some (some (.builtin "ValueError.__init__")) := by
    have q := TC.chain
    unfold PySem.W.ks_superIn at q
    cases z : PySem.W.clsIn X.K C with
    | none => rw [z] at q; cases q
    | some cd => rw [z] at q; exact ⟨cd, rfl, q⟩
  have hmro : PySem.W.Looks (model X.prog X.w) h1 (mroOf (.ref C)) cdC.mro := fun A Q E s k q => wpAny_bind ((PySem.W.looks_clsIn KX1 hC) A _ E s k (wpAny_pure q))
  refine PySem.W.kxs_getMethod PySem.W.kxs_ValueError e1 (PySem.W.looks_opaque KX1 T.third) hmro rfl KX1 hchain hI (PySem.W.ks_ne KX1 Ia hC) (by decide) ?_
  -- the call
  have hmw : (h1.push (PySem.W.kxs_mw "ValueError.__init__" a)).get? h1.objs.size = some (PySem.W.kxs_mw "ValueError.__init__" a) := Heap.get?_push_at rfl rfl
  have I2 : Inv X [] σ H ⟨h1.push (PySem.W.kxs_mw "ValueError.__init__" a), g, d, t + 1, os⟩ := I1.kept (t' := t + 1) fun b o z => Heap.get?_push_of_some _ z
  have nh : H h1.objs.size = none := I1.hok.fresh (Nat.le_refl _)
  have hns : ∀ s', Inv X [(h1.objs.size, PySem.W.kxs_mw "ValueError.__init__" a)] σ H s' → s'.heap.get? h1.objs.size = some (PySem.W.kxs_mw "ValueError.__init__" a) := fun s' J => (J.pin _ (List.mem_append_right _ List.mem_cons_self)).1
  have I3 : Inv X [(h1.objs.size, PySem.W.kxs_mw "ValueError.__init__" a)] σ H ⟨h1.push (PySem.W.kxs_mw "ValueError.__init__" a), g, d, t + 1, os⟩ := I2.pins_of fun p hp => by
    have ep : p = (h1.objs.size, PySem.W.kxs_mw "ValueError.__init__" a) := by simpa using hp
    subst ep
    refine ⟨hmw, nh, ?_, I1.nofs (Nat.le_refl _), fun v z => by cases z⟩
    have := I1.lt
    exact fun z => absurd (show h1.objs.size < h1.objs.size from by rw [← z] at this; exact this) (Nat.lt_irrefl _)
  show wpAny _ _ (callWith p3 (.ref h1.objs.size) [] (backTo p3 (starEach (e :: es) X.env)) []) _ _ _
  rw [hst]
  refine PySem.W.kxs_callWith (i := "ValueError.__init__") (x := a) (by show (false || (backTo p3 (starEach es X.env)).any (·.1)) = false; rw [hpl]; rfl) ?_
  refine Calls.evalArgs_plain ?_
  have hA := ha.run p3 [(h1.objs.size, PySem.W.kxs_mw "ValueError.__init__" a)] _ σ H _ I3 hta
  rw [hst] at hA
  refine thn hA fun us s4 hq => ?_
  obtain ⟨ws, H4, I4, rv, rfl, hlen⟩ := hq
  refine ⟨hns s4 I4, ?_⟩
  show wpAny _ _ (call (.ref h1.objs.size) us) _ _ _
  have hu := hns s4 I4
  obtain ⟨t4, hx4⟩ := exo_at I4.hok ea
  obtain ⟨nm, q, N, bs, bm, sn, sub, ab, col, dd, k0, k1', k2, k3, k5, hCl, hbm⟩ := TC.T.cls
  have KX4 : X.K.In s4.heap := I4.kIn
  obtain ⟨h4, g4, d4, tk4, os4⟩ := s4
  have hz : us.length ≤ sizeLine := by
    rw [← Paired.length rv, sizeLine_eq]; omega
  refine wpAny_call (codeAny_of_tree ?_)
  show wpAny _ X.A.in1 (callAny (.ref h1.objs.size) ⟨us, []⟩) _ _ _
  simp only [callAny]
  refine wpAny_bind (wpAny_load hu ?_)
  simp only [PySem.W.kxs_mw, show (Value.type "method-wrapper" == Value.type "method" || Value.type "method-wrapper" == Value.type "builtin_function_or_method" || Value.type "method-wrapper" == Value.type "method-wrapper") = true by decide, if_true]
  refine PySem.W.KFB.if_so (by decide) ?_
  refine wpAny_bind (PySem.W.check_bound_init PySem.F.excBase_ValueError.toExcCallFacts (KX4 _ _ hCl) hx4 rfl ?_)
  refine wpAny_bind (wpAny_pure (wpAny_pure ?_))
  refine ⟨plainId_quiet PySem.F.excBase_ValueError.init.plain _, codeAny_builtin PySem.F.excBase_ValueError.initEntry ?_⟩
  refine PySem.W.exc_init_tree (cls := .ref C) (t0 := t4) (dv := none) (c2 := .none) (c3 := .none) (b4 := .bool false) hx4 hz fun h5 k5' e5 _ => ?_
  have J := I4.write (t' := tk4) (x := a) (e := a) (o := exo a C none) (by rw [ea]; exact True.intro) (.inl rfl) k5' ⟨_, e5⟩ (exo_ok e5)
  have eu : L2.upd H4 a (exo a C none) = H4 := by
    funext b
    by_cases hb : b = a
    · rw [hb, upd_same, ea]
    · rw [upd_ne hb]
  rw [eu] at J
  exact ⟨trivial, J.pins_of fun p hp => by cases hp⟩
end
end Mini
end

section
/-! Mini: the __init__ of an own exception as a promise; what is made of it (own work). -/
namespace Mini
open PySem PySem.Spec PyProof.Rows L2

/-- the context of the body of an __init__ -/
def cxI (P : Program) (w : World) (K : PySem.W.Frag) (mg : Str → Option Value) (base : Heap) (N : List Str) (qual : Str) (scope : Scope) (f cda cc : Addr) (A : Around) (outer : List PySem.Env) (s : Shared) (H : Hp) (E : XK) : Cx where
  prog := P
  w := w
  K := K
  mg := mg
  base := base
  A := A.deeper (PySem.W.envX qual scope s.heap.objs.size f (.ref cda) [("__class__", cc)])
  N := N
  s_0 := s
  H_0 := H
  env := PySem.W.envX qual scope s.heap.objs.size f (.ref cda) [("__class__", cc)]
  outer := outer
  stack := PySem.W.envX qual scope s.heap.objs.size f (.ref cda) [("__class__", cc)] :: outer
  ex := []
  calm := true
  fn := fun _ => false
  pn := []
  xe := fun e s' => wpAny (model P w) (A.deeper (PySem.W.envX qual scope s.heap.objs.size f (.ref cda) [("__class__", cc)])) (leaving (PySem.W.envX qual scope s.heap.objs.size f (.ref cda) [("__class__", cc)]) e) (fun _ s'' => L2.CX P w outer H s E e s'') (fun e' s'' => L2.CX P w outer H s E e' s'') s'

/-- the names of an __init__ -/
structure IScope (N : List Str) (sc : Scope) : Prop where
  kind : sc.kind = .function
  co : sc.isCoroutine = false
  gen : sc.isGenerator = false
  nd : N.Nodup
  loc : ∀ x ∈ N, sc.names.lookup x = some .local
  cell : ∀ y ∈ sc.names, y.2 ≠ .cell
  free : ∀ y ∈ sc.names, y.2 = .free → y.1 = "__class__"
  sup : sc.names.lookup ("super" : Str) = some .globalImplicit
  cls : sc.names.lookup ("__class__" : Str) = some .free

section
variable {P : Program} {w : World} {K : PySem.W.Frag} {mg : Str → Option Value} {base : Heap} {N : List Str} {qual : Str} {scope : Scope} {f cda cc D : Addr} {A : Around} {outer : List PySem.Env} {s : Shared} {H : Hp} {E : XK} {us : List Value} {vs : List V}
theorem zip_look : ∀ {N : List Str} {us : List Value} {i : Nat} {x : Str} {u : Value}, N.Nodup → N[i]? = some x → us[i]? = some u → us.length = N.length → (N.zip us).reverse.lookup x = some u := by
  have key : ∀ {l : List (Str × Value)} {x : Str} {u : Value}, (x, u) ∈ l → (l.map (·.1)).Nodup → l.lookup x = some u := by
    intro l
    induction l with
    | nil => intro x u h; cases h
    | cons p l ih =>
      intro x u h nd
      obtain ⟨y, v⟩ := p
      rw [List.map_cons, List.nodup_cons] at nd
      rcases List.mem_cons.mp h with e | e
      · cases e; simp [List.lookup]
      · have : x ≠ y := by rintro rfl; exact nd.1 (List.mem_map.mpr ⟨_, e, rfl⟩)
        have hb : (x == y) = false := by simpa using this
        simp [List.lookup, hb, ih e nd.2]
  intro N us i x u nd h1 h2 hl
  refine key (List.mem_reverse.mpr ?_) ?_
  · refine List.mem_iff_getElem?.mpr ⟨i, ?_⟩
    rw [List.getElem?_zip_eq_some]
    exact ⟨h1, h2⟩
  · rw [List.map_reverse]; refine List.pairwise_reverse.mpr (List.Pairwise.imp (fun h => Ne.symm h) ?_)
    have : (N.zip us).map (·.1) = N := List.map_fst_zip (by omega)
    rw [this]; exact nd
theorem inv_init (S : IScope N scope) (T : InitIn P K f cc D cda qual) (hd : A.handled = none) (e0 : Env0 P w K mg base A outer s H) (hl : vs.length = N.length) (r : Vals vs us) {h₀ : Heap} {t : Nat}
    (hn : h₀.Ns s.heap.objs.size (fun x => (N.zip us).reverse.lookup x)) (hk : ∀ b o, s.heap.get? b = some o → h₀.get? b = some o) :
    Inv (cxI P w K mg base N qual scope f cda cc A outer s H E) [] (vs.map some) H { s with heap := h₀, toks := t } := by
  obtain ⟨occ, odc, slc, hcell⟩ := T.cell
  have KX : K.In base := e0.mod.kin
  have hcc : base.get? cc = some ⟨occ, odc, .cell (some (.ref D)), slc⟩ := KX _ _ hcell
  have hcs := e0.bs _ _ hcc
  have one : ∀ {x : Str} {c : Addr}, (cxI P w K mg base N qual scope f cda cc A outer s H E).env.cells.lookup x = some c → x = "__class__" ∧ c = cc := by
    intro x c h
    have h' : ([(("__class__" : Str), cc)] : List (Str × Addr)).lookup x = some c := h
    by_cases hx : x = "__class__"
    · subst hx
      simp [List.lookup] at h'
      exact ⟨rfl, h'.symm⟩
    · have hb : (x == ("__class__" : Str)) = false := by simpa using hx
      simp [List.lookup, hb] at h'
  have noA : ∀ b : Addr, b ∉ (cxI P w K mg base N qual scope f cda cc A outer s H E).ex := fun b z => absurd (show b ∈ ([] : List Addr) from z) (by simp)
  have hlu : us.length = N.length := by rw [← r.length]; exact hl
  refine ⟨⟨e0.mod, S.kind, rfl, rfl, Nat.le_refl _, fun y z c h1 h2 => (one h1).1.trans (one h2).1.symm, fun y hy => ?_, fun y c hf _ => ?_, fun _ => hd, Around.frames_deeper e0.frames, .inr ⟨rfl, rfl⟩, fun b z => absurd z (noA b), e0.bs, e0.bsz, fun b _ _ => noA b, fun b z => absurd z (noA b), e0.funs, e0.frf⟩,
    rfl, e0.bare, Un.kept hk, ⟨_, hn, fun i y v h1 h2 h3 => ?_⟩, fun y c h => ?_, e0.hok.fresh (Nat.le_refl _), fun y c h => ?_, fun p hp => absurd (show p ∈ ([] : List (Addr × Obj)) from hp) (by simp), e0.hok.kept hk, ?_⟩
  · have hy : scope.names.lookup y = some .cell ∨ scope.names.lookup y = some .free := hy
    rcases hy with hy | hy
    · exact absurd rfl (S.cell _ (PySem.mem_of_lookup hy))
    · have : y = "__class__" := S.free _ (PySem.mem_of_lookup hy) rfl
      subst this
      exact ⟨cc, rfl⟩
  · cases hf
  · have ha : vs[i]? = some v := by
      rw [List.getElem?_map] at h2
      cases e : vs[i]? with
      | none => rw [e] at h2; cases h2
      | some a => rw [e] at h2; cases h2; rfl
    obtain ⟨u, hu, rv⟩ := r.get ha
    have hi : N[i]? = some y := h1
    exact ⟨u, rv, .inl ⟨S.loc y (List.mem_of_getElem? hi), zip_look S.nd hi hu hlu⟩⟩
  · obtain ⟨_, e⟩ := one h
    subst e
    exact ⟨_, _, hk _ _ hcs.1, rfl⟩
  · obtain ⟨_, e⟩ := one h
    subst e
    exact hcs.2
  · show (vs.map some).length = N.length
    rw [List.length_map]; exact hl
theorem call_form {o : PySem.Expr} {nm : Str} {ap pos : Pos} {es : List PySem.Expr} {env : PySem.Env} (hf : methodCallForm (es.length + ([] : List Keyword).length) (backTo pos (starEach es env)) (backToKw pos (keywordEach [] env)) = true) (hl : (ap.endLine == pos.line) = true) :
    eval (.Call (.Attribute o nm ap) es [] pos) env = (do
      let ov ← attributeBase o nm env (eval o env)
      standAt ap.atName
      let (f, first) ← holding [ov] (getMethod ov nm (do return (← importBound o env).getD true))
      callWith pos f first (backTo pos (starEach es env)) []) := by
  rw [arm_eval_Call]
  unfold methodCall
  have h2 : methodCallPos true o env ap pos = pure pos := by unfold methodCallPos; simp [hl]
  rw [hf, h2]
  rfl
variable {name : Str} {params : Arguments} {dV kV doc pm ct oc : Value} {an od : Option Addr} {osl : Array (Option Value)} {k : Nat} {self x fl : Str} {p0 p1 p2 p3 p4 p5 p6 p7 p8 p9 : Pos} {ar : Arg}
theorem init_fn1 (lk : K.lookup f = some ⟨oc, od, .func (PySem.W.fnX name qual params [.Expr (.Call (.Attribute (.Call (.Name "super" p0) [] [] p1) "__init__" p2) [.Name x p5] [] p3) p4, .Assign [.Attribute (.Name self p6) fl p7] (.Name x p8) p9] scope [("__class__", cc)] dV kV doc pm an (.ref cda) ct), osl⟩)
    (hcd : PySem.W.codeIn K (.ref cda) qual = true) (S : IScope [self, x] scope) (T : InitIn P K f cc D cda qual) (hp : (params.posonlyargs ++ params.args).head? = some ar) (hs : ar.arg = self)
    (hline : (p2.endLine == p3.line) = true) (d1 : (self == ("__debug__" : Str)) = false) (d2 : (x == ("__debug__" : Str)) = false) (d3 : (self == ("__classdict__" : Str)) = false) (d4 : (x == ("__classdict__" : Str)) = false) :
    FnOk P w K mg base (L2.CX P w) (k + 1) f (PySem.W.fnX name qual params [.Expr (.Call (.Attribute (.Call (.Name "super" p0) [] [] p1) "__init__" p2) [.Name x p5] [] p3) p4, .Assign [.Attribute (.Name self p6) fl p7] (.Name x p8) p9] scope [("__class__", cc)] dV kV doc pm an (.ref cda) ct) [self, x] (spN K D [fl]) := by
  refine ⟨fun vs H Q E ⟨a, C, ys, e, l, _⟩ => by rw [e, List.length_cons, l]; rfl, fun A outer s H args us vs Q E hr e0 hb r hsp => ?_⟩
  obtain ⟨a, C, ys, rfl, hly, TC, hnos, ea, hq⟩ := hsp
  obtain ⟨y, rfl⟩ : ∃ y, ys = [y] := by
    match ys, hly with
    | [y], _ => exact ⟨y, rfl⟩
  have hno := hnos fl List.mem_cons_self
  have KX : K.In s.heap := e0.mod.kin.keeps fun b o e => (e0.bs b o e).1
  have lim : s.heap.NoLimit := e0.mod.nolimit.keeps fun b o e => (e0.bs b o e).1
  refine PySem.ks_codeAny_call_defAt hr.depth (KX _ _ lk) rfl lim (PySem.W.codeRec_of KX hcd) rfl hb S.cell (fun z hz => S.loc z.1 (List.of_mem_zip (a := z.1) (b := z.2) hz).1) (fun h₀ hn hk => ?_) S.co S.gen S.kind
  have I : Inv (cxI P w K mg base [self, x] qual scope f cda cc A outer s H E) [] ([V.ref a, y].map some) H { s with heap := h₀, toks := s.toks + ([self, x].zip us).length } := inv_init S T hr.hd e0 rfl r hn hk
  have ls : scope.names.lookup self = some .local := S.loc self List.mem_cons_self
  have lx : scope.names.lookup x = some .local := S.loc x (List.mem_cons_of_mem _ List.mem_cons_self)
  have hself : PE (cxI P w K mg base [self, x] qual scope f cda cc A outer s H E) (.Name self p6) (tVar 0) := pe_var rfl (.inl ls) d1 d3
  have hx : ∀ p, PE (cxI P w K mg base [self, x] qual scope f cda cc A outer s H E) (.Name x p) (tVar 1) := fun p => pe_var rfl (.inl lx) d2 d4
  refine PySem.ks_wpAt_execs_cons ?_
  refine PySem.ks_wpAt_mono (super_stmt (X := cxI P w K mg base [self, x] qual scope f cda cc A outer s H E) (a := a) (C := C) (p0 := p0) (p1 := p1) (p2 := p2) (p3 := p3) (e := .Name x p5) (es := []) T TC rfl S.sup S.cls lk rfl hp (by rw [hs]; rfl) (by rw [hs]; exact ls) rfl I ea (pa_cons (hx p5) pa_nil) ?_ (plain_star rfl _ _) rfl (call_form rfl hline)) (fun fl' s' hf => ?_) fun e s' z => z
  · exact ⟨y, rfl, rfl, by simp⟩
  · obtain ⟨rfl, J⟩ := hf
    refine wpAt_of_wpAny ?_
    have hst := pss_cons (ps_ost (f := fl) (p' := p7) (pos := p9) hself (hx p8)) pss_nil
    refine wpAny_mono (hst.run [] s' _ H { nx := fun _ H' => Q .non H', rt := Q } J ?_) (fun fl s' hs => ?_) fun e s' hs => hs
    · exact ⟨y, rfl, .ref a, rfl, a, C, rfl, TC.T, hno, .inl ⟨ea, hq⟩⟩
    · have fin : ∀ {σ' : L2.St} {H' : Hp} {v : V} {u : Value}, Inv (cxI P w K mg base [self, x] qual scope f cda cc A outer s H E) [] σ' H' s' → RelV v u → Q v H' → CE outer P w H s Q u s' :=
        fun {σ' H' v u} J rv q => ⟨v, H', J.os, J.bare, J.base, J.hok, rv, q⟩
      cases fl with
      | ret u =>
        obtain ⟨v, σ', H', J, rv, q⟩ := hs
        exact fin J rv q
      | next =>
        obtain ⟨σ', H', J, q⟩ := hs
        exact fin (v := V.non) (u := Value.none) J rfl q
      | brk =>
        obtain ⟨_, _, _, q⟩ := hs
        exact False.elim q
      | cont =>
        obtain ⟨_, _, _, q⟩ := hs
        exact False.elim q
theorem init_fn2 {z gl : Str} {q5 q6 q7 q8 q9 : Pos} (lk : K.lookup f = some ⟨oc, od, .func (PySem.W.fnX name qual params [.Expr (.Call (.Attribute (.Call (.Name "super" p0) [] [] p1) "__init__" p2) [.Name x p5, .Name z q5] [] p3) p4, .Assign [.Attribute (.Name self p6) fl p7] (.Name x p8) p9, .Assign [.Attribute (.Name self q6) gl q7] (.Name z q8) q9] scope [("__class__", cc)] dV kV doc pm an (.ref cda) ct), osl⟩)
    (hcd : PySem.W.codeIn K (.ref cda) qual = true) (S : IScope [self, x, z] scope) (T : InitIn P K f cc D cda qual) (hp : (params.posonlyargs ++ params.args).head? = some ar) (hs : ar.arg = self)
    (hline : (p2.endLine == p3.line) = true) (d1 : (self == ("__debug__" : Str)) = false) (d2 : (x == ("__debug__" : Str)) = false) (d3 : (self == ("__classdict__" : Str)) = false) (d4 : (x == ("__classdict__" : Str)) = false) (d5 : (z == ("__debug__" : Str)) = false) (d6 : (z == ("__classdict__" : Str)) = false) :
    FnOk P w K mg base (L2.CX P w) (k + 1) f (PySem.W.fnX name qual params [.Expr (.Call (.Attribute (.Call (.Name "super" p0) [] [] p1) "__init__" p2) [.Name x p5, .Name z q5] [] p3) p4, .Assign [.Attribute (.Name self p6) fl p7] (.Name x p8) p9, .Assign [.Attribute (.Name self q6) gl q7] (.Name z q8) q9] scope [("__class__", cc)] dV kV doc pm an (.ref cda) ct) [self, x, z] (spN K D [fl, gl]) := by
  refine ⟨fun vs H Q E ⟨a, C, ys, e, l, _⟩ => by rw [e, List.length_cons, l]; rfl, fun A outer s H args us vs Q E hr e0 hb r hsp => ?_⟩
  obtain ⟨a, C, ys, rfl, hly, TC, hnos, ea, hq⟩ := hsp
  obtain ⟨y, y2, rfl⟩ : ∃ y y2, ys = [y, y2] := by
    match ys, hly with
    | [y, y2], _ => exact ⟨y, y2, rfl⟩
  have hno := hnos fl List.mem_cons_self
  have hno2 := hnos gl (List.mem_cons_of_mem _ List.mem_cons_self)
  have KX : K.In s.heap := e0.mod.kin.keeps fun b o e => (e0.bs b o e).1
  have lim : s.heap.NoLimit := e0.mod.nolimit.keeps fun b o e => (e0.bs b o e).1
  refine PySem.ks_codeAny_call_defAt hr.depth (KX _ _ lk) rfl lim (PySem.W.codeRec_of KX hcd) rfl hb S.cell (fun zz hz => S.loc zz.1 (List.of_mem_zip (a := zz.1) (b := zz.2) hz).1) (fun h₀ hn hk => ?_) S.co S.gen S.kind
  have I : Inv (cxI P w K mg base [self, x, z] qual scope f cda cc A outer s H E) [] ([V.ref a, y, y2].map some) H { s with heap := h₀, toks := s.toks + ([self, x, z].zip us).length } := inv_init S T hr.hd e0 rfl r hn hk
  have ls : scope.names.lookup self = some .local := S.loc self List.mem_cons_self
  have lx : scope.names.lookup x = some .local := S.loc x (List.mem_cons_of_mem _ List.mem_cons_self)
  have lz : scope.names.lookup z = some .local := S.loc z (List.mem_cons_of_mem _ (List.mem_cons_of_mem _ List.mem_cons_self))
  have hself : ∀ p, PE (cxI P w K mg base [self, x, z] qual scope f cda cc A outer s H E) (.Name self p) (tVar 0) := fun p => pe_var rfl (.inl ls) d1 d3
  have hz : ∀ p, PE (cxI P w K mg base [self, x, z] qual scope f cda cc A outer s H E) (.Name z p) (tVar 2) := fun p => pe_var rfl (.inl lz) d5 d6
  have hx : ∀ p, PE (cxI P w K mg base [self, x, z] qual scope f cda cc A outer s H E) (.Name x p) (tVar 1) := fun p => pe_var rfl (.inl lx) d2 d4
  refine PySem.ks_wpAt_execs_cons ?_
  refine PySem.ks_wpAt_mono (super_stmt (X := cxI P w K mg base [self, x, z] qual scope f cda cc A outer s H E) (a := a) (C := C) (p0 := p0) (p1 := p1) (p2 := p2) (p3 := p3) (e := .Name x p5) (es := [.Name z q5]) T TC rfl S.sup S.cls lk rfl hp (by rw [hs]; rfl) (by rw [hs]; exact ls) rfl I ea (pa_cons (hx p5) (pa_cons (hz q5) pa_nil)) ?_ (plain_star rfl _ _) rfl (call_form rfl hline)) (fun fl' s' hf => ?_) fun e s' zz => zz
  · exact ⟨y, rfl, y2, rfl, rfl, by simp⟩
  · obtain ⟨rfl, J⟩ := hf
    refine wpAt_of_wpAny ?_
    have hst := pss_cons (ps_ost (f := fl) (p' := p7) (pos := p9) (hself p6) (hx p8)) (pss_cons (ps_ost (f := gl) (p' := q7) (pos := q9) (hself q6) (hz q8)) pss_nil)
    refine wpAny_mono (hst.run [] s' _ H { nx := fun _ H' => Q .non H', rt := Q } J ?_) (fun fl s' hs => ?_) fun e s' hs => hs
    · refine ⟨y, rfl, .ref a, rfl, a, C, rfl, TC.T, hno, .inl ⟨ea, fun dx nx ne => ⟨y2, rfl, .ref a, rfl, a, C, rfl, TC.T, hno2, .inr ⟨dx, _, upd_same, by rw [upd_ne ne, upd_same], by simp, ?_⟩⟩⟩⟩
      have eH : L2.upd (L2.upd (L2.upd H dx (exd dx [(fl, y)])) a (exo a C (some dx))) dx (exd dx [(gl, y2), (fl, y)]) = L2.upd (L2.upd H dx (exd dx [(gl, y2), (fl, y)])) a (exo a C (some dx)) := by
        funext b
        by_cases hb : b = dx
        · subst hb; rw [upd_same, upd_ne ne, upd_same]
        · rw [upd_ne hb]
          by_cases hba : b = a
          · subst hba; rw [upd_same, upd_same]
          · rw [upd_ne hba, upd_ne hba, upd_ne hb, upd_ne hb]
      rw [eH]
      exact hq dx nx ne
    · have fin : ∀ {σ' : L2.St} {H' : Hp} {v : V} {u : Value}, Inv (cxI P w K mg base [self, x, z] qual scope f cda cc A outer s H E) [] σ' H' s' → RelV v u → Q v H' → CE outer P w H s Q u s' :=
        fun {σ' H' v u} J rv q => ⟨v, H', J.os, J.bare, J.base, J.hok, rv, q⟩
      cases fl with
      | ret u =>
        obtain ⟨v, σ', H', J, rv, q⟩ := hs
        exact fin J rv q
      | next =>
        obtain ⟨σ', H', J, q⟩ := hs
        exact fin (v := V.non) (u := Value.none) J rfl q
      | brk =>
        obtain ⟨_, _, _, q⟩ := hs
        exact False.elim q
      | cont =>
        obtain ⟨_, _, _, q⟩ := hs
        exact False.elim q
end
end Mini
end

section
/-! Mini: raise, try, two stores at once, in-place items; every statement (own work). -/
namespace Mini
open PySem PySem.Spec PyProof.Rows L2

/-! ### raise -/
section
variable {β : Type}
theorem zip_lookB : ∀ {N : List Str} {us : List β} {i : Nat} {x : Str} {u : β}, N.Nodup → N[i]? = some x → us[i]? = some u → us.length = N.length → (N.zip us).reverse.lookup x = some u := by
  have key : ∀ {l : List (Str × β)} {x : Str} {u : β}, (x, u) ∈ l → (l.map (·.1)).Nodup → l.lookup x = some u := by
    intro l
    induction l with
    | nil => intro x u h; cases h
    | cons p l ih =>
      intro x u h nd
      obtain ⟨y, v⟩ := p
      rw [List.map_cons, List.nodup_cons] at nd
      rcases List.mem_cons.mp h with e | e
      · cases e; simp [List.lookup]
      · have : x ≠ y := by rintro rfl; exact nd.1 (List.mem_map.mpr ⟨_, e, rfl⟩)
        have hb : (x == y) = false := by simpa using this
        simp [List.lookup, hb, ih e nd.2]
  intro N us i x u nd h1 h2 hl
  refine key (List.mem_reverse.mpr ?_) ?_
  · refine List.mem_iff_getElem?.mpr ⟨i, ?_⟩
    rw [List.getElem?_zip_eq_some]
    exact ⟨h1, h2⟩
  · rw [List.map_reverse]; refine List.pairwise_reverse.mpr (List.Pairwise.imp (fun h => Ne.symm h) ?_)
    have : (N.zip us).map (·.1) = N := List.map_fst_zip (by omega)
    rw [this]; exact nd
theorem zip_ix : ∀ {N : List Str} {us : List β} {x : Str} {u : β}, (N.zip us).lookup x = some u → ∃ i : Nat, N[i]? = some x ∧ us[i]? = some u
  | [], us, x, u, h => by cases h
  | n :: N, [], x, u, h => by cases h
  | n :: N, v :: us, x, u, h => by
    rw [List.zip_cons_cons] at h
    by_cases e : x = n
    · subst e
      simp [List.lookup] at h
      exact ⟨0, rfl, by rw [← h]; rfl⟩
    · have hb : (x == n) = false := by simpa using e
      simp [List.lookup, hb] at h
      obtain ⟨i, a, b⟩ := zip_ix h
      exact ⟨i + 1, a, b⟩
end
section
variable {C : List Cl} {ca : Nat → Addr} {call : Caller} {k : Nat}
theorem xf_zip {K : PySem.W.Frag} {ρ : List Addr} {H : Hp} {c : Nat} {k0 : Cl} {fs : List D} {ys : List V} (hk : C[c]? = some k0) (nd : k0.flds.Nodup) (r : RVs K ρ H ys fs) (hl : ys.length = k0.flds.length) : XF K C ρ H c fs (k0.flds.zip ys).reverse := by
  refine ⟨k0, hk, fun x d e => ?_⟩
  obtain ⟨i, e1, e2⟩ := zip_ix e
  obtain ⟨v, e3, e4⟩ := r.get e2
  exact ⟨v, zip_lookB nd e1 e3 hl, e4⟩
theorem pass_no {X : Cx} : Passes (L2.CX X.prog X.w) X (fun _ _ _ => False) := fun pins σ H s e s' _ ⟨_, _, _, _, _, _, _, _, _, _, _, _, q⟩ => q.elim
theorem inv_raise {Γ : Gm} {c : Nat} {es : E} {x : PySem.Stmt} (h : ckS (.raise c es) Γ x = true) : ∃ y py t ts q p, x = .Raise (some (.Call (.Name y py) (t :: ts) [] q)) none p ∧ glb Γ.sc y = true ∧ dbg y = false ∧ (y, c, 0) ∈ Γ.cls ∧ ckEs es Γ (t :: ts) = true := by
  cases x <;> first | (cases h; done) | skip
  rename_i e cs p
  cases e with
  | none => cases h
  | some e =>
    cases e <;> first | (cases h; done) | skip
    rename_i f ts ks q
    cases f <;> first | (cases h; done) | skip
    rename_i y py
    cases ks with
    | cons _ _ => cases h
    | nil =>
      cases cs with
      | some _ => cases h
      | none =>
        have h' : (glb Γ.sc y && !dbg y && (Γ.cls.any fun p => p.1 == y && p.2.1 == c && p.2.2 == 0) && !ts.isEmpty && ckEs es Γ ts) = true := h
        simp only [Bool.and_eq_true, Bool.not_eq_true'] at h'
        obtain ⟨⟨⟨⟨h1, h2⟩, h3⟩, h4⟩, h5⟩ := h'
        cases ts with
        | nil => cases h4
        | cons t ts =>
          refine ⟨y, py, t, ts, q, p, rfl, h1, h2, ?_, h5⟩
          rw [List.any_eq_true] at h3
          obtain ⟨⟨a, b, m⟩, mm, q⟩ := h3
          simp only [Bool.and_eq_true, beq_iff_eq] at q
          obtain ⟨⟨rfl, rfl⟩, rfl⟩ := q
          exact mm
theorem snd_raise {c : Nat} {es : E} : SndS C ca call k (.raise c es) := by
  refine ⟨fun Γ X W x o po hk h => ?_, fun Γ X W x _ _ _ h => ff h (by cases x <;> rfl)⟩
  obtain ⟨y, py, t, ts, q, p, rfl, h1, h2, h3, h5⟩ := inv_raise h
  by_cases hc : canR C c = true
  case neg =>
    refine ⟨fun pins s σ H D I hh => ?_⟩
    exfalso
    obtain ⟨ρ, hh, env, w, er, p⟩ := hh
    unfold exec at p
    rw [if_neg hc] at p
    exact p
  case pos =>
    obtain ⟨k0, e0, hne⟩ : ∃ k0, C[c]? = some k0 ∧ k0.flds ≠ [] := by
      unfold canR at hc
      split at hc
      · rename_i k0 e0
        refine ⟨k0, e0, fun z => ?_⟩
        rw [z] at hc
        cases hc
      · cases hc
    have e9 : ∀ env h, exec call C (.raise c es) env h = bns (evs call es env h) env fun vs h1 => if okFl C c vs then some (.exc c vs env h1) else none := fun env h => by
      show (if canR C c then _ else none) = _
      rw [if_pos hc]
    obtain ⟨nd, D0, fI, fd, ps, m1, TC, m3, m4, F, B⟩ := o.clf.rs y c h3 k0 e0 hne
    have pl := ckEs_plain h5
    have pl' : plainX t = true ∧ ts.all plainX = true := by simpa using pl
    refine PS.imp (ps_raise o.hc o.tk (pmk_oex TC.T m3 m4 F (o.rm.mono (by omega)) B .nil pass_no (glb_of o h1) m1 ((snd_all es).1.s Γ X W _ o h5) h2 (plain_star pl'.1 _ _) (plain_any pl'.2))) ?_
    rintro D σ H ⟨ρ, hh, env, w, er, p⟩
    rw [e9] at p
    refine ⟨ρ, hh, env, w, er, PostS.bns Xt.refl w er p fun fs h1 ρ1 H1 ys p1 y1 z1 w1 er1 r1 => ?_⟩
    have r1' : RVs X.K ρ1 H1 ys fs := r1
    by_cases hok : okFl C c fs = true
    · rw [if_pos hok] at p1
      unfold okFl at hok
      rw [e0] at hok
      simp only [Bool.and_eq_true, decide_eq_true_eq] at hok
      have hl : ys.length = k0.flds.length := by rw [r1'.len]; exact hok.1.1
      refine ⟨by rw [r1'.len]; exact hok.2, fun a na => ⟨a, ca c, ys, by simp, hl, TC, (o.clf.ex c k0 e0).2, upd_same, fun dx nx ne => ⟨rfl, ?_⟩⟩⟩
      have nx' : H1 dx = none := by rw [upd_ne ne] at nx; exact nx
      have eH : L2.upd (del (L2.upd (L2.upd (L2.upd H1 a (exo a (ca c) none)) dx (exd dx (k0.flds.zip ys).reverse)) a (exo a (ca c) (some dx))) a) dx (.xd (k0.flds.zip ys).reverse) = L2.upd H1 dx (.xd (k0.flds.zip ys).reverse) := by
        funext b
        by_cases hb : b = dx
        · subst hb; rw [upd_same, upd_same]
        · rw [upd_ne hb, upd_ne hb]
          by_cases hba : b = a
          · subst hba; rw [del_same]; exact na.symm
          · rw [del_ne hba, upd_ne hba, upd_ne hb, upd_ne hba]
      refine ⟨dx, _, upd_same, by rw [upd_ne ne, upd_same], nx', ?_⟩
      rw [eH]
      have x2 : Xt ρ1 H1 ρ1 (L2.upd H1 dx (.xd (k0.flds.zip ys).reverse)) := xt_new nx'
      exact p1 ρ1 _ σ dx _ (z1.trans x2) (w1.new nx') (er1.fwd w1 x2) upd_same (xf_zip e0 nd (w1.rvs x2 r1') hl)
    · rw [if_neg hok] at p1
      exact p1.elim
end
end Mini
end

section
/-! Mini: the suites of except clauses; a try with several clauses (own work). -/
namespace Mini
open PySem PySem.Spec PyProof.Rows L2

/-! ### isinstance of the caught exception -/
theorem call_isX {X : Cx} {a Dc dd : Addr} {oe : Obj} (hp : (a, oe) ∈ X.pn) (T : ExcC X.K Dc) (hz : Zc (.ref Dc) (some dd) oe) (hf : ∃ vs, oe.data = .fields vs) :
    CallR X (.builtin "isinstance") (fun xs H Q => ∃ (c : V) (cv : Value) (b : Bool) (fl : List (Str × V)), xs = [.ref a, c] ∧ (∀ u, RelV c u → u = cv) ∧ PySem.W.kitOne X.K (.ref Dc) cv = some b ∧ H dd = some (.xd fl) ∧ Q (.bl b) H) := by
  intro pins s σ H xs us Q I r h
  obtain ⟨c, cv, b, fl, rfl, hcv, e, hx, q⟩ := h
  match us, r with
  | [u1, u2], .cons rx (.cons rt .nil) =>
    obtain rfl : u1 = Value.ref a := rx
    obtain rfl := hcv _ rt
    obtain ⟨he, _⟩ := I.pin (a, oe) (List.mem_append_left _ hp)
    obtain ⟨vs, hv⟩ := hf
    have ho : ObjOk X.prog X.w H s.heap dd (.xd fl) := I.hok dd _ hx
    obtain ⟨mA, hns, _⟩ := ho
    obtain ⟨od, hod, _⟩ := lookIn_ns hns
    have J : PySem.W.InstAt s.heap a oe Dc (some od) := ⟨he, hz.1, by unfold PySem.W.notCls; rw [hv] <;> rfl, by rw [hz.2]; exact hod⟩
    have hcl : (PySem.W.clsIn X.K Dc).isSome = true := by
      obtain ⟨cd, hc, _⟩ := PySem.W.any_some T.hd
      rw [hc]; rfl
    exact PySem.W.kia_one (PySem.W.kitx_exc hcl T.hg T.hk T.hs T.ha T.hn T.ht T.hm) I.kIn J e (fun z => nomatch z) fun tk => ⟨.bl b, H, I.kept (t' := tk) fun _ _ z => z, rfl, q⟩

section
variable {C : List Cl} {ca : Nat → Addr} {call : Caller} {k : Nat}
theorem Wd.noxd {K : PySem.W.Frag} {ρ : List Addr} {h : List O} {H : Hp} (w : Wd K ρ h H) {a : Addr} {fl : List (Str × V)} (e : H a = some (.xd fl)) : a ∉ ρ := fun m => by
  obtain ⟨n, hn, ea⟩ := List.getElem_of_mem m
  obtain ⟨o, _, r⟩ := w.get (n := n) (a := a) (by rw [List.getElem?_eq_getElem hn, ea])
  cases o with
  | lst xs => obtain ⟨ws, e1, _⟩ := r; rw [e] at e1; cases e1
  | ro xs => obtain ⟨o', ws, e1, _⟩ := r; rw [e] at e1; cases e1
  | dct lk t kvs =>
    obtain ⟨u, hu, e1⟩ := or_dct r
    rcases hu with ⟨ws, rfl⟩ | ⟨ws, rfl⟩ <;> rcases e1 with e1 | ⟨o, e1⟩ <;> (rw [e] at e1; cases e1)
  | tpl xs => obtain ⟨o', ws, e1, _⟩ := r; rw [e] at e1; cases e1
theorem XF.fwd {K : PySem.W.Frag} {ρ ρ' : List Addr} {h : List O} {H H' : Hp} {c : Nat} {fs : List D} {fl : List (Str × V)} (w : Wd K ρ h H) (x : Xt ρ H ρ' H') (f : XF K C ρ H c fs fl) : XF K C ρ' H' c fs fl := by
  obtain ⟨k0, e, q⟩ := f
  exact ⟨k0, e, fun y d l => let ⟨v, a, b⟩ := q y d l; ⟨v, a, w.rv x b⟩⟩
/-- within a suite: the name's slot i holds the exception at a, of class c, its fields fs in dd -/
structure SuX (K : PySem.W.Frag) (C : List Cl) (i : Nat) (a dd : Addr) (c : Nat) (fs : List D) (ρ : List Addr) (h : List O) (σ : L2.St) (H : Hp) : Prop where
  sl : σ[i]? = some (some (.ref a))
  w : Wd K ρ h H
  f : ∃ fl, H dd = some (.xd fl) ∧ XF K C ρ H c fs fl
theorem SuX.fwd {K : PySem.W.Frag} {i c : Nat} {a dd : Addr} {fs : List D} {ρ ρ' : List Addr} {h h' : List O} {σ : L2.St} {H H' : Hp} (s : SuX K C i a dd c fs ρ h σ H) (x : Xt ρ H ρ' H') (w' : Wd K ρ' h' H') : SuX K C i a dd c fs ρ' h' σ H' := by
  obtain ⟨fl, e, f⟩ := s.f
  exact ⟨s.sl, w', fl, x.frame dd _ e (s.w.noxd e), XF.fwd s.w x f⟩
section
variable (K : PySem.W.Frag) (C : List Cl) (i : Nat) (a dd : Addr) (c : Nat) (fs : List D)
def tX (ir : E) : TE := fun σ H Q => ∃ ρ h d h', SuX K C i a dd c fs ρ h σ H ∧ evX C c fs ir h = some (d, h') ∧ ∀ ρ' H' v, Xt ρ H ρ' H' → Wd K ρ' h' H' → RV K ρ' H' v d → Q v H'
def tXs (ir : E) : TA := fun σ H Q => ∃ ρ h ds h', SuX K C i a dd c fs ρ h σ H ∧ evX.evXs C c fs ir h = some (ds, h') ∧ ∀ ρ' H' v, Xt ρ H ρ' H' → Wd K ρ' h' H' → RVs K ρ' H' v ds → Q v H'
def tXT (ir : E) : TT := fun σ H Q => ∃ ρ h b h', SuX K C i a dd c fs ρ h σ H ∧ evX C c fs ir h = some (.bl b, h') ∧ ∀ ρ' H', Xt ρ H ρ' H' → Wd K ρ' h' H' → Q b H'
end
section
variable {Γ : Gm} {X : Cx} {W : WX} {en : Str} {i c : Nat} {a dd : Addr} {oe : Obj} {pn : List (Addr × Obj)} {fs : List D}
theorem en_pe (o : XOk C ca call k Γ X W) (hi : Γ.N[i]? = some en) (hl : Γ.sc.names.lookup en = some .local) (h1 : dbg en = false) (h2 : (en == ("__classdict__" : Str)) = false) {e : PySem.Expr} (h : isEn en e = true) : PE (X.suite a ((a, oe) :: pn)) e (tVar i) := by
  cases e <;> first | (cases h; done) | skip
  rename_i y p
  have : y = en := beq_iff_eq.mp h
  subst this
  exact pe_var (by show X.N[i]? = _; rw [o.hN]; exact hi) (.inl (by show X.env.scope.names.lookup y = _; rw [o.sc]; exact hl)) h1 h2
theorem nm_pe (o : XOk C ca call k Γ X W) {y : Str} {m : Nat} {v : Value} (hn : Nm X.mg y m v) (hg : glb Γ.sc y = true) (hd : dbg y = false) {p : Pos} : ∃ z : V, (∀ u, RelV z u → u = v) ∧ PE (X.suite a ((a, oe) :: pn)) (.Name y p) (tC z) := by
  have g0 : Gl X y := glb_of o hg
  have g : Gl (X.suite a ((a, oe) :: pn)) y := g0
  rcases hn with ⟨_, m1, b, rfl⟩ | ⟨_, m1, m2, m3, T, rfl⟩
  · exact ⟨.ref b, fun u r => r, pe_glob g m1 rfl hd⟩
  · exact ⟨.ty T, fun u r => r, pe_bltn g m1 m2 rfl m3 hd⟩
theorem isx_ev {ir : Nat} {h : List O} : evX C c fs (.isx ir) h = some (.bl (isAnc C c ir), h) := rfl
theorem isx_pe (o : XOk C ca call k Γ X W) (hi : Γ.N[i]? = some en) (hl : Γ.sc.names.lookup en = some .local) (h1 : dbg en = false) (h2 : (en == ("__classdict__" : Str)) = false) {k0 : Cl} (hc : C[c]? = some k0) (hz : Zc (.ref (ca c)) (some dd) oe) (hf : ∃ vs, oe.data = .fields vs)
    {t : Nat} {e : PySem.Expr} (h : ckIs Γ en t e = true) : PE (X.suite a ((a, oe) :: pn)) e (tX X.K C i a dd c fs (.isx t)) ∧ plainT e = true := by
  cases e <;> first | (cases h; done) | skip
  rename_i f as ks p
  cases f <;> first | (cases h; done) | skip
  rename_i x px
  match as, ks, h with
  | [ob, .Name y py], [], h =>
    have h' : (x == ("isinstance" : Str) && isEn en ob && glb Γ.sc x && glb Γ.sc y && !dbg y && Γ.cls.any fun p => p.1 == y && p.2.1 == t) = true := h
    simp only [Bool.and_eq_true, Bool.not_eq_true', beq_iff_eq] at h'
    obtain ⟨⟨⟨⟨⟨rfl, e2⟩, e3⟩, e4⟩, e5⟩, e6⟩ := h'
    rw [List.any_eq_true] at e6
    obtain ⟨⟨y', t', m⟩, mm, q⟩ := e6
    simp only [Bool.and_eq_true, beq_iff_eq] at q
    obtain ⟨rfl, rfl⟩ := q
    obtain ⟨v, hn, hv⟩ := o.clf.cls _ _ _ mm
    obtain ⟨z, hz1, hz2⟩ := nm_pe (a := a) (oe := oe) (pn := pn) (p := py) o hn e4 e5
    have g0 : Gl X "isinstance" := glb_of o e3
    have pob : plainX ob = true := by cases ob <;> first | rfl | cases e2
    refine ⟨PE.imp (pe_callB (call_isX (X := X.suite a ((a, oe) :: pn)) List.mem_cons_self (o.clf.ex c k0 hc).1 hz hf) g0 (o.blt _ (by decide)) (by decide +kernel) (pa_cons (en_pe o hi hl h1 h2 e2) (pa_cons hz2 pa_nil rfl) (plain_star pob _ _)) (by decide) (by decide) (plain_star pob _ _) rfl) ?_, rfl⟩
    rintro σ H Q ⟨ρ, hh, d, h2, su, ed, q⟩
    rw [isx_ev] at ed
    cases ed
    obtain ⟨fl, ef, _⟩ := su.f
    exact ⟨_, su.sl, z, v, _, fl, rfl, hz1, (hv c k0 hc).1, ef, q ρ H _ Xt.refl su.w rfl⟩
theorem evXs_cons {p q : E} {h : List O} : evX.evXs C c fs (.cons p q) h = match evX C c fs p h with | some (x, h1) => (match evX.evXs C c fs q h1 with | some (xs, h2) => some (x :: xs, h2) | none => none) | none => none := rfl
theorem ckXs_cons {p q : E} {es : List PySem.Expr} : ckXs Γ en (.cons p q) es = match es with | t :: ts => ckX Γ en p t && plainX t && ckXs Γ en q ts | [] => false := by cases es <;> rfl
theorem ckXs_plain : ∀ {p : E} {es : List PySem.Expr}, ckXs Γ en p es = true → es.all plainX = true
  | p, [], _ => rfl
  | p, t :: ts, h => by
    cases p with
    | cons a b =>
      rw [ckXs_cons] at h
      simp only [Bool.and_eq_true] at h
      simp only [List.all_cons, Bool.and_eq_true]
      exact ⟨h.1.2, ckXs_plain h.2⟩
    | _ => cases h
def SuOk (C : List Cl) (Γ : Gm) (X : Cx) (en : Str) (i : Nat) (a dd : Addr) (oe : Obj) (pn : List (Addr × Obj)) (c : Nat) (fs : List D) (ir : E) : Prop :=
  (∀ e, ckX Γ en ir e = true → PE (X.suite a ((a, oe) :: pn)) e (tX X.K C i a dd c fs ir)) ∧ (∀ es, ckXs Γ en ir es = true → PA (X.suite a ((a, oe) :: pn)) es (tXs X.K C i a dd c fs ir)) ∧
      (∀ e, ckXT Γ en ir e = true → PT (X.suite a ((a, oe) :: pn)) e (tXT X.K C i a dd c fs ir))
theorem kin_inv {f : Str} {cs : List Nat} {e : PySem.Expr} (h : ckX Γ en (.kin f cs) e = true) : ∃ p1 : Pos, glb Γ.sc f = true ∧ dbg f = false ∧ True ∧ (f, cs) ∈ Γ.kin ∧ ∃ ob pos, isEn en ob = true ∧ e = .Call (.Name f p1) [ob] [] pos := by
  cases e <;> first | (cases h; done) | skip
  rename_i fn as ks p
  cases fn <;> first | (cases h; done) | skip
  rename_i x px
  cases ks with
  | cons _ _ => cases as <;> first | (cases h; done) | (rename_i t ts; cases ts <;> cases h)
  | nil =>
    cases as with
    | nil => cases h
    | cons ob as =>
      cases as with
      | cons _ _ => cases h
      | nil =>
        have h' : (x == f && glb Γ.sc x && !dbg x && isEn en ob && Γ.kin.any fun p => p.1 == x && p.2 == cs) = true := h
        simp only [Bool.and_eq_true, Bool.not_eq_true', beq_iff_eq, List.any_eq_true] at h'
        obtain ⟨⟨⟨⟨rfl, h2⟩, h3⟩, h4⟩, ⟨y, cs'⟩, mm, q1, q2⟩ := h'
        dsimp only at q1 q2
        subst q1; subst q2
        exact ⟨px, h2, h3, trivial, mm, ob, p, h4, rfl⟩
theorem su_all (o : XOk C ca call k Γ X W) (hi : Γ.N[i]? = some en) (hl : Γ.sc.names.lookup en = some .local) (h1 : dbg en = false) (h2' : (en == ("__classdict__" : Str)) = false) {k0 : Cl} (hc : C[c]? = some k0) (hz : Zc (.ref (ca c)) (some dd) oe) (hf : ∃ vs, oe.data = .fields vs) :
    ∀ ir : E, SuOk C Γ X en i a dd oe pn c fs ir := by
  have no : ∀ {ir : E}, (∀ e, ckX Γ en ir e = false) → (∀ e, ckXs Γ en ir e = false) → (∀ e, ckXT Γ en ir e = false) → SuOk C Γ X en i a dd oe pn c fs ir := fun {ir} p1 p2 p3 => ⟨fun e h => (by rw [p1] at h; cases h), fun e h => (by rw [p2] at h; cases h), fun e h => (by rw [p3] at h; cases h)⟩
  have one : ∀ {ir : E}, (∀ e, ckX Γ en ir e = true → PE (X.suite a ((a, oe) :: pn)) e (tX X.K C i a dd c fs ir)) → (∀ e, ckXs Γ en ir e = false) → (∀ e, ckXT Γ en ir e = false) → SuOk C Γ X en i a dd oe pn c fs ir := fun {ir} p1 p2 p3 => ⟨p1, fun e h => (by rw [p2] at h; cases h), fun e h => (by rw [p3] at h; cases h)⟩
  have conc : ∀ {e : PySem.Expr} {v : V} {d : D} {ir : E}, PE (X.suite a ((a, oe) :: pn)) e (tC v) → (∀ h, evX C c fs ir h = some (d, h)) → (∀ ρ H, RV X.K ρ H v d) → PE (X.suite a ((a, oe) :: pn)) e (tX X.K C i a dd c fs ir) := fun {e v d ir} p ed r => by
    refine PE.imp p ?_
    rintro σ H Q ⟨ρ, hh, d', h2, su, ed', q⟩
    rw [ed] at ed'
    cases ed'
    exact q ρ H v Xt.refl su.w (r _ _)
  intro ir
  induction ir with
  | non =>
    refine one (fun e h => ?_) (fun e => by cases e <;> rfl) (fun e => by cases e <;> rfl)
    cases e <;> first | (cases h; done) | skip
    rename_i c1 c2 c3
    cases c1 <;> first | (cases h; done) | exact conc pe_non (fun _ => rfl) fun _ _ => rfl
  | bl b =>
    refine one (fun e h => ?_) (fun e => by cases e <;> rfl) (fun e => by cases e <;> rfl)
    cases e <;> first | (cases h; done) | skip
    rename_i c1 c2 c3
    cases c1 <;> first | (cases h; done) | skip
    rename_i b'
    have h' : (b == b') = true := h
    have e1 := eq_of_beq h'
    subst e1
    exact conc pe_bl (fun _ => rfl) fun _ _ => rfl
  | int j =>
    refine one (fun e h => ?_) (fun e => by cases e <;> rfl) (fun e => by cases e <;> rfl)
    cases e <;> first | (cases h; done) | skip
    rename_i c1 c2 c3
    cases c1 <;> first | (cases h; done) | skip
    rename_i b'
    have h' : (j == b') = true := h
    have e1 := eq_of_beq h'
    subst e1
    exact conc pe_int (fun _ => rfl) fun _ _ => rfl
  | str s =>
    refine one (fun e h => ?_) (fun e => by cases e <;> rfl) (fun e => by cases e <;> rfl)
    cases e <;> first | (cases h; done) | skip
    rename_i c1 c2 c3
    cases c1 <;> first | (cases h; done) | skip
    rename_i b'
    have h' : (s == b') = true := h
    have e1 := eq_of_beq h'
    subst e1
    exact conc pe_str (fun _ => rfl) fun _ _ => rfl
  | fld x =>
    refine one (fun e h => ?_) (fun e => by cases e <;> rfl) (fun e => by cases e <;> rfl)
    cases e <;> first | (cases h; done) | skip
    rename_i ob y p
    have h' : (isEn en ob && x == y) = true := h
    simp only [Bool.and_eq_true, beq_iff_eq] at h'
    obtain ⟨h3, rfl⟩ := h'
    have T := (o.clf.ex c k0 hc).1
    by_cases hx : x ∈ k0.flds
    · have hb : attributeBase ob x (X.suite a ((a, oe) :: pn)).env (eval ob (X.suite a ((a, oe) :: pn)).env) = eval ob (X.suite a ((a, oe) :: pn)).env := by
        cases ob <;> first | rfl | cases h3
      refine PE.imp (pe_xf (cls := .ref (ca c)) (d := some dd) ⟨T.hg, T.hk, T.hs, T.hd⟩ ((o.clf.ex c k0 hc).2 x hx) hz hf (en_pe o hi hl h1 h2' h3) hb) ?_
      rintro σ H Q ⟨ρ, hh, d, h2, su, ed, q⟩
      obtain ⟨fl, ef, k1, ek, xf⟩ := su.f
      rw [hc] at ek
      cases ek
      have ed2 : (match fldOf C c fs x with | some d => some (d, hh) | none => none) = some (d, h2) := ed
      cases e9 : fldOf C c fs x with
      | none => rw [e9] at ed2; cases ed2
      | some d9 =>
      rw [e9] at ed2
      cases ed2
      have ed' : (k0.flds.zip fs).lookup x = some d := by
        have : fldOf C c fs x = some d := e9
        unfold fldOf at this
        rw [hc] at this
        exact this
      obtain ⟨v, e1, e2⟩ := xf x d ed'
      exact ⟨_, su.sl, rfl, rfl, dd, fl, v, rfl, ef, e1, q ρ H v Xt.refl su.w e2⟩
    · refine ⟨fun pins s σ H Q I hh => ?_⟩
      exfalso
      obtain ⟨ρ, hh, d, h2, su, ed, q⟩ := hh
      have ed2 : (match fldOf C c fs x with | some d => some (d, hh) | none => none) = some (d, h2) := ed
      cases e9 : fldOf C c fs x with
      | none => rw [e9] at ed2; cases ed2
      | some d9 =>
      have : fldOf C c fs x = some d9 := e9
      unfold fldOf at this
      rw [hc] at this
      obtain ⟨j, e1, _⟩ := zip_ix this
      exact hx (List.mem_of_getElem? e1)
  | isx t =>
    refine ⟨fun e h => (isx_pe o hi hl h1 h2' hc hz hf h).1, fun es h => (by cases es <;> cases h), fun e h => ?_⟩
    obtain ⟨p1, p2⟩ := isx_pe o hi hl h1 h2' hc hz hf h (a := a) (pn := pn) (fs := fs)
    refine PT.imp (pt_truth p1 (fun whole => by cases e <;> first | rfl | cases h)) ?_
    rintro σ H Q ⟨ρ, hh, b, h2, su, eb, q⟩
    refine ⟨ρ, hh, .bl b, h2, su, eb, fun ρ' H' v x' w' r' => ?_⟩
    have r2 : v = .bl b := r'
    subst r2
    exact ⟨b, truth_ok (h := h2) (d := .bl b) w' r' rfl, q ρ' H' x' w'⟩
  | tup es ih =>
    refine one (fun e h => ?_) (fun e => by cases e <;> rfl) (fun e => by cases e <;> rfl)
    cases e <;> first | (cases h; done) | skip
    rename_i ts k1 p
    have h' : ckXs Γ en es ts = true := h
    refine PE.imp (pe_tup (ih.2.1 ts h')) ?_
    rintro σ H Q ⟨ρ, hh, d, h2, su, ed, q⟩
    have ed' : (match evX.evXs C c fs es hh with | some (xs, h1) => if xs.length ≤ lim then some (D.tup xs, h1) else none | none => none) = some (d, h2) := ed
    split at ed'
    · rename_i xs h3 e1
      split at ed'
      · rename_i hle
        cases ed'
        refine ⟨ρ, hh, xs, h2, su, e1, fun ρ1 H1 vs x1 w1 r1 => ⟨by rw [r1.len, ← lim_eq]; exact hle, fun b n => ?_⟩⟩
        exact q ρ1 _ _ (x1.trans (xt_new n)) (w1.new n) ⟨b, vs, rfl, upd_same, RVs.mono (TS'.upd n) (fun _ _ e => e) _ _ r1⟩
      · cases ed'
    · cases ed'
  | cons p q ihp ihq =>
    refine ⟨fun e h => (by cases e <;> cases h), fun es h => ?_, fun e h => (by cases e <;> cases h)⟩
    rw [ckXs_cons] at h
    cases es with
    | nil => cases h
    | cons t ts =>
      simp only [Bool.and_eq_true] at h
      refine PA.imp (pa_cons (ihp.1 t h.1.1) (ihq.2.1 ts h.2) (plain_star h.1.2 _ _)) ?_
      rintro σ H Q ⟨ρ, hh, ds, h9, su, ed, qq⟩
      rw [evXs_cons] at ed
      cases e1 : evX C c fs p hh with
      | none => rw [e1] at ed; cases ed
      | some x =>
        obtain ⟨x, h1⟩ := x
        rw [e1] at ed
        dsimp only at ed
        cases e2 : evX.evXs C c fs q h1 with
        | none => rw [e2] at ed; cases ed
        | some xs =>
          obtain ⟨xs, h2⟩ := xs
          rw [e2] at ed
          cases ed
          refine ⟨ρ, hh, x, h1, su, e1, fun ρ1 H1 v x1 w1 r1 => ⟨ρ1, h1, xs, h9, su.fwd x1 w1, e2, fun ρ2 H2 vs x2 w2 r2 => ?_⟩⟩
          exact qq ρ2 H2 _ (x1.trans x2) w2 ⟨v, vs, rfl, w1.rv x2 r1, r2⟩
  | nil =>
    refine ⟨fun e h => (by cases e <;> cases h), fun es h => ?_, fun e h => (by cases e <;> cases h)⟩
    cases es with
    | cons _ _ => cases h
    | nil =>
      refine PA.imp pa_nil ?_
      rintro σ H Q ⟨ρ, hh, ds, h2, su, ed, qq⟩
      cases ed
      exact qq ρ H [] Xt.refl su.w rfl
  | ifx t p q iht ihp ihq =>
    refine one (fun e h => ?_) (fun e => by cases e <;> rfl) (fun e => by cases e <;> rfl)
    cases e <;> first | (cases h; done) | skip
    rename_i t' p' q' ps
    have h' : (ckXT Γ en t t' && ckX Γ en p p' && ckX Γ en q q') = true := h
    simp only [Bool.and_eq_true] at h'
    refine PE.imp (pe_ifExp (iht.2.2 t' h'.1.1) (ihp.1 p' h'.1.2) (ihq.1 q' h'.2)) ?_
    rintro σ H Q ⟨ρ, hh, d, h9, su, ed, qq⟩
    have ed' : (match evX C c fs t hh with | some (.bl true, h1) => evX C c fs p h1 | some (.bl false, h1) => evX C c fs q h1 | _ => none) = some (d, h9) := ed
    split at ed'
    · rename_i h1 e1
      exact ⟨ρ, hh, true, h1, su, e1, fun ρ1 H1 x1 w1 => ⟨ρ1, h1, d, h9, su.fwd x1 w1, ed', fun ρ2 H2 v x2 => qq ρ2 H2 v (x1.trans x2)⟩⟩
    · rename_i h1 e1
      exact ⟨ρ, hh, false, h1, su, e1, fun ρ1 H1 x1 w1 => ⟨ρ1, h1, d, h9, su.fwd x1 w1, ed', fun ρ2 H2 v x2 => qq ρ2 H2 v (x1.trans x2)⟩⟩
    · cases ed'
  | and p q ihp ihq =>
    refine ⟨fun e h => (by cases e <;> cases h), fun es h => (by cases es <;> cases h), fun e h => ?_⟩
    cases e <;> first | (cases h; done) | skip
    rename_i op as ps
    cases op <;> first | (cases h; done) | skip
    match as, h with
    | [p', q'], h =>
      have h' : (ckXT Γ en p p' && ckXT Γ en q q') = true := h
      simp only [Bool.and_eq_true] at h'
      refine PT.imp (pw_and (ihp.2.2 p' h'.1) (pw_and1 (ihq.2.2 q' h'.2))).pt ?_
      rintro σ H Q ⟨ρ, hh, b, h9, su, ed, qq⟩
      have ed' : (match evX C c fs p hh with | some (.bl true, h1) => evX C c fs q h1 | some (.bl false, h1) => some (.bl false, h1) | _ => none) = some (.bl b, h9) := ed
      split at ed'
      · rename_i h1 e1
        exact ⟨ρ, hh, true, h1, su, e1, fun ρ1 H1 x1 w1 => ⟨ρ1, h1, b, h9, su.fwd x1 w1, ed', fun ρ2 H2 x2 => qq ρ2 H2 (x1.trans x2)⟩⟩
      · rename_i h1 e1
        cases ed'
        exact ⟨ρ, hh, false, _, su, e1, qq⟩
      · cases ed'
  | lst es ih =>
    refine one (fun e h => ?_) (fun e => by cases e <;> rfl) (fun e => by cases e <;> rfl)
    cases es <;> first | (cases h; done) | (cases e <;> cases h; done) | skip
    cases e <;> first | (cases h; done) | skip
    rename_i es p
    cases es with
    | cons _ _ => cases h
    | nil =>
      refine PE.imp (pe_lst pa_nil) ?_
      rintro σ H Q ⟨ρ, hh, d, h2, su, ed, q⟩
      cases ed
      refine ⟨Nat.zero_le _, fun b n => ?_⟩
      obtain ⟨x1, w1, r1⟩ := su.w.alloc n (vs := []) (xs := []) rfl
      exact q _ _ _ x1 w1 r1
  | kin f cs =>
    refine one (fun e h => ?_) (fun e => by cases e <;> rfl) (fun e => by cases e <;> rfl)
    obtain ⟨p1, h3, h4, _, h6, ob, pos, h5, rfl⟩ := kin_inv h
    obtain ⟨ad, fd, ps, m1, m2, F, B⟩ := o.kin _ _ h6
    have pob : plainX ob = true := by cases ob <;> first | rfl | cases h5
    refine ⟨fun pins s σ H Q I hh => ?_⟩
    obtain ⟨ρ, hh, d, h2, su, ed, q⟩ := hh
    cases ed
    have g0 : Gl X f := glb_of o h3
    refine wpAny_Call_Name_kw (ld_glob I (show Gl (X.suite a ((a, oe) :: pn)) f from g0) m1 ?_ h4)
    refine PySem.W.callWith_K (h₀ := X.base) I.ok.mod.kin m2 (thn ((pa_cons (en_pe o hi hl h1 h2' h5) pa_nil (plain_star pob _ _)).run _ pins s σ H (fun vs H1 => vs = [.ref a] ∧ H1 = H) I ⟨_, su.sl, rfl, rfl⟩) fun us s1 hq => ?_) (plain_star pob _ _) rfl
    obtain ⟨vs, H1, I1, rv, rfl, rfl⟩ := hq
    refine ⟨I1.kIn, ?_⟩
    obtain ⟨u, rfl⟩ : ∃ u, us = [u] := by
      cases rv with
      | cons r1 r2 => cases r2; exact ⟨_, rfl⟩
    obtain rfl : u = Value.ref a := by
      cases rv with
      | cons r1 r2 => exact r1
    obtain ⟨fl, ef, _⟩ := su.f
    have P1 := I1.pin (a, oe) (List.mem_append_left _ List.mem_cons_self)
    have pin : L2H.PinOk X.stack H1 s1 (a, oe) := ⟨P1.1, P1.2.1, fun hm => (List.mem_cons.mp (I1.stkSub a hm)).elim P1.2.2.1 P1.2.2.2.1, P1.2.2.2.2⟩
    have hb := B s1 [Value.ref a] I1.kIn (by rw [F.one]; rfl)
    have room : L2H.RoomH 1 (X.A.mark (some (.ref a))) := ⟨by have := o.rm.dp; show X.A.depth + 3 * 1 + 5 < recursionLimit; omega, by have := o.rm.un; show X.A.units + 16 * 1 + 200 < cLine; omega⟩
    refine wpAny_call (codeAny_mono (F.run (X.A.mark (some (.ref a))) X.stack s1 H1 ⟨[.ref a], []⟩ a dd oe c k0 fl Q hc room I1.env0 hb pin hz hf ef fun p1 p2 p3 xs1 xs2 n1 n2 n3 => ?_) fun z s' hz' => ?_)
    · have x1 : Xt ρ H1 ρ (L2.upd H1 p1 (.lst xs1)) := xt_new n1
      have w1 := su.w.new (o := .lst xs1) n1
      have x2 := x1.trans (xt_new (o := .lst xs2) n2)
      have w2 := w1.new (o := .lst xs2) n2
      have rb : ∀ cs : List Nat, RVs X.K ρ (L2.upd (L2.upd H1 p1 (.lst xs1)) p2 (.lst xs2)) (cs.map fun a => V.bl (isAnc C c a)) (cs.map fun a => D.bl (isAnc C c a)) := by
        intro cs
        induction cs with
        | nil => rfl
        | cons a l ih => exact ⟨_, _, rfl, rfl, ih⟩
      obtain ⟨x3, w3, r3⟩ := w2.alloc n3 (rb cs)
      exact q _ _ _ (x2.trans x3) w3 r3
    · cases z with
      | error er =>
        obtain ⟨_, _, _, _, _, _, _, _, _, _, _, _, z⟩ := hz'
        exact z.elim
      | ok fl2 =>
        cases fl2 with
        | ret u => exact I1.after hz'
        | next => exact hz'.elim
        | brk => exact hz'.elim
        | cont => exact hz'.elim
  | «omit» => exact no (fun e => by cases e <;> rfl) (fun e => by cases e <;> rfl) (fun e => by cases e <;> rfl)
  | _ => exact no (fun e => by cases e <;> rfl) (fun e => by cases e <;> rfl) (fun e => by cases e <;> rfl)
end
end
end Mini
end

section
/-! Mini: a try with several clauses 'except C as e' (own work). -/
namespace Mini
open PySem PySem.Spec PyProof.Rows L2

abbrev ClT := Value × Nat × (Addr → Value → Option Addr → TS)
/-- what clauses, each with its own name, wish of an exception -/
def wM (K : PySem.W.Frag) (Wout : WX) (D : Ends) : List ClT → WX
  | [] => Wout
  | q :: r => wAs K q.1 q.2.1 q.2.2 (wM K Wout D r) D
structure ClOk (X : Cx) (hd : ExceptHandler) (q : ClT) : Prop where
  is : ∃ x n b₀ su np ps, hd = .ExceptHandler (some (.Name x np)) (some n) (b₀ :: su) ps ∧ X.N[q.2.1]? = some n ∧ X.env.kindOf n = some .local ∧ Names X x q.1 ∧
    ∀ (a : Addr) (oe : Obj) (cls : Value) (d : Option Addr) (pn : List (Addr × Obj)), Zc cls d oe → (∃ vs, oe.data = .fields vs) → PSs (X.suite a ((a, oe) :: pn)) (b₀ :: su) (q.2.2 a cls d)
inductive ClsOk (X : Cx) : List ExceptHandler → List ClT → Prop
  | nil : ClsOk X [] []
  | cons {hd : ExceptHandler} {q : ClT} {hds : List ExceptHandler} {l : List ClT} (c : ClOk X hd q) (r : ClsOk X hds l) : ClsOk X (hd :: hds) (q :: l)
section
variable {X : Cx} {pins : List (Addr × Obj)} {σ : L2.St} {H : Hp} {a : Addr} {cls : Value} {d : Option Addr} {s : Shared}
/-- the exception at a lies caught in the frame of X -/
structure Lies (X : Cx) (pins : List (Addr × Obj)) (σ : L2.St) (H : Hp) (a : Addr) (cls : Value) (d : Option Addr) (s : Shared) : Prop where
  ex : ∃ (B : Heap) (z : Shared), Inv X pins σ H z ∧ (∀ b o, z.heap.get? b = some o → b ∉ frs X.stack → B.get? b = some o) ∧ z.heap.UpToSlots s.heap ∧ HandSPX.FlyingZ B (X.env :: X.outer) a (Zc cls d) s.heap ∧ s.os = z.os ∧ AllBare s.gens
  na : H a = none
theorem Lies.inv (y : Lies X pins σ H a cls d s) : Inv X pins σ H s := by
  obtain ⟨B, z, I, nb, up, fl, os, ag⟩ := y.ex
  exact I.landed nb fl.1 up os ag
theorem Lies.obj (y : Lies X pins σ H a cls d s) : ∃ oe vs, s.heap.get? a = some oe ∧ Zc cls d oe ∧ oe.data = .fields vs := by
  obtain ⟨B, z, I, nb, up, fl, os, ag⟩ := y.ex
  obtain ⟨oe, vs, h1, h2, h3⟩ := fl.there
  exact ⟨oe, vs, h1, h2, h3⟩
theorem Lies.apart (hf : X.env.frame = some X.env.locals) (y : Lies X pins σ H a cls d s) : a ≠ X.env.locals ∧ a ∉ X.fs := by
  obtain ⟨oe, vs, he, _, hd⟩ := y.obj
  obtain ⟨B, z, I, nb, up, fl, os, ag⟩ := y.ex
  have no : a ∉ frs (X.env :: X.outer) := fun hm => by
    obtain ⟨_, o', e', hnf⟩ := fl.2.2.1.mem hm
    rw [he] at e'
    cases e'
    exact hnf _ hd
  exact ⟨fun q => no (by unfold frs; rw [List.filterMap_cons_some hf]; exact q ▸ List.mem_cons_self), fun hm => no (by unfold frs; rw [List.filterMap_cons_some hf]; exact List.mem_cons_of_mem _ hm)⟩
theorem Lies.again {M : Model} {A : Around} {E : Value → Shared → Prop} {Q : Unit → Shared → Prop} (y : Lies X pins σ H a cls d s) (h : ∀ s', Lies X pins σ H a cls d s' → Q () s') : wpAny M A (setFlight (.ref a) none) Q E s := by
  obtain ⟨B, z, I, nb, up, fl, os, ag⟩ := y.ex
  exact HandSPX.lands_againZ fl fun h' fl' up' => h _ ⟨⟨B, z, I, nb, up.trans up', fl', os, ag⟩, y.na⟩
/-- no clause was it -/
theorem Lies.on (hs : X.stack = X.env :: X.outer) (hf : X.env.frame = some X.env.locals) {W : WX} (tk : Takes X W) (y : Lies X pins σ H a cls d s) (w : W cls d σ H) {Q : Flow → Shared → Prop} : wpAny (model X.prog X.w) X.A (handleBy (.ref a) X.env []) Q X.xe s := by
  obtain ⟨B, z, I, nb, up, fl, os, ag⟩ := y.ex
  refine wpAny_handleBy_nil ?_
  obtain ⟨_, _, _, oe, vs, T, _, _, he, _, hd, h1, _⟩ := id fl
  unfold PySem.passOn
  refine wpAny_bind (wpAny_field he hd h1 ?_)
  have hT : ¬ ((Value.ref T == Value.none) = true) := by simp
  rw [if_neg hT]
  have go : wpAny (model X.prog X.w) X.A (setFlight (.ref a) X.env.frame) (fun _ t => wpAny (model X.prog X.w) X.A (throw (.ref a) : Sem Flow) Q X.xe t) X.xe s := by
    rw [hf]
    refine HandSPX.setFlight_upZ fl fun h4 held up4 => wpAny_throw (tk _ _ ⟨a, B, z, pins, σ, H, cls, d, rfl, I, nb, up.trans up4, ?_, y.na, os, ag, w⟩)
    rw [hs]
    exact .inr (.inr held)
  first
    | exact wpAny_bind (wpAny_pure (wpAny_bind go))
    | exact wpAny_bind go
/-- the clauses are asked in a row -/
theorem asks (hs : X.stack = X.env :: X.outer) (hf : X.env.frame = some X.env.locals) (hN : X.N.Nodup) {W : WX} (tk : Takes X W) {D : Ends} {hds : List ExceptHandler} {l : List ClT} (ok : ClsOk X hds l) (y : Lies X pins σ H a cls d s) (w : wM X.K W D l cls d σ H) :
    wpAny (model X.prog X.w) X.A (handleBy (.ref a) X.env hds) (SP X pins D) X.xe s := by
  induction ok with
  | nil => exact y.on hs hf tk w
  | @cons hd q hds l c r ih =>
    obtain ⟨x, n, b₀, su, np, ps, rfl, hi, hln, hc, hsu⟩ := c.is
    obtain ⟨b, hb, hyes, hno⟩ := w
    obtain ⟨oe, vs, he, hz, hd⟩ := y.obj
    obtain ⟨nL, nF⟩ := y.apart hf
    have I3 := y.inv
    have S3 := I3.suite he hd y.na nL nF
    refine wpAny_handleBy_cons (codeAny_handlers_test ?_) (by intro q; cases q)
    have LT : PySem.W.Looks (model X.prog X.w) s.heap (typeOf (.ref a)) cls := fun _ _ _ _ kk qq => wpAny_typeOf_ref (kk _ _ he) (by rw [hz.1]; exact qq)
    have LM := PySem.W.exm_one (M := model X.prog X.w) I3.kIn LT hb
    have named : ∀ {Q : Value → Shared → Prop} {E : Value → Shared → Prop}, Q q.1 s → wpAny (model X.prog X.w) (X.A.mark (some (.ref a))) (eval (.Name x np) X.env) Q E s := fun {Q E} qq => by
      obtain ⟨hg, hdbg, hm | ⟨hm, hv, hnn⟩⟩ := hc
      · exact ld_glob S3 hg hm qq hdbg
      · exact ld_blt S3 hg hm hv qq hnn hdbg
    refine named (LM.here ?_)
    cases b with
    | false =>
      show wpAny _ X.A (handleBy (.ref a) X.env hds) _ _ _
      exact ih (hno rfl)
    | true =>
      refine codeAny_handlers_suite_as (y.again fun s4 y4 => ?_)
      obtain ⟨oe4, vs4, he4, hz4, hd4⟩ := y4.obj
      have S4 := y4.inv.suite he4 hd4 y4.na nL nF
      refine store_ok (v := .ref a) (X := X.suite a ((a, oe4) :: (X.pn ++ pins))) S4 hN hi (.inl hln) rfl (fun s5 S5 => ?_) (.inr hln)
      have run := (hsu a oe4 cls d (X.pn ++ pins) hz4 ⟨_, hd4⟩).run [] s5 _ H _ S5 (hyes rfl a y.na)
      refine wpAny_mono run (fun f s6 hsp => ?_) (fun _ _ z => False.elim z)
      have gone : ∀ {τ : L2.St} {G : Hp} {Q : Shared → Prop}, Inv (X.suite a ((a, oe4) :: (X.pn ++ pins))) [] τ G s6 → (∀ s7, Inv X pins (τ.set q.2.1 none) G s7 → Q s7) →
          wpAny (model X.prog X.w) X.A (do bindName X.env n .none; unbindBehindTheSuite X.env n ps) (fun _ s7 => Q s7) X.xe s6 := fun {τ G Q} S6 hq => gone_ok (S6.unsuite I3.ok) hN hi hln hq
      cases f with
      | ret u =>
        obtain ⟨v6, τ, G, S6, r6, q6⟩ := hsp
        exact gone S6 fun s7 J7 => ⟨_, _, _, J7, r6, q6⟩
      | next =>
        obtain ⟨τ, G, S6, q6⟩ := hsp
        exact gone S6 fun s7 J7 => ⟨_, _, J7, q6⟩
      | brk =>
        obtain ⟨τ, G, S6, q6⟩ := hsp
        exact gone S6 fun s7 J7 => ⟨_, _, J7, q6⟩
      | cont =>
        obtain ⟨τ, G, S6, q6⟩ := hsp
        exact gone S6 fun s7 J7 => ⟨_, _, J7, q6⟩
theorem ps_tryM {body : List PySem.Stmt} {hds : List ExceptHandler} {l : List ClT} {pos : Pos} {tb : WX → TS} {W : WX} (hs : X.stack = X.env :: X.outer) (hf : X.env.frame = some X.env.locals) (hN : X.N.Nodup) (tk : Takes X W) (hne : hds ≠ [])
    (hb : ∀ (W : WX) (pn : List (Addr × Obj)) (xe : Value → Shared → Prop), Takes (X.tr pn xe) W → PassesOwn (model X.prog X.w) X.A X.env xe → PSs (X.tr pn xe) body (tb W)) (ok : ClsOk X hds l) :
    PS X (.Try body hds [] [] pos) (fun D σ H => tb (wM X.K W D l) D σ H) := by
  refine ⟨fun pins s σ H D I h => ?_⟩
  have xok := I.ok
  obtain ⟨hd0, hds0, rfl⟩ : ∃ hd0 hds0, hds = hd0 :: hds0 := by
    cases hds with
    | nil => exact absurd rfl hne
    | cons a b => exact ⟨a, b, rfl⟩
  refine wpAny_Try_except ?_
  have hbody := hb (wM X.K W D l) (X.pn ++ pins) (fun e t => wpAny (model X.prog X.w) X.A (noteFrame e X.env) (fun _ t2 => wpAny (model X.prog X.w) X.A (setFlight e none) (fun _ t3 => wpAny (model X.prog X.w) X.A (handleBy e X.env (hd0 :: hds0)) (SP X pins D) X.xe t3) X.xe t2) X.xe t)
    (fun u s' xx => ?_) PassesOwn.looking
  · refine wpAny_mono (hbody.run [] s σ H D (I.toTry _) h) (fun f s1 hsp => ?_) (fun e s1 he => he)
    cases f with
    | ret u =>
      obtain ⟨v, τ, G, J', r, q⟩ := hsp
      exact ⟨v, τ, G, J'.ofTry xok, r, q⟩
    | next =>
      obtain ⟨τ, G, J', q⟩ := hsp
      exact wpAny_execs_nil ⟨τ, G, J'.ofTry xok, q⟩
    | brk =>
      obtain ⟨τ, G, J', q⟩ := hsp
      exact ⟨τ, G, J'.ofTry xok, q⟩
    | cont =>
      obtain ⟨τ, G, J', q⟩ := hsp
      exact ⟨τ, G, J'.ofTry xok, q⟩
  · obtain ⟨a, B, sI, pins', τ, G, cls, d, rfl, J', nb, up, sky, na, os, ag, w⟩ := xx
    have J : Inv X pins τ G sI := J'.ofTry xok
    have fr : X.A.frames = some (X.env :: X.outer) := by rw [xok.frames, hs]
    have sky' : Sky B (X.env :: X.outer) a (Zc cls d) X.env.locals s'.heap := by rw [← hs]; exact sky
    refine Sky.land Zc.steady fr hf sky' fun h3 fl3 up3 => ?_
    exact asks hs hf hN tk ok ⟨⟨B, sI, J, nb, up.trans up3, fl3, os, ag⟩, na⟩ w
end
end Mini
end

section
/-! Mini: try, two stores at once, items in place; every statement (own work). -/
namespace Mini
open PySem PySem.Spec PyProof.Rows L2
section
variable {C : List Cl} {ca : Nat → Addr} {call : Caller} {k : Nat}
/-- the reading of a clause's suite -/
def tCl (K : PySem.W.Frag) (C : List Cl) (ca : Nat → Addr) (i : Nat) (e : E) (a : Addr) (cls : Value) (d : Option Addr) : TS := fun D σ H => ∃ c k0 dd fs, C[c]? = some k0 ∧ cls = .ref (ca c) ∧ d = some dd ∧ tX K C i a dd c fs e σ H D.rt
def clsL (K : PySem.W.Frag) (C : List Cl) (ca : Nat → Addr) (vs : Nat → Value) : S → List ClT
  | .hcons a i e hs => (vs a, i, tCl K C ca i e) :: clsL K C ca vs hs
  | _ => []
theorem Nm.names {Γ : Gm} {X : Cx} {W : WX} (o : XOk C ca call k Γ X W) {x : Str} {v : Value} (hg : glb Γ.sc x = true) (hd : dbg x = false) (hn : Nm X.mg x 0 v) : Names X x v := by
  rcases hn with ⟨_, m1, _⟩ | ⟨z, _⟩
  · exact ⟨glb_of o hg, hd, .inl m1⟩
  · cases z
theorem inv_hd {Γ : Gm} {a i : Nat} {e : E} {hd : ExceptHandler} (h : ckHd Γ a i e hd = true) : ∃ x n v px pr ph, hd = .ExceptHandler (some (.Name x px)) (some n) [.Return (some v) pr] ph ∧ glb Γ.sc x = true ∧ dbg x = false ∧ (x, a, 0) ∈ Γ.cls ∧ Γ.N[i]? = some n ∧ Γ.sc.names.lookup n = some .local ∧
    dbg n = false ∧ (n == ("__classdict__" : Str)) = false ∧ ckX Γ n e v = true := by
  obtain ⟨ty, nm, body, ph⟩ := hd
  cases ty with
  | none => cases h
  | some t =>
    cases nm with
    | none => cases h
    | some n =>
      match body, h with
      | [s], h =>
        have h' : (ckHt Γ a t && decide (Γ.N[i]? = some n) && decide (Γ.sc.names.lookup n = some .local) && !dbg n && !(n == ("__classdict__" : Str)) && ckHs Γ n e s) = true := h
        simp only [Bool.and_eq_true, decide_eq_true_eq, Bool.not_eq_true'] at h'
        obtain ⟨⟨⟨⟨⟨g1, g2⟩, g3⟩, g4⟩, g5⟩, g6⟩ := h'
        cases t with
        | Name x px =>
          cases s with
          | Return w pr =>
            cases w with
            | none => cases g6
            | some v =>
              have g1' : (glb Γ.sc x && !dbg x && Γ.cls.any fun p => p.1 == x && p.2.1 == a && p.2.2 == 0) = true := g1
              simp only [Bool.and_eq_true, Bool.not_eq_true', List.any_eq_true, beq_iff_eq] at g1'
              obtain ⟨⟨k1, k2⟩, ⟨x', a', m⟩, mm, ⟨q1, q2⟩, q3⟩ := g1'
              subst q1; subst q2; subst q3
              exact ⟨x', n, v, px, pr, ph, rfl, k1, k2, mm, g2, g3, g4, g5, g6⟩
          | _ => cases g6
        | _ => cases g1
theorem cls_ok {Γ : Gm} {X : Cx} {W : WX} (o : XOk C ca call k Γ X W) : ∀ (hs : S) (hds : List ExceptHandler), ckH Γ hs hds = true →
    ∃ l : List ClT, ClsOk X hds l ∧ ∀ (Dn : Ends) (ρ : List Addr) (H : Hp) (c : Nat) (fs : List D) (env : Env) (h : List O) (σ' : L2.St) (ρ' : List Addr) (H' : Hp) (dd : Addr) (fl : List (Str × V)),
      PostS X.K C ca W ρ H Dn (handle C c fs env h hs) → Xt ρ H ρ' H' → Wd X.K ρ' h H' → EnvR X.K ρ' H' σ' env → H' dd = some (.xd fl) → XF X.K C ρ' H' c fs fl → wM X.K W Dn l (.ref (ca c)) (some dd) σ' H' := by
  intro hs
  induction hs with
  | hnil =>
    intro hds h
    cases hds with
    | cons _ _ => cases h
    | nil =>
      exact ⟨[], .nil, fun Dn ρ H c fs env h σ' ρ' H' dd fl p x w er e1 e2 => p ρ' H' σ' dd fl x w er e1 e2⟩
  | hcons a i e hs ih =>
    intro hds h
    cases hds with
    | nil => cases h
    | cons hd r =>
      have h0 : (ckHd Γ a i e hd && ckH Γ hs r) = true := h
      simp only [Bool.and_eq_true] at h0
      obtain ⟨h0, g9⟩ := h0
      obtain ⟨x, n, v, px, pr, ph, rfl, g1, g2, g3, g4, g5, g6, g7, g8⟩ := inv_hd h0
      obtain ⟨l, hl, hw⟩ := ih r g9
      obtain ⟨vc, hn, hv⟩ := o.clf.cls _ _ _ g3
      refine ⟨(vc, i, tCl X.K C ca i e) :: l, .cons ⟨x, n, .Return (some v) pr, [], px, ph, rfl, by rw [o.hN]; exact g4, by show X.env.scope.names.lookup n = _; rw [o.sc]; exact g5, hn.names o g1 g2, fun b oe cls d pn hz hf => ?_⟩ hl, ?_⟩
      · refine ⟨fun pins s σ H D I hh => ?_⟩
        obtain ⟨c, k0, dd, fs, hc, rfl, rfl, hh⟩ := hh
        have su := (su_all (a := b) (pn := pn) (fs := fs) o g4 g5 g6 g7 hc hz hf e).1 v g8
        exact (pss_cons (ps_ret su) pss_nil).run pins s σ H D I hh
      · intro Dn ρ H c fs env h σ' ρ' H' dd fl p x w er e1 e2
        obtain ⟨k0, hc, _⟩ := id e2
        refine ⟨isAnc C c a, (hv c k0 hc).2 rfl, fun hb b nb => ?_, fun hb => ?_⟩
        · unfold handle at p
          rw [if_pos hb] at p
          cases ed : evX C c fs e h with
          | none => rw [ed] at p; exact p.elim
          | some dv =>
            obtain ⟨dv, h9⟩ := dv
            rw [ed] at p
            dsimp only at p
            by_cases hi : i < env.length
            case neg => rw [if_neg hi] at p; exact p.elim
            rw [if_pos hi] at p
            refine ⟨c, k0, dd, fs, hc, rfl, rfl, ρ', h, dv, h9, ⟨?_, w, fl, e1, e2⟩, ed, fun ρ2 H2 v2 x2 w2 r2 => p ρ2 H2 v2 (x.trans x2) w2 r2⟩
            rw [List.getElem?_set_self (by rw [er.len]; exact hi)]
        · unfold handle at p
          rw [if_neg (by rw [hb]; decide)] at p
          exact hw Dn ρ H c fs env h σ' ρ' H' dd fl p x w er e1 e2
  | _ =>
    intro hds h
    cases hds <;> cases h
theorem snd_try {b hs : S} (ihb : SndS C ca call k b) : SndS C ca call k (.try b hs) := by
  refine ⟨fun Γ X W x o po hk h => ?_, fun Γ X W x _ _ _ h => ff h (by cases x <;> rfl)⟩
  cases x with
  | Try b' hds oe fe p =>
    cases oe with
    | cons _ _ => cases h
    | nil =>
      cases fe with
      | cons _ _ => cases h
      | nil =>
        have h' : (ckSs b Γ b' && ckH Γ hs hds && !hds.isEmpty) = true := h
        simp only [Bool.and_eq_true, Bool.not_eq_true'] at h'
        obtain ⟨⟨h1, h2⟩, h3⟩ := h'
        obtain ⟨l, hl, hw⟩ := cls_ok o hs hds h2
        refine PS.imp (ps_tryM hk.stk hk.frm (by rw [o.hN]; exact o.nd) o.tk (fun z => by rw [z] at h3; cases h3) (tb := fun W => tS X.K C ca call W b) (fun W' pn xe tk po' => ?_) hl) ?_
        · exact ihb.ss Γ (X.tr pn xe) W' b' ⟨o.hc, o.hN, o.nd, o.sc, o.rm, o.gd, tk, o.fns, o.blt, o.con, o.kin, o.clf, o.fnx⟩ po' ⟨hk.kind, hk.stk, hk.frm⟩ h1
        · rintro D σ H ⟨ρ, hh, env, w, er, p⟩
          refine ⟨ρ, hh, env, w, er, ?_⟩
          unfold exec at p
          cases eb : exec call C b env hh with
          | none => rw [eb] at p; exact p
          | some r =>
            rw [eb] at p
            cases r with
            | fl f h2 => cases f <;> exact p
            | exc c fs e h2 => exact fun ρ' H' σ' dd fl x' w' er' e1 e2 => hw D ρ H c fs e h2 σ' ρ' H' dd fl p x' w' er' e1 e2
  | _ => cases h
theorem sw_two {x y : Str} {px py pt pt2 : Pos} {kt k2 : Nat} {a b : PySem.Expr} {env : PySem.Env} (hk : env.scope.kind = .function) (hx : env.scope.names.lookup x = some .local) (hy : env.scope.names.lookup y = some .local) (hxy : x ≠ y) (hl : (px.line == py.line) = true)
    (ha : plainX a = true) (hb : plainX b = true) (h1 : (foldedForSure 8 a && foldedForSure 8 b) = false) (h2 : (constantsAlone 8 a && constantsAlone 8 b) = false) : swappedStores [.Tuple [.Name x px, .Name y py] kt pt] (.Tuple [a, b] k2 pt2) env = pure (some [x, y]) := by
  have hbk : env.blockKind = .function := by
    unfold PySem.Env.blockKind
    rw [hk]; rfl
  have kx : env.kindOf x = some .local := hx
  have ky : env.kindOf y = some .local := hy
  have hl' : (py.line == px.line) = true := by rw [beq_iff_eq] at hl ⊢; exact hl.symm
  have sa : ∀ e : PySem.Expr, plainX e = true → (match e with | .Starred .. => true | _ => false) = false := fun e h => by cases e <;> first | rfl | cases h
  have fm : ∀ g : Str → Pos → Option Str, g x px = some x → g y py = some y → ([PySem.Expr.Name x px, PySem.Expr.Name y py].filterMap fun t => match t with | .Name id pos => g id pos | _ => none) = [x, y] := fun g e1 e2 => by simp [e1, e2]
  have fm' := fm (fun id pos => if (env.kindOf id == some NameKind.local && pos.line == px.line) = true then some id else none) (by simp [kx]) (by simp only [ky, hl']; rfl)
  have dup : [x, y].eraseDups = [x, y] := by
    have : (y == x) = false := by simpa using hxy.symm
    simp [List.eraseDups, List.eraseDupsBy, List.eraseDupsBy.loop, this]
  unfold swappedStores
  dsimp only
  rw [if_neg (by simp [hbk])]
  rw [if_neg (by
    rw [List.any_cons, List.any_cons, List.any_nil, Bool.or_false, Bool.or_eq_true]
    rintro (z | z)
    · exact Bool.false_ne_true ((sa a ha).symm.trans z)
    · exact Bool.false_ne_true ((sa b hb).symm.trans z))]
  rw [if_neg (by
    refine fun z => ?_
    have z' : ((([PySem.Expr.Name x px, PySem.Expr.Name y py].filterMap fun t => match t with | .Name id pos => (if (env.kindOf id == some NameKind.local && pos.line == px.line) = true then some id else none) | _ => none).length != 2) || (([PySem.Expr.Name x px, PySem.Expr.Name y py].filterMap fun t => match t with | .Name id pos => (if (env.kindOf id == some NameKind.local && pos.line == px.line) = true then some id else none) | _ => none).eraseDups.length != ([PySem.Expr.Name x px, PySem.Expr.Name y py].filterMap fun t => match t with | .Name id pos => (if (env.kindOf id == some NameKind.local && pos.line == px.line) = true then some id else none) | _ => none).length)) = true := z
    rw [fm', dup] at z'
    cases z')]
  rw [if_neg (by simp [h1] <;> simpa using h1), if_neg (by simpa using h2)]
  exact congrArg (fun l => pure (some l)) fm'
end
end Mini
end

section
/-! Mini: two stores at once, items in place; every statement (own work). -/
namespace Mini
open PySem PySem.Spec PyProof.Rows L2
section
variable {C : List Cl} {ca : Nat → Addr} {call : Caller} {k : Nat}
theorem inv_two {Γ : Gm} {i j : Nat} {ts : List PySem.Expr} (h : ckPar Γ i j ts = true) : ∃ n m pn pm, ts = [.Name n pn, .Name m pm] ∧ Γ.N[i]? = some n ∧ Γ.N[j]? = some m ∧ i ≠ j ∧ Γ.sc.names.lookup n = some .local ∧ Γ.sc.names.lookup m = some .local ∧ n ≠ m ∧ (pn.line == pm.line) = true := by
  unfold ckPar at h
  split at h
  · rename_i n pn m pm
    simp only [Bool.and_eq_true, decide_eq_true_eq] at h
    obtain ⟨⟨⟨⟨⟨⟨a1, a2⟩, a3⟩, a4⟩, a5⟩, a6⟩, a7⟩ := h
    exact ⟨n, m, pn, pm, rfl, a1, a2, a3, a4, a5, a6, a7⟩
  · cases h
theorem inv_par {Γ : Gm} {i j : Nat} {es : E} {x : PySem.Stmt} (h : ckS (.par i j es) Γ x = true) : ∃ n m pn pm kt pt a b k2 pt2 p, x = .Assign [.Tuple [.Name n pn, .Name m pm] kt pt] (.Tuple [a, b] k2 pt2) p ∧ plainX a = true ∧ plainX b = true ∧ (foldedForSure 8 a && foldedForSure 8 b) = false ∧ (constantsAlone 8 a && constantsAlone 8 b) = false ∧
    Γ.N[i]? = some n ∧ Γ.N[j]? = some m ∧ i ≠ j ∧ Γ.sc.names.lookup n = some .local ∧ Γ.sc.names.lookup m = some .local ∧ n ≠ m ∧ (pn.line == pm.line) = true ∧ ckEs es Γ [a, b] = true := by
  cases x with
  | Assign tg v p =>
    cases tg with
    | nil => cases h
    | cons t tg =>
      cases tg with
      | cons _ _ => cases t <;> cases h
      | nil =>
        cases t with
        | Tuple ts kt pt =>
          cases v with
          | Tuple vs k2 pt2 =>
            cases vs with
            | nil => cases h
            | cons a vs =>
              cases vs with
              | nil => cases h
              | cons b vs =>
                cases vs with
                | cons _ _ => cases h
                | nil =>
                  have h' : ((plainX a && plainX b && !(foldedForSure 8 a && foldedForSure 8 b) && !(constantsAlone 8 a && constantsAlone 8 b)) && ckPar Γ i j ts && ckEs es Γ [a, b]) = true := h
                  simp only [Bool.and_eq_true, Bool.not_eq_true'] at h'
                  obtain ⟨⟨⟨⟨⟨h1, h2⟩, h3⟩, h4⟩, h5⟩, h6⟩ := h'
                  obtain ⟨n, m, pn, pm, rfl, a1, a2, a3, a4, a5, a6, a7⟩ := inv_two h5
                  exact ⟨n, m, pn, pm, kt, pt, a, b, k2, pt2, p, rfl, h1, h2, h3, h4, a1, a2, a3, a4, a5, a6, a7, h6⟩
          | _ => cases h
        | _ => cases h
  | _ => cases h
theorem snd_par {i j : Nat} {es : E} : SndS C ca call k (.par i j es) := by
  refine ⟨fun Γ X W x o po hk h => ?_, fun Γ X W x _ _ _ h => ff h (by cases x <;> rfl)⟩
  obtain ⟨n, m, pn, pm, kt, pt, a, b, k2, pt2, p, rfl, h1, h2, h3, h4, a1, a2, a3, a4, a5, a6, a7, h6⟩ := inv_par h
  have lx : X.env.scope.names.lookup n = some .local := by rw [o.sc]; exact a4
  have ly : X.env.scope.names.lookup m = some .local := by rw [o.sc]; exact a5
  refine PS.imp (ps_par o.hc (by rw [o.hN]; exact o.nd) (by rw [o.hN]; exact a1) (by rw [o.hN]; exact a2) a3 lx ly ((snd_all es).1.s Γ X W _ o h6) (sw_two hk.kind lx ly a6 a7 h1 h2 h3 h4)) ?_
  rintro D σ H ⟨ρ, hh, env, w, er, p⟩
  refine ⟨ρ, hh, env, w, er, PostS.bns Xt.refl w er p fun vs h1 ρ1 H1 us p1 y1 z1 w1 er1 r1 => ?_⟩
  have r1' : RVs X.K ρ1 H1 us vs := r1
  match vs, p1, r1' with
  | [x, y], p1, ⟨u, r, e1, q1, v, r', e2, q2, e3⟩ =>
    subst e3; subst e2; subst e1
    dsimp only at p1
    by_cases hl : i < env.length ∧ j < env.length
    · rw [if_pos hl] at p1
      exact ⟨u, v, rfl, p1 ρ1 H1 _ z1 w1 ((er1.set q1).set q2)⟩
    · rw [if_neg hl] at p1
      exact p1.elim
  | [], p1, _ => exact p1.elim
  | [_], p1, _ => exact p1.elim
  | _ :: _ :: _ :: _, p1, _ => exact p1.elim
/-- o[i] of a list, by values -/
theorem get_list {X : Cx} : PGet X (rIxL X.K) := by
  intro pins s σ H o i ov iv Q I ro ri h
  obtain ⟨p, xs, n, z, rfl, rfl, hq, he, q⟩ := h
  cases ro
  obtain ⟨t, rfl⟩ := ri
  obtain ⟨its, r, pl, hz⟩ := I.list hq
  obtain ⟨j, h1, h2, h3, h4, h5⟩ := atI_get he
  obtain ⟨w, ew, rw'⟩ := r.get h2
  have hl := r.length
  have hn := line63
  by_cases h0 : 0 ≤ n
  · have hj : n.toNat = j := by
      rw [seqIndex_of h0 h5] at h1
      exact Option.some.inj h1
    exact wpAny_getItem_list pl.isList h0 (by omega) (by rw [hj]; simpa using ew) ⟨z, H, I, rw', q⟩
  · have hj : (n + (its.toArray.size : Int)).toNat = j := by
      rw [seqIndex_neg (by omega) h4] at h1
      rw [List.size_toArray, ← hl]
      exact Option.some.inj h1
    exact wpAny_getItem_list_neg pl.isList (by omega) (by rw [List.size_toArray] <;> omega) (by omega) (by rw [hj]; simpa using ew) ⟨z, H, I, rw', q⟩
theorem get_dict {X : Cx} (hu : X.A.units + 64 < cLine) : PGet X (fun o i H Q => ∃ a v, o = .ref a ∧ DGet H a i (some v) ∧ Q v H) := by
  intro pins s σ H o i ov iv Q I ro ri h
  obtain ⟨a, v, rfl, g, q⟩ := h
  cases ro
  exact d_getItem (by omega) I g ri fun w' s' I' rw' => ⟨v, H, I', rw', q⟩
theorem get_both {X : Cx} (hu : X.A.units + 64 < cLine) : PGet X (fun o i H Q => rIxL X.K o i H Q ∨ ∃ a v, o = .ref a ∧ DGet H a i (some v) ∧ Q v H) := fun pins s σ H o i ov iv Q I ro ri q => q.elim (get_list pins s σ H o i ov iv Q I ro ri) (get_dict hu pins s σ H o i ov iv Q I ro ri)
theorem get_ok {X : Cx} {ρ : List Addr} {H : Hp} {h : List O} {Wc : Value → Option Addr → Hp → Prop} {Q : VK} {u v : V} {x y : D} (w : Wd X.K ρ h H) (r1 : RV X.K ρ H u x) (r2 : RV X.K ρ H v y) (hb : lstB h x = true)
    (p : Post ⟨X.K, C, ca⟩ ρ H (relD X.K) Wc Q (ixG x y h)) : rIxL X.K u v H Q ∨ ∃ a z, u = .ref a ∧ DGet H a v (some z) ∧ Q z H := by
  have dct : Post ⟨X.K, C, ca⟩ ρ H (relD X.K) Wc Q (ixK x y h) → rIxL X.K u v H Q ∨ ∃ a z, u = .ref a ∧ DGet H a v (some z) ∧ Q z H := fun p => by
    unfold ixK at p
    split at p
    · split at p
      · rename_i t kvs e
        split at p
        · rename_i hk
          obtain ⟨a, rfl, _, qd⟩ := rd_dct w r1 e
          rcases dget_at qd hk r2 with ⟨z, d, g, e2, rz⟩ | ⟨g, e2⟩
          · rw [e2] at p
            exact .inr ⟨a, z, rfl, g, p.ok Xt.refl w rz⟩
          · rw [e2] at p
            exact p.elim
        · exact p.elim
      · exact p.elim
    · exact p.elim
  unfold lstB at hb
  split at hb
  · rename_i n
    unfold ixG at p
    split at p
    · rename_i xs i e
      cases r2
      split at p
      · rename_i d e1
        obtain ⟨a, us, rfl, _, q3, s⟩ := rd_lst w r1 e
        obtain ⟨z, e2, e3⟩ := at_rv s e1
        exact .inl ⟨a, us, i, z, rfl, rfl, q3, e2, p.ok Xt.refl w e3⟩
      · exact p.elim
    · exact dct p
  · cases hb
theorem snd_augS {a i e : E} {op : Operator} : SndS C ca call k (.augS a i op e) := by
  refine ⟨fun Γ X W x o po hk h => ?_, fun Γ X W x _ _ _ h => ff h (by cases x <;> rfl)⟩
  cases x with
  | AugAssign t op' v p =>
    have h' : (decide (op = op') && ckA Γ a i t && ckE e Γ v) = true := by
      cases t <;> exact h
    simp only [Bool.and_eq_true, decide_eq_true_eq] at h'
    obtain ⟨⟨rfl, h2⟩, h3⟩ := h'
    cases t with
    | Subscript a' i' pt =>
      have h2' : (ckE a Γ a' && ckE i Γ i' && plainX i') = true := h2
      simp only [Bool.and_eq_true] at h2'
      obtain ⟨⟨g1, g2⟩, g3⟩ := h2'
      obtain ⟨r, hr, hr2⟩ := aug_ok (X := X) (C := C) (ca := ca) op
      have hp : PIp X op r := hr
      refine PS.imp (ps_augS ((snd_all a).1.e Γ X W _ o g1) ((snd_all i).1.e Γ X W _ o g2) (get_both o.hu) ((snd_all e).1.e Γ X W _ o h3) hp (set_both o.hu) (fun ov iv new => ?_)) ?_
      · cases i' <;> first | rfl | cases g3
      · rintro D σ H ⟨ρ, hh, env, w, er, p⟩
        refine ⟨ρ, hh, env, w, er, PostS.bns Xt.refl w er p fun x1 h1 ρ1 H1 v1 p1 y1 z1 w1 er1 r1 => ?_⟩
        refine ⟨ρ1, h1, env, w1, er1, PostS.bns z1 w1 er1 p1 fun x2 h2 ρ2 H2 v2 p2 y2 z2 w2 er2 r2 => ?_⟩
        by_cases hb : lstB h2 x1 = true
        · rw [if_pos hb] at p2
          refine get_ok w2 (w1.rv y2 r1) r2 hb (PostS.bns z2 w2 er2 p2 fun x3 h3 ρ3 H3 v3 p3 y3 z3 w3 er3 r3 => ?_)
          refine ⟨ρ3, h3, env, w3, er3, PostS.bns z3 w3 er3 p3 fun x4 h4 ρ4 H4 v4 p4 y4 z4 w4 er4 r4 => ?_⟩
          refine hr2 w4 (w3.rv y4 r3) r4 (PostS.bns z4 w4 er4 p4 fun x5 h5 ρ5 H5 v5 p5 y5 z5 w5 er5 r5 => ?_)
          have s1 : Xt ρ1 H1 ρ5 H5 := ((y2.trans y3).trans y4).trans y5
          have s2 : Xt ρ2 H2 ρ5 H5 := (y3.trans y4).trans y5
          cases es : setI x1 x2 x5 h5 with
          | none => rw [es] at p5; exact p5.elim
          | some h6 =>
            rw [es] at p5
            exact set_ok w5 (w1.rv s1 r1) (w2.rv s2 r2) r5 es fun H' x' w' => p5 _ _ σ (z5.trans x') w' (er5.fwd w5 x')
        · rw [if_neg hb] at p2
          exact p2.elim
    | _ => cases h2
  | _ => cases h
theorem snd_S : ∀ ir : S, SndS C ca call k ir := by
  have none' : ∀ {ir : S}, (∀ Γ x, ckS ir Γ x = false) → (∀ Γ x, ckSs ir Γ x = false) → SndS C ca call k ir := fun {ir} h1 h2 => ⟨fun Γ X W x _ _ _ h => ff h (h1 Γ x), fun Γ X W x _ _ _ h => ff h (h2 Γ x)⟩
  intro ir
  induction ir with
  | nil => exact snd_nilS
  | seq a b iha ihb => exact snd_seq iha ihb
  | asg tg e => exact snd_asg
  | par i j es => exact snd_par
  | aug i op e => exact snd_aug
  | augS a i op e => exact snd_augS
  | ex e => exact snd_ex
  | ite c a b iha ihb => exact snd_ite iha ihb
  | «for» tg it b ihb => exact snd_for ihb
  | «while» c b ihb => exact snd_while ihb
  | lock i b ih => exact snd_lock ih
  | brk => exact snd_brk
  | cnt => exact snd_cnt
  | ret e => exact snd_ret
  | retN => exact snd_retN
  | raise c es => exact snd_raise
  | «try» b hs ihb _ => exact snd_try ihb
  | hnil => exact none' (fun Γ x => by cases x <;> rfl) (fun Γ x => by cases x <;> rfl)
  | hcons a i e hs _ => exact none' (fun Γ x => by cases x <;> rfl) (fun Γ x => by cases x <;> rfl)
  | bad => exact ⟨fun Γ X W x _ _ _ _ => ⟨fun pins s σ H D I h => (by obtain ⟨ρ, hh, env, w, er, p⟩ := h; exact p.elim)⟩, fun Γ X W x _ _ _ h => ff h (by cases x <;> rfl)⟩
end
end Mini
end

section
/-! Mini: every def of the text keeps what callF says (own work). -/
namespace Mini
open PySem PySem.Spec PyProof.Rows L2

/-! ### a def by its body, no repr's guard above -/
theorem fnG_of {P : Program} {w : World} {K : PySem.W.Frag} {mg : Str → Option Value} {base : Heap} {k : Nat} {f : Addr} {name qual : Str} {params : Arguments} {body : List PySem.Stmt} {scope : Scope} {dV kV doc pm cdv ct oc : Value} {an od : Option Addr}
    {osl : Array (Option Value)} {N ps : List Str} {sp : Sp} (lk : K.lookup f = some ⟨oc, od, .func (PySem.W.fnOf name qual params body scope dV kV doc pm an cdv ct), osl⟩) (hcd : PySem.W.codeIn K cdv qual = true) (S : FnScope N ps scope)
    (len : ∀ vs H Q E, sp vs H Q E → vs.length = ps.length)
    (hbody : ∀ (A : Around) (outer : List PySem.Env) (s : Shared) (H : Hp) (vs : List V) (Q : VK) (E : XK), Room (k + 3) (A.deeper (envOfC qual scope s.heap.objs.size f cdv)) → (A.deeper (envOfC qual scope s.heap.objs.size f cdv)).guards = some [] → sp vs H Q E →
      ∃ t, PSs (cxOf (L2.CX P w) P w K mg base N qual scope f cdv A outer s H E) body t ∧ t { nx := fun _ H' => Q .non H', rt := Q } (start N vs) H) :
    FnG P w K mg base (k + 1) f (PySem.W.fnOf name qual params body scope dV kV doc pm an cdv ct) ps sp := by
  refine ⟨len, fun A outer s H args us vs Q E room gd e0 hb r hsp => ?_⟩
  have hl := len _ _ _ _ hsp
  have kin : K.In s.heap := e0.mod.kin.keeps fun b o e => (e0.bs b o e).1
  have nolim : s.heap.NoLimit := e0.mod.nolimit.keeps fun b o e => (e0.bs b o e).1
  have kinds : ∀ y ∈ ps.zip us, scope.names.lookup y.1 = some .local ∨ (scope.names.lookup y.1 = some .cell ∧ ((cellsFrom (s.heap.objs.size + 1) scope.names []).lookup y.1).isSome = true) := by
    rintro ⟨n, v⟩ hy
    rcases S.par n (List.of_mem_zip hy).1 with q | q
    · exact .inl q
    · exact .inr ⟨q, PySem.W.cellsFrom_some _ _ _ (.inl q)⟩
  refine codeAny_call_function room.depth (kin _ _ lk) rfl S.co S.gen rfl (PySem.W.codeRec_of kin hcd) (hb _ _ _ _ ?_)
  refine wpAny_newFunctionEnv_cells S.kind kinds fun env he s1 x => ?_
  subst he
  refine ⟨nolim.keeps x.toInCall.keep, codeAny_func ?_⟩
  obtain ⟨t, ht, hq⟩ := hbody A outer s H vs Q E (room.deeper _) (by first | exact gd | (show (A.deeper _).guards = _; simpa [Around.deeper] using gd)) hsp
  have I : Inv (cxOf (L2.CX P w) P w K mg base N qual scope f cdv A outer s H E) [] (start N vs) H s1 := inv_start S room.hd e0 hl r x
  refine wpAny_mono (ht.run [] s1 (start N vs) H _ I hq) (fun fl s' ends => ?_) fun e s' ends => ends
  have done : ∀ {τ : L2.St} {G : Hp} {v : V} {u : Value}, Inv (cxOf (L2.CX P w) P w K mg base N qual scope f cdv A outer s H E) [] τ G s' → RelV v u → Q v G → CE outer P w H s Q u s' :=
    fun {τ G v u} J rv q => ⟨v, G, J.os, J.bare, J.base, J.hok, rv, q⟩
  cases fl with
  | next =>
    obtain ⟨τ, G, J, q⟩ := ends
    exact done (v := V.non) (u := Value.none) J rfl q
  | ret u =>
    obtain ⟨v, τ, G, J, rv, q⟩ := ends
    exact done J rv q
  | brk =>
    obtain ⟨_, _, _, q⟩ := ends
    exact q.elim
  | cont =>
    obtain ⟨_, _, _, q⟩ := ends
    exact q.elim

/-! ### callF -/
theorem Wd.nil0 {K : PySem.W.Frag} {H : Hp} : Wd K [] [] H := ⟨rfl, List.nodup_nil, fun i o a e => by simp at e⟩
theorem start_env {K : PySem.W.Frag} {ρ : List Addr} {H : Hp} {vs : List V} {ds : List D} {N : List Str} (r : RVs K ρ H vs ds) : EnvR K ρ H (start N vs) (startD N.length ds) := by
  refine ⟨?_, fun i d e => ?_⟩
  · unfold L2.start startD
    simp [r.len]
  · unfold startD at e
    by_cases hi : i < ds.length
    · rw [List.getElem?_append_left (by simpa using hi), List.getElem?_map] at e
      cases e1 : ds[i]? with
      | none => rw [e1] at e; cases e
      | some d' =>
        rw [e1] at e
        cases e
        obtain ⟨v, e2, e3⟩ := r.get e1
        refine ⟨v, ?_, e3⟩
        unfold L2.start
        rw [List.getElem?_append_left (by simpa [r.len] using hi), List.getElem?_map, e2]
        rfl
    · rw [List.getElem?_append_right (by simpa using hi), List.getElem?_replicate] at e
      split at e <;> cases e
section
variable {K : PySem.W.Frag} {C : List Cl} {ca : Nat → Addr} {ρ ρ' : List Addr} {h g : List O} {H H' : Hp}
theorem OR.shifted {α : List Addr} (t_ : TS' K H H') {a : Addr} {o : O} (e : H' a = H a) (r : OR K ρ H a o) : OR K (α ++ ρ) H' a (o.shift α.length) := by
  cases o with
  | lst xs => obtain ⟨vs, e1, r⟩ := r; exact ⟨vs, by rw [e]; exact e1, RVs.shifted t_ _ _ r⟩
  | ro xs => obtain ⟨u, vs, e1, r⟩ := r; exact ⟨u, vs, by rw [e]; exact e1, RVs.shifted t_ _ _ r⟩
  | dct lk t kvs =>
    have key : ∀ l : List (D × D), (D.shiftK α.length l).map (·.2) = D.shiftL α.length (l.map (·.2)) := by
      intro l
      induction l with
      | nil => rfl
      | cons p l ih => simp [D.shiftK, D.shiftL, ih]
    have flat : ∀ k : Key, (kD k).shift α.length = kD k := fun k => by cases k <;> rfl
    cases t with
    | false =>
      obtain ⟨ws, e1, e2, r⟩ := r
      refine ⟨ws, by rw [e]; exact e1, ?_, by rw [key]; exact RVs.shifted t_ _ _ r⟩
      have : ∀ (l : List (D × D)) (ws : List (Key × V)), ws.map (fun p => kD p.1) = l.map (·.1) → ws.map (fun p => kD p.1) = (D.shiftK α.length l).map (·.1) := by
        intro l
        induction l with
        | nil => intro ws h; exact h
        | cons p l ih =>
          intro ws h
          cases ws with
          | nil => cases h
          | cons q ws =>
            simp only [List.map_cons, List.cons.injEq] at h
            simp only [D.shiftK, List.map_cons, List.cons.injEq]
            exact ⟨by rw [← h.1, flat], ih ws h.2⟩
      exact this _ _ e2
    | true =>
      obtain ⟨ws, e1, e2, r⟩ := r
      refine ⟨ws, by rw [e]; exact e1, ?_, by rw [key]; exact RVs.shifted t_ _ _ r⟩
      have fl : ∀ ks : List Key, D.shiftL α.length (ks.map kD) = ks.map kD := by
        intro ks
        induction ks with
        | nil => rfl
        | cons k ks ih => simp [D.shiftL, flat, ih]
      have : ∀ (l : List (D × D)) (ws : List (List Key × V)), ws.map (fun p => D.tup (p.1.map kD)) = l.map (·.1) → ws.map (fun p => D.tup (p.1.map kD)) = (D.shiftK α.length l).map (·.1) := by
        intro l
        induction l with
        | nil => intro ws h; exact h
        | cons p l ih =>
          intro ws h
          cases ws with
          | nil => cases h
          | cons q ws =>
            simp only [List.map_cons, List.cons.injEq] at h
            simp only [D.shiftK, List.map_cons, List.cons.injEq]
            refine ⟨?_, ih ws h.2⟩
            rw [← h.1, D.shift, fl]
      exact this _ _ e2
  | tpl xs => obtain ⟨u, vs, e1, d, r⟩ := r; exact ⟨u, vs, by rw [e]; exact e1, d, RVs.shifted t_ _ _ r⟩
theorem shiftH_map (k : Nat) : ∀ g : List O, shiftH k g = g.map (O.shift k)
  | [] => rfl
  | x :: xs => by rw [shiftH, shiftH_map k xs]; rfl
/-- what a call of pure arguments made is put beside what was -/
theorem Wd.beside (w : Wd K ρ h H) (x : Xt [] H ρ' H') (w' : Wd K ρ' g H') : Xt ρ H (ρ ++ ρ') H' ∧ Wd K (ρ ++ ρ') (h ++ shiftH h.length g) H' := by
  obtain ⟨⟨τ, e1, n1⟩, fr, kp, _⟩ := x
  rw [List.nil_append] at e1
  subst e1
  have same : ∀ a, H a ≠ none → H' a = H a := fun a ha => by
    cases e : H a with
    | none => exact absurd e ha
    | some o => rw [fr a o e (by simp)]
  have ts : TS' K H H' := by
    intro a vs q
    exact fr a _ q (by simp)
  refine ⟨⟨⟨ρ', rfl, n1⟩, fun a o e _ => fr a o e (by simp), kp, fun a o u e => fr a _ e (by simp)⟩, ⟨by rw [List.length_append, List.length_append, shiftH_map, List.length_map, w.len, w'.len], ?_, fun i o a e2 e3 => ?_⟩⟩
  · exact List.nodup_append.mpr ⟨w.nd, w'.nd, fun a m b mb e => w.there m (by rw [e]; exact n1 b mb)⟩
  · by_cases hi : i < ρ.length
    · rw [List.getElem?_append_left (by rw [← w.len]; exact hi)] at e2
      rw [List.getElem?_append_left hi] at e3
      exact OR.mono ts (fun n a e => by rw [List.getElem?_append_left (List.getElem?_eq_some_iff.mp e).1]; exact e) (same a (w.there (mem_of_get e3))) (w.obj i o a e2 e3)
    · rw [List.getElem?_append_right (by rw [← w.len]; omega), shiftH_map, List.getElem?_map] at e2
      rw [List.getElem?_append_right (by omega)] at e3
      rw [w.len] at e3
      cases e4 : g[i - h.length]? with
      | none => rw [e4] at e2; cases e2
      | some o' =>
        rw [e4] at e2
        cases e2
        rw [← w.len]
        exact OR.shifted TS'.refl rfl (w'.obj _ o' a e4 e3)
theorem RV.pure_shift : ∀ (d : D), d.pure = true → ∀ k, d.shift k = d := by
  intro d
  exact D.rec (motive_1 := fun d => d.pure = true → ∀ k, d.shift k = d) (motive_2 := fun xs => D.pureL xs = true → ∀ k, D.shiftL k xs = xs)
    (fun _ _ => rfl) (fun _ _ _ => rfl) (fun _ _ _ => rfl) (fun _ _ _ => rfl) (fun xs ih h k => by rw [D.shift, ih (by simpa [D.pure] using h)]) (fun n h => by simp [D.pure] at h)
    (fun _ _ => rfl) (fun x xs ih1 ih2 h k => by
      have h' : x.pure = true ∧ D.pureL xs = true := by simpa [D.pureL] using h
      rw [D.shiftL, ih1 h'.1, ih2 h'.2]) d
theorem tidy_ok (w' : Wd K ρ' g H') {v : V} {d : D} (r : RV K ρ' H' v d) : ∃ ρt, Wd K ρt (tidy d g).2 H' ∧ RV K ρt H' v (tidy d g).1 ∧ ∀ a ∈ ρt, a ∈ ρ' := by
  unfold tidy
  split
  · rename_i hp
    exact ⟨[], Wd.nil0, RV.any TS'.refl d v hp r, fun a m => by simp at m⟩
  · split
    · rename_i m hp
      obtain ⟨a, ev, ea⟩ := r
      split
      · rename_i o eo
        split
        · rename_i po
          have r0 := w'.obj m o a eo ea
          refine ⟨[a], ⟨rfl, by simp, fun i o' b e1 e2 => ?_⟩, ⟨a, ev, rfl⟩, fun b mb => by simp at mb; rw [mb]; exact mem_of_get ea⟩
          have hi : i = 0 := by
            have := (List.getElem?_eq_some_iff.mp e1).1
            simpa using this
          subst hi
          simp at e1 e2
          subst e1; subst e2
          cases o with
          | lst xs =>
            obtain ⟨vs, q1, q2⟩ := r0
            exact ⟨vs, q1, RVs.any TS'.refl xs vs (by simpa [O.pure] using po) q2⟩
          | ro xs => cases po
          | dct lk t kvs =>
            have hp2 : lk = false ∧ (kvs.all fun p => p.1.pure && p.2.pure) = true := by simpa [O.pure] using po
            have pv : D.pureL (kvs.map (·.2)) = true := by
              have h2 := hp2.2
              clear r0 eo po hp2
              induction kvs with
              | nil => rfl
              | cons p l ih =>
                simp only [List.all_cons, Bool.and_eq_true] at h2
                simp [D.pureL, h2.1.2, ih h2.2]
            cases t with
            | false => obtain ⟨vs, q1, q3, q2⟩ := r0; exact ⟨vs, q1, q3, RVs.any TS'.refl _ _ pv q2⟩
            | true => obtain ⟨vs, q1, q3, q2⟩ := r0; exact ⟨vs, q1, q3, RVs.any TS'.refl _ _ pv q2⟩
          | tpl xs =>
            obtain ⟨u, vs, q1, q3, q2⟩ := r0
            exact ⟨u, vs, q1, q3, RVs.any TS'.refl xs vs (by simpa [O.pure] using po) q2⟩
        · exact ⟨ρ', w', ⟨a, ev, ea⟩, fun b mb => mb⟩
      · exact ⟨ρ', w', ⟨a, ev, ea⟩, fun b mb => mb⟩
    · exact ⟨ρ', w', r, fun b mb => mb⟩
end
end Mini
end

section
/-! Mini: calls of the text's defs (own work). -/
namespace Mini
open PySem PySem.Spec PyProof.Rows L2

structure Tb where
  fns : List (Str × Nat × List D)
  cls : List (Str × Nat × Nat)
  con : List (Str × D)
  kin : List (Str × List Nat)
/-- the def at a is f of the table -/
structure FnS (K : PySem.W.Frag) (T : Tb) (f : Fn) (a : Addr) (fd : FuncData) (ps : List Str) : Prop where
  is : ∃ (Γ : Gm) (oc : Value) (od : Option Addr) (name qual : Str) (params : Arguments) (body : List PySem.Stmt) (scope : Scope) (dV kV doc pm cdv ct : Value) (an : Option Addr) (osl : Array (Option Value)),
    fd = PySem.W.fnOf name qual params body scope dV kV doc pm an cdv ct ∧ K.lookup a = some ⟨oc, od, .func fd, osl⟩ ∧ PySem.W.codeIn K cdv qual = true ∧ FnScope Γ.N ps scope ∧ Γ.sc = scope ∧ Γ.ts = scope ∧ Γ.fns = T.fns ∧ Γ.cls = T.cls ∧ Γ.con = T.con ∧ Γ.kin = T.kin ∧
      ckSs f.body Γ body = true ∧ f.np = ps.length ∧ f.nl = Γ.N.length
/-- the whole text -/
structure Whole (P : Program) (w : World) (K : PySem.W.Frag) (mg : Str → Option Value) (base : Heap) (C : List Cl) (ca : Nat → Addr) (T : Tb) (PF : List Fn) : Prop where
  fns : ∀ x i ds, (x, i, ds) ∈ T.fns → ∃ f a fd ps us dvs, PF[i]? = some f ∧ FnS K T f a fd ps ∧ mg x = some (.ref a) ∧ PySem.W.keepIn K (.ref a) = true ∧ Binds K fd ps us ∧ Vals dvs us ∧ ∀ ρ H, RVs K ρ H dvs ds
  blt : ∀ x ∈ blts, mg x = none
  con : ∀ x d, (x, d) ∈ T.con → ∃ v u, mg x = some u ∧ RelV v u ∧ ∀ ρ H, RV K ρ H v d
  kin : ∀ x cs, (x, cs) ∈ T.kin → ∃ a fd ps, mg x = some (.ref a) ∧ PySem.W.keepIn K (.ref a) = true ∧ KinF P w K mg base C ca a fd ps cs ∧ Binds K fd ps []
  clf : ClF C ca T.cls P w K mg base
section
variable {P : Program} {w : World} {K : PySem.W.Frag} {mg : Str → Option Value} {base : Heap} {C : List Cl} {ca : Nat → Addr} {T : Tb} {PF : List Fn}
theorem locS_loc {sc : Scope} {x : Str} (h : locS sc x = true) : Loc sc x := by
  unfold locS at h
  split at h
  · rename_i e; exact .inl e
  · rename_i e; exact .inr e
  · cases h
/-- the ends of a body are the call's -/
theorem ends_pure {call : Caller} {ρ : List Addr} {h : List O} {H : Hp} {E : XK} {Q : VK} {f : Fn} {ds : List D} (w0 : Wd K ρ h H)
    (p : Post ⟨K, C, ca⟩ ρ H (relD K) E Q (match runB call C f ds [] with
          | some (.ok d g) => some (.ok ((tidy d g).1.shift h.length) (h ++ shiftH h.length (tidy d g).2))
          | some (.exc c fs g) => if D.pureL fs then some (.exc c fs h) else none
          | none => none)) :
    PostS K C ca (fun cls d _ H => E cls d H) [] H { nx := fun _ H' => Q .non H', rt := Q } (exec call C f.body (startD f.nl ds) []) := by
  have okk : ∀ (d : D) (g : List O), Post ⟨K, C, ca⟩ ρ H (relD K) E Q (some (.ok ((tidy d g).1.shift h.length) (h ++ shiftH h.length (tidy d g).2))) → ∀ ρ' H' v, Xt [] H ρ' H' → Wd K ρ' g H' → RV K ρ' H' v d → Q v H' := by
    intro d g p ρ' H' v x w' r
    obtain ⟨ρt, wt, rt, sub⟩ := tidy_ok w' r
    have xt : Xt [] H ρt H' := by
      obtain ⟨⟨τ, e1, n1⟩, fr, kp, fz⟩ := x
      rw [List.nil_append] at e1
      subst e1
      exact ⟨⟨ρt, rfl, fun a m => n1 a (sub a m)⟩, fr, kp, fz⟩
    obtain ⟨x2, w2⟩ := w0.beside xt wt
    refine p (ρ ++ ρt) H' v x2 w2 ?_
    show RV K (ρ ++ ρt) H' v _
    rw [← w0.len]
    exact RV.shifted TS'.refl _ _ rt
  unfold runB at p
  cases ee : exec call C f.body (startD f.nl ds) [] with
  | none => rw [ee] at p; exact p
  | some r =>
    rw [ee] at p
    cases r with
    | fl fl g =>
      cases fl with
      | rt d => exact okk d g p
      | nx e => exact fun ρ' H' σ' x w' er => okk .non g p ρ' H' .non x w' rfl
      | bk e => exact p.elim
      | ct e => exact p.elim
    | exc c fs e g =>
      dsimp only at p
      by_cases hp : D.pureL fs = true
      · rw [if_pos hp] at p
        intro ρ' H' σ' dd fl x w' er e1 e2
        obtain ⟨⟨τ, e3, n1⟩, fr, kp, fz⟩ := x
        have x2 : Xt ρ H ρ H' := ⟨⟨[], by simp, by simp⟩, fun a o q _ => fr a o q (by simp), kp, fz⟩
        have w2 : Wd K ρ h H' := by
          have := (w0.beside ⟨⟨τ, e3, n1⟩, fr, kp, fz⟩ w').2
          refine w0.back ⟨⟨τ, rfl, n1⟩, fun a o q _ => fr a o q (by simp), kp, fz⟩ (ρ' := ρ ++ τ) (h' := h ++ shiftH h.length g) ?_ (by rw [List.take_left])
          rw [List.nil_append] at e3
          rw [← e3]; exact this
        obtain ⟨k0, q1, q2⟩ := e2
        refine p ρ H' dd fl x2 w2 e1 ⟨k0, q1, fun y d l => ?_⟩
        obtain ⟨v, a, b⟩ := q2 y d l
        refine ⟨v, a, RV.any TS'.refl d v ?_ b⟩
        obtain ⟨i, _, e5⟩ := zip_ix l
        have key : ∀ (xs : List D) (i : Nat) (d : D), D.pureL xs = true → xs[i]? = some d → d.pure = true := by
          intro xs
          induction xs with
          | nil => intro i d _ e; simp at e
          | cons x xs ih =>
            intro i d hp e
            have h' : x.pure = true ∧ D.pureL xs = true := by simpa [D.pureL] using hp
            cases i with
            | zero => simp at e; rw [← e]; exact h'.1
            | succ i => exact ih i d h'.2 (by simpa using e)
        exact key fs i d hp e5
      · rw [if_neg hp] at p
        exact p.elim
theorem ends_heap {call : Caller} {ρ : List Addr} {h : List O} {H : Hp} {E : XK} {Q : VK} {f : Fn} {ds : List D} (w0 : Wd K ρ h H)
    (p : Post ⟨K, C, ca⟩ ρ H (relD K) E Q (match runB call C f ds h with
          | some (.ok d h') => some (.ok d (gc h d h'))
          | r => r)) :
    PostS K C ca (fun cls d _ H => E cls d H) ρ H { nx := fun _ H' => Q .non H', rt := Q } (exec call C f.body (startD f.nl ds) h) := by
  have okk : ∀ (d : D) (g : List O), Post ⟨K, C, ca⟩ ρ H (relD K) E Q (some (.ok d (gc h d g))) → ∀ ρ' H' v, Xt ρ H ρ' H' → Wd K ρ' g H' → RV K ρ' H' v d → Q v H' := by
    intro d g p ρ' H' v x w' r
    obtain ⟨ρ'', x2, w2, r2⟩ := gc_ok w0 x w' r
    exact p ρ'' H' v x2 w2 r2
  unfold runB at p
  cases ee : exec call C f.body (startD f.nl ds) h with
  | none => rw [ee] at p; exact p
  | some r =>
    rw [ee] at p
    cases r with
    | fl fl g =>
      cases fl with
      | rt d => exact okk d g p
      | nx e => exact fun ρ' H' σ' x w' er => okk .non g p ρ' H' .non x w' rfl
      | bk e => exact p.elim
      | ct e => exact p.elim
    | exc c fs e g => exact fun ρ' H' σ' dd fl x w' er e1 e2 => p ρ' H' dd fl x w' e1 e2
/-- THE CALLS -/
theorem call_ok (Wh : Whole P w K mg base C ca T PF) : ∀ (n i : Nat) (f : Fn) (a : Addr) (fd : FuncData) (ps : List Str), PF[i]? = some f → FnS K T f a fd ps → FnG P w K mg base n a fd ps (spI ⟨K, C, ca⟩ (callF PF C n) i) := by
  intro n
  induction n with
  | zero =>
    intro i f a fd ps hf hs
    exact ⟨fun vs H Q E ⟨ρ, h, ds, _, _, p⟩ => p.elim, fun A outer s H args us vs Q E _ _ _ _ _ ⟨ρ, h, ds, _, _, p⟩ => p.elim⟩
  | succ n ih =>
    intro i f a fd ps hf hs
    obtain ⟨Γ, oc, od, name, qual, params, body, scope, dV, kV, doc, pm, cdv, ct, an, osl, rfl, lk, hcd, S, e1, e2, e3, e4, e5, e6, hck, hnp, hnl⟩ := hs.is
    have step : ∀ ds h, callF PF C (n + 1) i ds h = if ds.length = f.np then (if D.pureL ds then match runB (callF PF C n) C f ds [] with
          | some (.ok d g) => some (.ok ((tidy d g).1.shift h.length) (h ++ shiftH h.length (tidy d g).2))
          | some (.exc c fs g) => if D.pureL fs then some (.exc c fs h) else none
          | none => none
        else match runB (callF PF C n) C f ds h with
          | some (.ok d h') => some (.ok d (gc h d h'))
          | r => r) else none := fun ds h => by
      rw [callF, hf]
      all_goals rfl
    refine fnG_of lk hcd S (fun vs H Q E ⟨ρ, h, ds, _, r, p⟩ => ?_) fun A outer s H vs Q E room gd hsp => ?_
    · rw [step] at p
      by_cases hl : ds.length = f.np
      · rw [r.len, hl, hnp]
      · rw [if_neg hl] at p; exact p.elim
    · obtain ⟨ρ, h, ds, w0, r, p⟩ := hsp
      have xok : XOk C ca (callF PF C n) n Γ (cxOf (L2.CX P w) P w K mg base Γ.N qual scope a cdv A outer s H E) (fun cls d _ H => E cls d H) := by
        refine ⟨rfl, rfl, S.nd, e1.symm, room, gd, takes_of rfl rfl rfl rfl, fun x j ds' m => ?_, Wh.blt, fun x d m => Wh.con x d (e5 ▸ m), fun x cs m => Wh.kin x cs (e6 ▸ m), ?_, fun x hx => ⟨?_, .inl rfl⟩⟩
        · obtain ⟨f', a', fd', ps', us, dvs, g1, g2, g3, g4, g5, g6, g7⟩ := Wh.fns x j ds' (e3 ▸ m)
          exact ⟨a', fd', ps', us, dvs, g3, g4, ih j f' a' fd' ps' g1 g2, g5, g6, g7⟩
        · rw [e4]; exact Wh.clf
        · rw [e2] at hx; exact locS_loc hx
      refine ⟨_, (snd_S f.body).ss Γ _ _ body xok (passes_of rfl) ⟨S.kind, rfl, rfl⟩ hck, ?_⟩
      rw [step] at p
      by_cases hl : ds.length = f.np
      · rw [if_pos hl] at p
        by_cases hp : D.pureL ds = true
        · rw [if_pos hp] at p
          refine ⟨[], [], startD f.nl ds, Wd.nil0, ?_, ends_pure w0 p⟩
          rw [hnl]
          exact start_env (RVs.any TS'.refl ds vs hp r)
        · rw [if_neg hp] at p
          refine ⟨ρ, h, startD f.nl ds, w0, ?_, ends_heap w0 p⟩
          rw [hnl]
          exact start_env r
      · rw [if_neg hl] at p
        exact p.elim
end
end Mini
end

section
/-! Mini: from the evaluator to the row's promise (own work). -/
namespace Mini
open PySem PySem.Spec PyProof.Rows L2

/-- the heap in which the script alone is told -/
def soloH (a : Addr) (vs : List Value) (ns : List Int) : Hp := fun b => if b = a then some (.frz { cls := .type "list", data := .seq vs.toArray } (.lst (ns.map V.int))) else none
theorem solo_at {a : Addr} {vs : List Value} {ns : List Int} : soloH a vs ns a = some (.frz { cls := .type "list", data := .seq vs.toArray } (.lst (ns.map V.int))) := if_pos rfl
theorem solo_off {a b : Addr} {vs : List Value} {ns : List Int} (h : b ≠ a) : soloH a vs ns b = none := if_neg h
theorem solo_wd {K : PySem.W.Frag} {a : Addr} {vs : List Value} {ns : List Int} : Wd K [a] [.ro (ns.map D.int)] (soloH a vs ns) := by
  refine ⟨rfl, by simp, fun i o b e1 e2 => ?_⟩
  have hi : i = 0 := by
    have := (List.getElem?_eq_some_iff.mp e1).1
    simpa using this
  subst hi
  simp at e1 e2
  subst e1; subst e2
  exact ⟨_, _, solo_at, RVs.of_ints ns⟩
theorem call_true {P : Program} {w : World} {K : PySem.W.Frag} {mg mb : Str → Option Value} {C : List Cl} {ca : Nat → Addr} {PF : List Fn} {k i : Nat} {fa a : Addr} {fd : FuncData} {x : Str} {s₁ : Shared} {vs : List Value} {ns : List Int} {h' : List O}
    (kin : K.In s₁.heap) (hns : s₁.heap.Ns mainGlobals mg) (hb : s₁.heap.Ns builtinsNs mb) (hbb : ∀ x : Str, x ≠ "__name__" → mb x = bootBuiltins x) (nolim : s₁.heap.NoLimit) (hg : s₁.gens = #[])
    (ha : s₁.heap.get? a = some { cls := .type "list", data := .seq vs.toArray }) (hi : IntsAre vs ns) (hl : ns.length ≤ sizeLine) (hK : K.lookup a = none) (room : Room (k + 3) callerA)
    (F : ∀ base : Heap, K.In base → base.Ns mainGlobals mg → FnG P w K mg base k fa fd [x] (spI ⟨K, C, ca⟩ (callF PF C k) i)) (bind : Binds K fd [x] [])
    (run : callF PF C k i [.ref 0] [.ro (ns.map D.int)] = some (.ok (.bl true) h')) :
    codeAny (model P w) callerA (.call (.ref fa) ⟨[.ref a], []⟩) (fun r s' => r = .ok (.ret (.bool true)) ∧ OldK s₁.heap s'.heap ∧ s'.os = s₁.os ∧ AllBare s'.gens) s₁ := by
  have rv := vals_ints hi
  have none_of : ∀ {b : Addr}, b ≠ a → soloH a vs ns b = none := fun h => solo_off h
  have grd : ∀ {b : Addr} {o : Obj}, s₁.heap.get? b = some o → b ≠ a → (hidT s₁.heap (soloH a vs ns)).get? b = some o := fun e n => hidT_get e (none_of n)
  have nsG : ∀ {b : Addr} {m : Str → Option Value}, s₁.heap.Ns b m → (hidT s₁.heap (soloH a vs ns)).Ns b m := by
    rintro b m ⟨o, es, ep, e, d, r⟩
    refine ⟨o, es, ep, grd e fun z => ?_, d, r⟩
    rw [z, ha] at e
    cases e
    have d' : Data.seq vs.toArray _ = Data.dict es ep := d
    cases d'
  have kinG : K.In (hidT s₁.heap (soloH a vs ns)) := fun b o e => grd (kin b o e) fun z => by rw [z, hK] at e; cases e
  have md : Mod K mg (hidT s₁.heap (soloH a vs ns)) := ⟨kinG, nsG hns, ⟨mb, nsG hb, hbb⟩, let ⟨mc, h1, h2⟩ := nolim; ⟨mc, nsG h1, h2⟩⟩
  have hok : HOk P w (soloH a vs ns) s₁.heap := fun b o z => by
    by_cases hba : b = a
    · subst hba
      have z' := solo_at.symm.trans z
      cases z'
      exact ⟨ha, by rw [List.length_map]; exact hl, vs, _, rv, ha⟩
    · rw [solo_off hba] at z
      cases z
  have e0 : Env0 P w K mg (hidT s₁.heap (soloH a vs ns)) callerA [] s₁ (soloH a vs ns) :=
    ⟨rfl, md, fun b o e => of_hidT e, Nat.le_of_eq (hidT_size _ _), trivial, fun b hb => absurd (show b ∈ ([] : List Addr) from hb) (by simp), hok, .of_eq hg⟩
  have sp : spI ⟨K, C, ca⟩ (callF PF C k) i [.ref a] (soloH a vs ns) (fun v _ => v = .bl true) (fun _ _ _ => False) := by
    refine ⟨[a], [.ro (ns.map D.int)], [.ref 0], solo_wd, ⟨.ref a, [], rfl, ⟨a, rfl, rfl⟩, rfl⟩, ?_⟩
    rw [run]
    exact fun ρ' H' b _ _ r => r
  refine codeAny_mono ((F _ kinG (nsG hns)).run callerA [] s₁ (soloH a vs ns) ⟨[.ref a], []⟩ [.ref a] [.ref a] _ _ room rfl e0 (bind s₁ [.ref a] kin rfl) (.cons rfl .nil) sp) fun r s' h => ?_
  cases r with
  | error e =>
    obtain ⟨_, _, _, _, _, _, _, _, _, _, _, _, q⟩ := h
    exact q.elim
  | ok fl =>
    cases fl with
    | next => exact False.elim h
    | brk => exact False.elim h
    | cont => exact False.elim h
    | ret u =>
      obtain ⟨v, H', os, bare, un, hok', r', q⟩ := h
      have q' : v = .bl true := q
      subst q'
      obtain rfl : u = Value.bool true := r'
      refine ⟨rfl, OldK.of_keep fun b o e => ?_, os, bare⟩
      by_cases hba : b = a
      · subst hba
        have z2 := un.frzs b _ _ solo_at
        obtain ⟨e2, _⟩ := hok' b _ z2
        rw [ha] at e
        cases e
        exact e2
      · exact un.keep b o e (solo_off hba) (by intro z; exact absurd (show b ∈ ([] : List Addr) from z) (by simp)) (by simp)
/-- THE LAW by the evaluator -/
theorem law_by {l : PySem.W.OpenLaw} {n k : Nat} {q : Program} {loose : List Str} {XP : (Str → Option Value) → Heap → Prop} {YP : World → Heap → Prop} {d : DefRec} {K : Params → PySem.W.Frag}
    (hn : l.most = some n) (hn2 : n ≤ sizeLine) (hdf : d.params.defaults = []) (room : Room (k + 3) callerA) (hY : ∀ (w : World) (h : Heap), YP w h → (K w.params).In h)
    (hl : ∀ (p : Params) (a : Addr) (o : Obj), (K p).lookup a = some o → o.cls ≠ .type "list")
    (hW : ∀ (w : World) (mg : Str → Option Value) (fa : Addr) (h : Heap), (K w.params).In h → h.Ns mainGlobals mg → mg d.name = some (.ref fa) → ∃ (C : List Cl) (ca : Nat → Addr) (T : Tb) (PF : List Fn) (i : Nat) (f : Fn) (fd : FuncData) (x : Str),
      (∀ base : Heap, (K w.params).In base → base.Ns mainGlobals mg → Whole l.prog w (K w.params) mg base C ca T PF) ∧ PF[i]? = some f ∧ FnS (K w.params) T f fa fd [x] ∧ Binds (K w.params) fd [x] [] ∧
        ∀ ns : List Int, ns.length ≤ n → ∃ h', callF PF C k i [.ref 0] [.ro (ns.map D.int)] = some (.ok (.bl true) h')) :
    PySem.W.WalkO q loose XP YP l.row.toRowW d [] (fun f vs => PySem.call f vs) := by
  refine Att.attach_call hn hdf fun w s₀ s₁ mg mb fa o pm cd doc a vs ns G Y ho hd hcd hmg hobj hints hlen hg => ?_
  have kin := hY w _ Y
  obtain ⟨C, ca, T, PF, i, f, fd, x, wh, hf, hs, hb, hc⟩ := hW w mg fa _ kin G.T.g hmg
  obtain ⟨h', run⟩ := hc ns hlen
  have hK : (K w.params).lookup a = none := by
    cases e : (K w.params).lookup a with
    | none => rfl
    | some ob =>
      have e2 := kin a ob e
      rw [hobj] at e2
      cases e2
      exact absurd rfl (hl w.params a _ e)
  exact call_true kin G.T.g G.T.b G.T.builtins G.T.nolimit hg hobj hints (Nat.le_trans hlen hn2) hK room (fun base kb nb => call_ok (wh base kb nb) k i f fa fd [x] hf hs) hb run
end Mini
end

section
/-! Mini: from the written part to the tables (own work). -/
namespace Mini
open PySem PySem.Spec PyProof.Rows L2

/-! ### how arguments bind -/
theorem zip_some {ps : List Str} : ∀ {us : List Value} {x : Str}, x ∈ ps → us.length = ps.length → ((ps.zip us).lookup x).isSome = true := by
  induction ps with
  | nil => intro us x h; cases h
  | cons p ps ih =>
    intro us x h hl
    cases us with
    | nil => cases hl
    | cons u us =>
      rw [List.zip_cons_cons]
      by_cases e : x = p
      · subst e; simp [List.lookup]
      · have hb : (x == p) = false := by simpa using e
        simp only [List.lookup, hb]
        exact ih ((List.mem_cons.mp h).resolve_left e) (by simpa using hl)
theorem zip_map {ps : List Str} : ∀ {us : List Value}, ps.Nodup → us.length = ps.length → ps.filterMap (fun n => ((ps.zip us).lookup n).map (n, ·)) = ps.zip us := by
  induction ps with
  | nil => intro us _ _; rfl
  | cons p ps ih =>
    intro us nd hl
    cases us with
    | nil => cases hl
    | cons u us =>
      rw [List.zip_cons_cons]
      have hp : p ∉ ps := (List.nodup_cons.mp nd).1
      rw [List.filterMap_cons]
      have e0 : ((p, u) :: ps.zip us).lookup p = some u := by simp [List.lookup]
      rw [e0]
      show (p, u) :: _ = _
      congr 1
      have key : ∀ l : List Str, (∀ n ∈ l, n ∈ ps) → l.filterMap (fun n => (((p, u) :: ps.zip us).lookup n).map (n, ·)) = l.filterMap (fun n => ((ps.zip us).lookup n).map (n, ·)) := by
        intro l
        induction l with
        | nil => intro _; rfl
        | cons n l ihl =>
          intro hm
          have hb : (n == p) = false := by
            have : n ≠ p := fun e => hp (e ▸ hm n List.mem_cons_self)
            simpa using this
          have e1 : ((p, u) :: ps.zip us).lookup n = (ps.zip us).lookup n := by simp only [List.lookup, hb]
          rw [List.filterMap_cons, List.filterMap_cons, e1, ihl fun m hm' => hm m (List.mem_cons_of_mem _ hm')]
      rw [key ps fun _ h => h, ih (List.nodup_cons.mp nd).2 (by simpa using hl)]
theorem zip_someT {ps : List Str} : ∀ {us : List Value} {x : Str}, x ∈ ps.take us.length → ((ps.zip us).lookup x).isSome = true := by
  induction ps with
  | nil => intro us x h; simp at h
  | cons p ps ih =>
    intro us x h
    cases us with
    | nil => simp at h
    | cons u us =>
      rw [List.zip_cons_cons]
      by_cases e : x = p
      · subst e; simp [List.lookup]
      · have hb : (x == p) = false := by simpa using e
        simp only [List.lookup, hb]
        exact ih ((List.mem_cons.mp (by simpa using h)).resolve_left e)
theorem zip_off {ps : List Str} : ∀ {us : List Value} {x : Str}, x ∉ ps.take us.length → (ps.zip us).lookup x = none := by
  induction ps with
  | nil => intro us x h; rfl
  | cons p ps ih =>
    intro us x h
    cases us with
    | nil => rfl
    | cons u us =>
      rw [List.zip_cons_cons]
      have h' : x ≠ p ∧ x ∉ ps.take us.length := by simpa using h
      have hb : (x == p) = false := by simpa using h'.1
      simp only [List.lookup, hb]
      exact ih h'.2
theorem no_miss {ps : List Str} {us : List Value} {m : Nat} (h : m ≤ us.length) : ((ps.take m).filter fun n => ((ps.zip us).lookup n).isNone) = [] := by
  rw [List.filter_eq_nil_iff]
  intro x hx
  have hx' : x ∈ ps.take us.length := (List.take_sublist_take_left h).subset hx
  have := zip_someT hx'
  cases e : (ps.zip us).lookup x with
  | none => rw [e] at this; cases this
  | some _ => simp
theorem binds_any {K : PySem.W.Frag} {fd : FuncData} {ps : List Str} {ds : List Value} {its : Array Value} (h1 : fd.params.posonlyargs = []) (h2 : fd.params.args.map (·.arg) = ps) (h3 : fd.params.vararg = none) (h4 : fd.params.kwonlyargs = []) (h5 : fd.params.kwarg = none) (nd : ps.Nodup)
    (hd : (fd.defaults = .none ∧ its = #[]) ∨ ∃ t oc od n sl, fd.defaults = .ref t ∧ K.lookup t = some ⟨oc, od, .seq its n, sl⟩) (hi : its.toList = ds ∨ ds = []) (hl : its.size ≤ 1) (hz : its.size ≤ ps.length) : Binds K fd ps ds := by
  intro s us kin hl2 M A E Q hq
  have items : ∀ {Q : Option (Array Value) → Shared → Prop}, (∀ o, o.getD #[] = its → Q o s) → wpAny M A (seqItems? fd.defaults) Q E s := by
    intro Q q
    rcases hd with ⟨e, rfl⟩ | ⟨t, oc, od, n, sl, e, lk⟩
    · rw [e]
      exact wpAny_of_eq (a := none) rfl (q none rfl)
    · rw [e]
      exact wpAny_seqItems (kin _ _ lk) rfl (q (some its) rfl)
  unfold bindArgs
  simp only [h1, h2, h3, h4, h5, List.map_nil, List.nil_append]
  refine wpAny_bind (wpAny_of_eq (a := (ps.zip us, [])) rfl ?_)
  refine wpAny_bind (items fun o ho => ?_)
  have ho' : (o.getD #[]).toList = its.toList := by rw [ho]
  rw [ho']
  have hlu : us.length ≤ ps.length := by rw [← hl2, List.length_append]; omega
  have g0 : ¬ ((decide (us.length > ps.length) && (none : Option Arg).isNone) = true) := by simp; omega
  simp only [if_neg g0]
  have dr : its.toList.drop (its.toList.length - ps.length) = its.toList := by
    have : its.toList.length - ps.length = 0 := by rw [Array.length_toList]; omega
    rw [this]; rfl
  rw [dr]
  have hsz : its.toList.length = its.size := Array.length_toList
  have hm : ps.length - its.toList.length ≤ us.length := by
    have : ds.length ≤ its.size := by
      rcases hi with e | e
      · rw [← e, hsz]; exact Nat.le_refl _
      · rw [e]; exact Nat.zero_le _
    rw [List.length_append] at hl2
    omega
  rw [no_miss hm]
  simp only [List.isEmpty_nil, Bool.not_true, if_neg Bool.false_ne_true]
  have loop : (forIn ((ps.drop (ps.length - its.toList.length)).zip its.toList) (ps.zip us) fun x (__s : List (Str × Value)) => (if (__s.lookup x.1).isNone = true then pure (ForInStep.yield (__s ++ [(x.1, x.2)])) else pure (ForInStep.yield __s) : Sem (ForInStep (List (Str × Value))))) = pure (ps.zip (us ++ ds)) := by
    match hits : its.toList, hi with
    | [], hi =>
      have : ds = [] := by rcases hi with e | e <;> simpa using e.symm
      rw [this, List.append_nil, List.zip_nil_right]
      rfl
    | [d], hi =>
      have h1l : 1 ≤ ps.length := by
        have : its.size = 1 := by rw [← hsz, hits]; rfl
        omega
      obtain ⟨qs, z, rfl⟩ : ∃ qs z, ps = qs ++ [z] := by
        rcases List.eq_nil_or_concat ps with e | ⟨qs, z, e⟩
        · rw [e] at h1l; simp at h1l
        · exact ⟨qs, z, by rw [e, List.concat_eq_append]⟩
      have ed : (qs ++ [z]).drop ((qs ++ [z]).length - 1) = [z] := by simp
      show (forIn (((qs ++ [z]).drop ((qs ++ [z]).length - 1)).zip [d]) _ _) = _
      rw [ed]
      have nz : z ∉ qs := by
        have := List.nodup_append.mp nd
        exact fun h => this.2.2 z h z (by simp) rfl
      rcases hi with e | e
      · subst e
        have hul : us.length = qs.length := by simpa using hl2
        have hn : ((qs ++ [z]).zip us).lookup z = none := zip_off (by rw [hul, List.take_left]; exact nz)
        simp only [List.zip_cons_cons, List.zip_nil_right, List.forIn_cons, hn, Option.isNone_none, if_true]
        have e3 : (qs ++ [z]).zip us ++ [(z, d)] = (qs ++ [z]).zip (us ++ [d]) := by
          rw [List.zip_append hul.symm]
          have : (qs ++ [z]).zip us = qs.zip us := by
            have e4 : us = us ++ [] := by simp
            rw [e4, List.zip_append hul.symm]
            simp
          rw [this]; rfl
        rw [← e3]
        rfl
      · subst e
        have hul : us.length = (qs ++ [z]).length := by simpa using hl2
        have hn : (((qs ++ [z]).zip us).lookup z).isNone = false := by
          have := zip_some (ps := qs ++ [z]) (us := us) (x := z) (by simp) hul
          cases e5 : ((qs ++ [z]).zip us).lookup z with
          | none => rw [e5] at this; cases this
          | some _ => rfl
        simp only [List.zip_cons_cons, List.zip_nil_right, List.forIn_cons, hn, if_neg Bool.false_ne_true, List.append_nil]
        rfl
    | _ :: _ :: _, _ =>
      have : its.size = its.toList.length := hsz.symm
      rw [hits] at this
      simp at this
      omega
  rw [loop]
  refine wpAny_bind (wpAny_pure ?_)
  refine wpAny_bind (wpAny_of_eq (a := (ps.zip (us ++ ds), [])) rfl ?_)
  simp only [List.isEmpty_nil, Bool.not_true, if_neg Bool.false_ne_true]
  have fin := zip_map nd hl2
  simp only [List.append_nil]
  rw [fin]
  exact wpAny_pure hq
end Mini
end

section
/-! Mini: the tables are checked by computing (own work). -/
namespace Mini
open PySem PySem.Spec PyProof.Rows L2

/-- a def of the text: its global name, where it lies, its names, the default of its last parameter -/
structure FRow where
  x : Str
  N : List Str
  dv : Option Str
/-- what a global name holds -/
def adr (K : PySem.W.Frag) (x : Str) : Addr := match PySem.W.nsIn K mainGlobals x with
  | some (some (.ref a)) => a
  | _ => 0
def isRef (o : Option (Option Value)) (a : Addr) : Bool := match o with
  | some (some (.ref b)) => b == a
  | _ => false
theorem isRef_eq {o : Option (Option Value)} {a : Addr} (h : isRef o a = true) : o = some (some (.ref a)) := by
  unfold isRef at h
  split at h
  · rw [beq_iff_eq.mp h]
  · cases h
def isNo (o : Option (Option Value)) : Bool := match o with
  | some none => true
  | _ => false
theorem isNo_eq {o : Option (Option Value)} (h : isNo o = true) : o = some none := by
  unfold isNo at h
  split at h
  · rfl
  · cases h
def scB (N ps : List Str) (sc : Scope) : Bool :=
  decide (sc.kind = .function) && !sc.isCoroutine && !sc.isGenerator && decide N.Nodup && decide (N.take ps.length = ps) && (ps.all fun x => decide (sc.names.lookup x = some .local) || decide (sc.names.lookup x = some .cell)) && sc.names.all fun y => decide (y.2 ≠ .free)
theorem scB_ok {N ps : List Str} {sc : Scope} (h : scB N ps sc = true) : FnScope N ps sc := by
  unfold scB at h
  simp only [Bool.and_eq_true, decide_eq_true_eq, Bool.not_eq_true', List.all_eq_true, Bool.or_eq_true] at h
  obtain ⟨⟨⟨⟨⟨⟨h1, h2⟩, h3⟩, h4⟩, h5⟩, h6⟩, h7⟩ := h
  exact ⟨h1, h2, h3, h4, h5, h6, h7⟩
def psOf (p : Arguments) : List Str := p.args.map (·.arg)
def arB (p : Arguments) : Bool := p.posonlyargs.isEmpty && p.vararg.isNone && p.kwonlyargs.isEmpty && p.kwarg.isNone && decide (psOf p).Nodup
/-- the def's function object -/
def fnB (K : PySem.W.Frag) (T : Tb) (f : Fn) (r : FRow) : Bool := match K.lookup (adr K r.x) with
  | some ⟨_, _, .func ⟨_, qual, params, .stmts body, scope, gl, cl, _, _, _, _, _, cdv, _, bl⟩, _⟩ =>
    decide (gl = mainGlobals) && cl.isEmpty && decide (bl = builtinsNs) && PySem.W.codeIn K cdv qual && scB r.N (psOf params) scope && ckSs f.body ⟨r.N, scope, scope, T.fns, T.cls, T.con, T.kin⟩ body && decide (f.np = (psOf params).length) && decide (f.nl = r.N.length)
  | _ => false
/-- how it is called -/
def clB (K : PySem.W.Frag) (r : FRow) : Bool := isRef (PySem.W.nsIn K mainGlobals r.x) (adr K r.x) && PySem.W.keepIn K (.ref (adr K r.x)) && match K.lookup (adr K r.x) with
  | some ⟨_, _, .func fd, _⟩ => arB fd.params && (match r.dv, fd.defaults with
    | none, .none => true
    | some s, .ref t => decide (1 ≤ (psOf fd.params).length) && match K.lookup t with
      | some ⟨_, _, .seq its _, _⟩ => match its.toList with
        | [.str s' _] => s' == s
        | _ => false
      | _ => false
    | _, _ => false)
  | _ => false
def fdAt (K : PySem.W.Frag) (a : Addr) : Option FuncData := match K.lookup a with
  | some ⟨_, _, .func fd, _⟩ => some fd
  | _ => none
theorem fnB_ok {K : PySem.W.Frag} {T : Tb} {f : Fn} {r : FRow} (h : fnB K T f r = true) : ∃ fd, fdAt K (adr K r.x) = some fd ∧ FnS K T f (adr K r.x) fd (psOf fd.params) := by
  unfold fnB at h
  split at h
  · rename_i oc od name qual params body scope gl cl dV kV doc pm an cdv ct bl osl e
    simp only [Bool.and_eq_true, decide_eq_true_eq, List.isEmpty_iff] at h
    obtain ⟨⟨⟨⟨⟨⟨⟨h1, h2⟩, h3⟩, h4⟩, h5⟩, h6⟩, h7⟩, h8⟩ := h
    subst h1; subst h2; subst h3
    refine ⟨_, by unfold fdAt; rw [e], ⟨⟨r.N, scope, scope, T.fns, T.cls, T.con, T.kin⟩, oc, od, name, qual, params, body, scope, dV, kV, doc, pm, cdv, ct, an, osl, rfl, e, h4, scB_ok h5, rfl, rfl, rfl, rfl, rfl, rfl, h6, h7, h8⟩⟩
  · cases h
theorem clB_ok {K : PySem.W.Frag} {r : FRow} {fd : FuncData} (hf : fdAt K (adr K r.x) = some fd) (h : clB K r = true) : PySem.W.nsIn K mainGlobals r.x = some (some (.ref (adr K r.x))) ∧ PySem.W.keepIn K (.ref (adr K r.x)) = true ∧ Binds K fd (psOf fd.params) [] ∧
    ∀ s, r.dv = some s → ∃ u, Binds K fd (psOf fd.params) [u] ∧ RelV (.str s) u := by
  unfold clB at h
  simp only [Bool.and_eq_true] at h
  obtain ⟨⟨h1, h2⟩, h3⟩ := h
  refine ⟨isRef_eq h1, h2, ?_⟩
  unfold fdAt at hf
  split at hf
  · rename_i oc od fd' sl e
    cases hf
    rw [e] at h3
    simp only [Bool.and_eq_true] at h3
    obtain ⟨h3, h4⟩ := h3
    unfold arB at h3
    simp only [Bool.and_eq_true, decide_eq_true_eq, List.isEmpty_iff, Option.isNone_iff_eq_none] at h3
    obtain ⟨⟨⟨⟨a1, a2⟩, a3⟩, a4⟩, a5⟩ := h3
    split at h4
    · rename_i e1 e2
      refine ⟨binds_any (its := #[]) a1 rfl a2 a3 a4 a5 (.inl ⟨e2, rfl⟩) (.inr rfl) (by simp) (by simp), fun s es => ?_⟩
      rw [e1] at es; cases es
    · rename_i s t e1 e2
      simp only [Bool.and_eq_true, decide_eq_true_eq] at h4
      obtain ⟨h5, h4⟩ := h4
      split at h4
      · rename_i oc' od' its n sl' lk
        split at h4
        · rename_i s' tk ei
          have es := beq_iff_eq.mp h4
          subst es
          have hz : its.size = 1 := by rw [← Array.length_toList, ei]; rfl
          have hd : fd.defaults = .none ∧ its = #[] ∨ ∃ t oc od n sl, fd.defaults = .ref t ∧ K.lookup t = some ⟨oc, od, .seq its n, sl⟩ := .inr ⟨t, _, _, _, _, e2, lk⟩
          refine ⟨binds_any a1 rfl a2 a3 a4 a5 hd (.inr rfl) (by omega) (by omega), fun s2 es => ?_⟩
          rw [e1] at es
          cases es
          exact ⟨.str s' tk, binds_any a1 rfl a2 a3 a4 a5 hd (.inl ei) (by omega) (by omega), ⟨tk, rfl⟩⟩
        · cases h4
      · cases h4
    · cases h4
  · cases hf
/-- a module's constant -/
def conB (d : D) (v : Value) : Bool := match d, v with
  | .non, .none => true
  | .bl b, .bool c => b == c
  | .int i, .int j _ => i == j
  | .str s, .str t _ => s == t
  | _, _ => false
theorem conB_ok {d : D} {v : Value} (h : conB d v = true) : ∃ z : V, RelV z v ∧ ∀ (K : PySem.W.Frag) (ρ : List Addr) (H : Hp), RV K ρ H z d := by
  unfold conB at h
  split at h
  · exact ⟨.non, rfl, fun _ _ _ => rfl⟩
  · rw [beq_iff_eq.mp h]; exact ⟨.bl _, rfl, fun _ _ _ => rfl⟩
  · rename_i i j t; rw [beq_iff_eq.mp h]; exact ⟨.int j, ⟨t, rfl⟩, fun _ _ _ => rfl⟩
  · rename_i s t k; rw [beq_iff_eq.mp h]; exact ⟨.str t, ⟨k, rfl⟩, fun _ _ _ => rfl⟩
  · cases h
def coB (K : PySem.W.Frag) (p : Str × D) : Bool := match PySem.W.nsIn K mainGlobals p.1 with
  | some (some v) => conB p.2 v
  | _ => false
/-- the table of the calls -/
def fnsOf : Nat → List FRow → List (Str × Nat × List D)
  | _, [] => []
  | i, r :: rs => (r.x, i, []) :: (match r.dv with
    | some s => [(r.x, i, [D.str s])]
    | none => []) ++ fnsOf (i + 1) rs
def allB (K : PySem.W.Frag) (T : Tb) : List Fn → List FRow → Bool
  | [], [] => true
  | f :: fs, r :: rs => fnB K T f r && clB K r && allB K T fs rs
  | _, _ => false
theorem allB_at {K : PySem.W.Frag} {T : Tb} : ∀ {fs : List Fn} {rs : List FRow}, allB K T fs rs = true → ∀ (i : Nat) r, rs[i]? = some r → ∃ f, fs[i]? = some f ∧ fnB K T f r = true ∧ clB K r = true
  | [], [], _, i, r, e => by simp at e
  | [], _ :: _, h, _, _, _ => by cases h
  | _ :: _, [], h, _, _, _ => by cases h
  | f :: fs, r0 :: rs, h, i, r, e => by
    have h' : (fnB K T f r0 && clB K r0 && allB K T fs rs) = true := h
    simp only [Bool.and_eq_true] at h'
    cases i with
    | zero =>
      simp at e
      subst e
      exact ⟨f, rfl, h'.1.1, h'.1.2⟩
    | succ i =>
      obtain ⟨g, a, b⟩ := allB_at h'.2 i r (by simpa using e)
      exact ⟨g, by simpa using a, b⟩
theorem fnsOf_at : ∀ (rs : List FRow) (j : Nat) x i ds, (x, i, ds) ∈ fnsOf j rs → ∃ r, j ≤ i ∧ rs[i - j]? = some r ∧ r.x = x ∧ (ds = [] ∨ ∃ s, r.dv = some s ∧ ds = [.str s])
  | [], j, x, i, ds, h => by cases h
  | r :: rs, j, x, i, ds, h => by
    have h' : (x, i, ds) ∈ (r.x, j, []) :: (match r.dv with | some s => [(r.x, j, [D.str s])] | none => []) ++ fnsOf (j + 1) rs := h
    rcases List.mem_append.mp h' with q | q
    · rcases List.mem_cons.mp q with q | q
      · cases q
        exact ⟨r, Nat.le_refl _, by simp, rfl, .inl rfl⟩
      · cases e : r.dv with
        | none => rw [e] at q; cases q
        | some s =>
          rw [e] at q
          have q' := List.mem_singleton.mp q
          cases q'
          exact ⟨r, Nat.le_refl _, by simp, rfl, .inr ⟨s, e, rfl⟩⟩
    · obtain ⟨r', h1, h2, h3, h4⟩ := fnsOf_at rs (j + 1) x i ds q
      refine ⟨r', by omega, ?_, h3, h4⟩
      have : i - j = (i - (j + 1)) + 1 := by omega
      rw [this]
      simpa using h2
theorem whole_of {P : Program} {w : World} {K : PySem.W.Frag} {mg : Str → Option Value} {base : Heap} {C : List Cl} {ca : Nat → Addr} {T : Tb} {PF : List Fn} {rs : List FRow} (kin : K.In base) (ns : base.Ns mainGlobals mg)
    (hT : T.fns = fnsOf 0 rs) (h1 : allB K T PF rs = true) (h2 : (blts.all fun x => isNo (PySem.W.nsIn K mainGlobals x)) = true) (h3 : T.con.all (coB K) = true) (hk : ∀ x cs, (x, cs) ∈ T.kin → ∃ a fd ps, mg x = some (.ref a) ∧ PySem.W.keepIn K (.ref a) = true ∧ KinF P w K mg base C ca a fd ps cs ∧ Binds K fd ps []) (hc : ClF C ca T.cls P w K mg base) : Whole P w K mg base C ca T PF := by
  refine ⟨fun x i ds m => ?_, fun x m => ?_, fun x d m => ?_, hk, hc⟩
  · rw [hT] at m
    obtain ⟨r, _, e1, e2, e3⟩ := fnsOf_at rs 0 x i ds m
    rw [Nat.sub_zero] at e1
    obtain ⟨f, e4, e5, e6⟩ := allB_at h1 i r e1
    obtain ⟨fd, e7, e8⟩ := fnB_ok e5
    obtain ⟨a1, a2, a3, a4⟩ := clB_ok e7 e6
    subst e2
    rcases e3 with rfl | ⟨s, es, rfl⟩
    · exact ⟨f, (adr K r.x), fd, _, [], [], e4, e8, PySem.W.mg_of kin ns a1, a2, a3, .nil, fun _ _ => rfl⟩
    · obtain ⟨u, b1, b2⟩ := a4 s es
      exact ⟨f, (adr K r.x), fd, _, [u], [.str s], e4, e8, PySem.W.mg_of kin ns a1, a2, b1, .cons b2 .nil, fun _ _ => ⟨_, _, rfl, rfl, rfl⟩⟩
  · have := List.all_eq_true.mp h2 x m
    exact PySem.W.mg_none_of kin ns (isNo_eq this)
  · have := List.all_eq_true.mp h3 (x, d) m
    unfold coB at this
    split at this
    · rename_i v e
      obtain ⟨z, r1, r2⟩ := conB_ok this
      exact ⟨z, v, PySem.W.mg_of kin ns e, r1, fun ρ H => r2 K ρ H⟩
    · cases this
end Mini
end

section
/-! Mini: a def that tells which classes a caught exception is of (own work). -/
namespace Mini
open PySem PySem.Spec PyProof.Rows L2

def isAll (Γ : Gm) (en : Str) : List Nat → List PySem.Expr → Bool
  | [], [] => true
  | c :: cs, e :: es => ckIs Γ en c e && isAll Γ en cs es
  | _, _ => false
def kiG (en pl : Str) (sc : Scope) (tb : List (Str × Nat × Nat)) : Gm := ⟨[en, pl], sc, sc, [], tb, [], []⟩
def kbB (K : PySem.W.Frag) (tb : List (Str × Nat × Nat)) (cs : List Nat) (en : Str) (sc : Scope) : List PySem.Stmt → Bool
  | [.Assign [.Name pl _] (.List es1 _) _, .Return (some (.BinOp (.Name pl' _) .Add (.List es2 _) _)) _] => pl == pl' && scB [en, pl] [en] sc && decide (sc.names.lookup pl = some .local) && decide (sc.names.lookup en = some .local) && !dbg en && !(en == ("__classdict__" : Str)) && !dbg pl && !(pl == ("__classdict__" : Str)) &&
      isAll (kiG en pl sc tb) en (cs.take es1.length) es1 && isAll (kiG en pl sc tb) en (cs.drop es1.length) es2 && decide (cs.length ≤ 1000)
  | _ => false
def kiB (K : PySem.W.Frag) (tb : List (Str × Nat × Nat)) (p : Str × List Nat) : Bool := isRef (PySem.W.nsIn K mainGlobals p.1) (adr K p.1) && PySem.W.keepIn K (.ref (adr K p.1)) && isNo (PySem.W.nsIn K mainGlobals "isinstance") && (match K.lookup (adr K p.1) with
  | some ⟨_, _, .func ⟨_, qual, params, .stmts body, scope, gl, cl, .none, _, _, _, _, cdv, _, bl⟩, _⟩ => decide (gl = mainGlobals) && cl.isEmpty && decide (bl = builtinsNs) && PySem.W.codeIn K cdv qual && arB params && (match psOf params with
    | [en] => kbB K tb p.2 en scope body
    | _ => false)
  | _ => false)
section
variable {P : Program} {w : World} {K : PySem.W.Frag} {mg : Str → Option Value} {base : Heap} {C : List Cl} {ca : Nat → Addr} {tb : List (Str × Nat × Nat)}
/-- isinstance(e, y), the exception at a pinned -/
theorem is_any {X : Cx} {Γ : Gm} {a dd : Addr} {oe : Obj} {i c t : Nat} {en : Str} {k0 : Cl} (hK : X.K = K) (hmg : X.mg = mg) (hp : (a, oe) ∈ X.pn) (hsc : X.env.scope = Γ.sc) (cf : ClF C ca Γ.cls P w K mg base) (mi : mg "isinstance" = none) (hc : C[c]? = some k0) (hz : Zc (.ref (ca c)) (some dd) oe) (hf : ∃ vs, oe.data = .fields vs)
    (hi : X.N[i]? = some en) (hl : Γ.sc.names.lookup en = some .local) (h1 : dbg en = false) (h2 : (en == ("__classdict__" : Str)) = false) {e : PySem.Expr} (h : ckIs Γ en t e = true) :
    PE X e (fun σ H Q => σ[i]? = some (some (.ref a)) ∧ (∃ fl, H dd = some (.xd fl)) ∧ Q (.bl (isAnc C c t)) H) ∧ plainX e = true := by
  subst hK; subst hmg
  cases e <;> first | (cases h; done) | skip
  rename_i f as ks p
  cases f <;> first | (cases h; done) | skip
  rename_i x px
  match as, ks, h with
  | [ob, .Name y py], [], h =>
    have h' : (x == ("isinstance" : Str) && isEn en ob && glb Γ.sc x && glb Γ.sc y && !dbg y && Γ.cls.any fun p => p.1 == y && p.2.1 == t) = true := h
    simp only [Bool.and_eq_true, Bool.not_eq_true', beq_iff_eq] at h'
    obtain ⟨⟨⟨⟨⟨rfl, e2⟩, e3⟩, e4⟩, e5⟩, e6⟩ := h'
    rw [List.any_eq_true] at e6
    obtain ⟨⟨y', t', m⟩, mm, q⟩ := e6
    simp only [Bool.and_eq_true, beq_iff_eq] at q
    obtain ⟨rfl, rfl⟩ := q
    obtain ⟨v, hn, hv⟩ := cf.cls _ _ _ mm
    have gl : ∀ {z : Str}, glb Γ.sc z = true → Gl X z := fun {z} hg => by
      show X.env.scope.names.lookup z = _
      rw [hsc]; exact of_decide_eq_true hg
    obtain ⟨z, hz1, hz2⟩ : ∃ z : V, (∀ u, RelV z u → u = v) ∧ PE X (.Name y' py) (tC z) := by
      rcases hn with ⟨_, m1, b, rfl⟩ | ⟨_, m1, m2, m3, T, rfl⟩
      · exact ⟨.ref b, fun u r => r, pe_glob (gl e4) m1 rfl e5⟩
      · exact ⟨.ty T, fun u r => r, pe_bltn (gl e4) m1 m2 rfl m3 e5⟩
    have pob : plainX ob = true := by cases ob <;> first | rfl | cases e2
    have he : PE X ob (tVar i) := by
      cases ob <;> first | (cases e2; done) | skip
      rename_i y2 p2
      have : y2 = en := beq_iff_eq.mp e2
      subst this
      exact pe_var hi (.inl (by show X.env.scope.names.lookup y2 = _; rw [hsc]; exact hl)) h1 h2
    refine ⟨PE.imp (pe_callB (call_isX hp (cf.ex c k0 hc).1 hz hf) (gl e3) mi (by decide +kernel) (pa_cons he (pa_cons hz2 pa_nil rfl) (plain_star pob _ _)) (by decide) (by decide) (plain_star pob _ _) rfl) ?_, rfl⟩
    rintro σ H Q ⟨sl, ⟨fl, ef⟩, q⟩
    exact ⟨_, sl, z, v, _, fl, rfl, hz1, (hv c k0 hc).1, ef, q⟩
theorem is_alls {X : Cx} {Γ : Gm} {a dd : Addr} {oe : Obj} {i c : Nat} {en : Str} {k0 : Cl} (hK : X.K = K) (hmg : X.mg = mg) (hp : (a, oe) ∈ X.pn) (hsc : X.env.scope = Γ.sc) (cf : ClF C ca Γ.cls P w K mg base) (mi : mg "isinstance" = none) (hc : C[c]? = some k0) (hz : Zc (.ref (ca c)) (some dd) oe) (hf : ∃ vs, oe.data = .fields vs)
    (hi : X.N[i]? = some en) (hl : Γ.sc.names.lookup en = some .local) (h1 : dbg en = false) (h2 : (en == ("__classdict__" : Str)) = false) : ∀ {cs : List Nat} {es : List PySem.Expr}, isAll Γ en cs es = true →
    PA X es (fun σ H Q => σ[i]? = some (some (.ref a)) ∧ (∃ fl, H dd = some (.xd fl)) ∧ Q (cs.map fun t => V.bl (isAnc C c t)) H)
  | [], [], _ => PA.imp pa_nil fun σ H Q ⟨_, _, q⟩ => q
  | [], _ :: _, h => by cases h
  | _ :: _, [], h => by cases h
  | t :: cs, e :: es, h => by
    have h' : (ckIs Γ en t e && isAll Γ en cs es) = true := h
    simp only [Bool.and_eq_true] at h'
    obtain ⟨p1, p2⟩ := is_any hK hmg hp hsc cf mi hc hz hf hi hl h1 h2 h'.1
    refine PA.imp (pa_cons p1 (is_alls hK hmg hp hsc cf mi hc hz hf hi hl h1 h2 h'.2) (plain_star p2 _ _)) ?_
    rintro σ H Q ⟨sl, fl, q⟩
    exact ⟨sl, fl, sl, fl, q⟩
theorem kin_of (kin : K.In base) (ns : base.Ns mainGlobals mg) (cf : ClF C ca tb P w K mg base) {x_ : Str} {cs : List Nat} (h : kiB K tb (x_, cs) = true) :
    ∃ a fd ps, mg x_ = some (.ref a) ∧ PySem.W.keepIn K (.ref a) = true ∧ KinF P w K mg base C ca a fd ps cs ∧ Binds K fd ps [] := by
  unfold kiB at h
  simp only [Bool.and_eq_true] at h
  obtain ⟨⟨⟨h1, h2⟩, h3⟩, h4⟩ := h
  have mi := PySem.W.mg_none_of kin ns (isNo_eq h3)
  split at h4
  · rename_i oc od name qual params body scope gl cl kV doc pm an cdv ct bl osl lk
    simp only [Bool.and_eq_true, decide_eq_true_eq, List.isEmpty_iff] at h4
    obtain ⟨⟨⟨⟨⟨g1, g2⟩, g3⟩, g4⟩, g5⟩, g6⟩ := h4
    subst g1; subst g2; subst g3
    unfold arB at g5
    simp only [Bool.and_eq_true, decide_eq_true_eq, List.isEmpty_iff, Option.isNone_iff_eq_none] at g5
    obtain ⟨⟨⟨⟨a1, a2⟩, a3⟩, a4⟩, a5⟩ := g5
    have bind : Binds K (PySem.W.fnOf name qual params body scope .none kV doc pm an cdv ct) (psOf params) [] := binds_any (its := #[]) a1 rfl a2 a3 a4 a5 (.inl ⟨rfl, rfl⟩) (.inr rfl) (by simp) (by simp)
    split at g6
    · rename_i en eps
      unfold kbB at g6
      split at g6
      · rename_i pl p1 es1 p2 p3 pl' p4 es2 p5 p6 p7
        simp only [Bool.and_eq_true, decide_eq_true_eq, beq_iff_eq, Bool.not_eq_true'] at g6
        obtain ⟨⟨⟨⟨⟨⟨⟨⟨⟨⟨b1, b2⟩, b3⟩, b4⟩, b5⟩, b6⟩, b7⟩, b8⟩, b9⟩, b10⟩, b11⟩ := g6
        subst b1
        have S := scB_ok b2
        rw [eps] at bind
        refine ⟨_, _, [en], PySem.W.mg_of kin ns (isRef_eq h1), h2, ⟨rfl, ?_⟩, bind⟩
        intro A outer s H args a dd oe c k0 fl Q hc room e0 hb pin hz hf ef q
        have kinS : K.In s.heap := e0.mod.kin.keeps fun b o e => (e0.bs b o e).1
        have nolim : s.heap.NoLimit := e0.mod.nolimit.keeps fun b o e => (e0.bs b o e).1
        have kinds : ∀ y ∈ [en].zip [Value.ref a], scope.names.lookup y.1 = some .local ∨ (scope.names.lookup y.1 = some .cell ∧ ((cellsFrom (s.heap.objs.size + 1) scope.names []).lookup y.1).isSome = true) := by
          intro y hy
          have : y = (en, Value.ref a) := by simpa using hy
          subst this
          exact .inl b4
        refine codeAny_call_function room.depth (kinS _ _ lk) rfl S.co S.gen rfl (PySem.W.codeRec_of kinS g4) (hb _ _ _ _ ?_)
        refine wpAny_newFunctionEnv_cells S.kind kinds fun env he s1 x => ?_
        subst he
        refine ⟨nolim.keeps x.toInCall.keep, codeAny_func ?_⟩
        have I : Inv (L2H.cxH (L2.CX P w) P w K mg base [en, pl] qual scope (adr K x_) cdv A outer s H (fun _ _ _ => False) (a, oe)) [] (L2.start [en, pl] [V.ref a]) H s1 := L2H.inv_startH S pin e0 rfl (.cons rfl .nil) x
        have m0 : (a, oe) ∈ [(a, oe)] := List.mem_cons_self
        have lp : pl ≠ en := fun z => by
          have := S.nd
          rw [z] at this
          exact (List.nodup_cons.mp this).1 List.mem_cons_self
        have A1 := is_alls (X := L2H.cxH (L2.CX P w) P w K mg base [en, pl] qual scope (adr K x_) cdv A outer s H (fun _ _ _ => False) (a, oe)) (Γ := kiG en pl scope tb) (i := 0) rfl rfl m0 rfl cf mi hc hz hf rfl b4 b5 b6 b9
        have A2 := is_alls (X := L2H.cxH (L2.CX P w) P w K mg base [en, pl] qual scope (adr K x_) cdv A outer s H (fun _ _ _ => False) (a, oe)) (Γ := kiG en pl scope tb) (i := 0) rfl rfl m0 rfl cf mi hc hz hf rfl b4 b5 b6 b10
        have line : (1000 : Nat) ≤ sizeLine := by rw [sizeLine_eq]; decide
        have body := pss_cons (ps_set (pos' := p1) (pos := p3) (i := 1) S.nd rfl (.inl b3) (pe_lst (pos := p2) A1)) (pss_cons (ps_ret (pos := p7) (pe_op (pos := p6) op_cat (pe_var (i := 1) (pos := p4) rfl (.inl b3) b7 b8) (pe_lst (pos := p5) A2))) pss_nil)
        refine wpAny_mono (body.run [] s1 _ H { nx := fun _ H' => Q .non H', rt := Q } I ?_) (fun fl s' ends => ?_) fun e s' ends => ends
        · refine ⟨rfl, ⟨fl, ef⟩, by rw [List.length_map, List.length_take]; omega, fun q1 n1 => ⟨_, rfl, rfl, ⟨fl, by rw [upd_ne (ne_of_none ef n1)]; exact ef⟩, by rw [List.length_map, List.length_drop]; omega, fun q2 n2 => ?_⟩⟩
          have ne : q1 ≠ q2 := fun z => by rw [← z, upd_same] at n2; cases n2
          refine ⟨q1, q2, _, _, rfl, rfl, by rw [upd_ne ne, upd_same], upd_same, by rw [List.length_map, List.length_map, List.length_take, List.length_drop]; omega, fun q3 n3 => ?_⟩
          have := q q1 q2 q3 _ _ n1 n2 n3
          rw [← List.map_append, List.take_append_drop]
          exact this
        · have done : ∀ {τ : L2.St} {G : Hp} {v : V} {u : Value}, Inv (L2H.cxH (L2.CX P w) P w K mg base [en, pl] qual scope (adr K x_) cdv A outer s H (fun _ _ _ => False) (a, oe)) [] τ G s' → RelV v u → Q v G → CE outer P w H s Q u s' :=
            fun {τ G v u} J rv q => ⟨v, G, J.os, J.bare, J.base, J.hok, rv, q⟩
          cases fl with
          | next =>
            obtain ⟨τ, G, J, q⟩ := ends
            exact done (v := V.non) (u := Value.none) J rfl q
          | ret u =>
            obtain ⟨v, τ, G, J, rv, q⟩ := ends
            exact done J rv q
          | brk =>
            obtain ⟨_, _, _, q⟩ := ends
            exact q.elim
          | cont =>
            obtain ⟨_, _, _, q⟩ := ends
            exact q.elim
      · cases g6
    · cases g6
  · cases h4
end
end Mini
end

section
/-! Mini: the classes are checked by computing (own work). -/
namespace Mini
open PySem PySem.Spec PyProof.Rows L2
section
variable {P : Program} {w : World} {K : PySem.W.Frag} {mg : Str → Option Value} {base : Heap}
def excB (K : PySem.W.Frag) (D : Addr) : Bool :=
  decide (PySem.W.findIn K (.ref D) "__getattribute__" = some (some (.builtin "BaseException.__getattribute__"))) && isNo (PySem.W.findIn K (.ref D) "__getattr__") && decide (PySem.W.subIn K (.ref D) (.type "BaseException") = some true) && PySem.W.hasDictIn K D &&
  decide (PySem.W.findIn K (.ref D) "__class__" = some (some (.builtin "object.__class__"))) && decide (PySem.W.specialIn K (.builtin "object.__class__") "__get__" = some (some (.builtin "getset_descriptor.__get__"))) && decide (PySem.W.takesIn K (.builtin "object.__class__") = some true) &&
  decide (PySem.W.mroIn K D (.type "object") = some true)
theorem excB_ok {D : Addr} (h : excB K D = true) : ExcC K D := by
  unfold excB at h
  simp only [Bool.and_eq_true, decide_eq_true_eq] at h
  obtain ⟨⟨⟨⟨⟨⟨⟨h1, h2⟩, h3⟩, h4⟩, h5⟩, h6⟩, h7⟩, h8⟩ := h
  exact ⟨h1, isNo_eq h2, h3, h4, h5, h6, h7, h8⟩
def ocB (C : Addr) (o : Option Obj) : Bool := match o with
  | some ⟨.type t, _, .cls ⟨_, _, .ref c :: bm, _, _, true, _, _, _, _, false⟩, sl⟩ => t == "type" && c == C && PySem.HandSPX.refsVE bm && (match sl.toList with
    | [_, _, _, _, some (.builtin b), _] => b == "ValueError.__new__"
    | _ => false)
  | _ => false
def oexB (K : PySem.W.Frag) (C : Addr) : Bool := ocB C (K.lookup C) && decide (PySem.W.findIn K (.ref C) "__setattr__" = some (some (.builtin "object.__setattr__"))) && decide (PySem.W.subIn K (.ref C) (.type "BaseException") = some true) && decide (PySem.W.typeIn K (.ref C) = some (.type "type")) && PySem.W.keepIn K (.ref C)
theorem oexB_ok {C : Addr} (h : oexB K C = true) : OexC K C := by
  unfold oexB at h
  simp only [Bool.and_eq_true, decide_eq_true_eq] at h
  obtain ⟨⟨⟨⟨h1, h2⟩, h3⟩, h4⟩, h5⟩ := h
  refine ⟨?_, h2, h3, h4, h5⟩
  unfold ocB at h1
  split at h1
  · rename_i t dd nm bs c bm N q sn sub ab col sl e
    simp only [Bool.and_eq_true, beq_iff_eq] at h1
    obtain ⟨⟨⟨e1, e2⟩, e3⟩, e4⟩ := h1
    subst e1; subst e2
    split at e4
    · rename_i k0 k1 k2 k3 b k5 es
      have e5 := beq_iff_eq.mp e4
      subst e5
      have es' : sl = #[k0, k1, k2, k3, some (.builtin "ValueError.__new__"), k5] := Array.toList_inj.mp es
      subst es'
      exact ⟨nm, q, N, bs, bm, sn, sub, ab, col, dd, k0, k1, k2, k3, k5, e, e3⟩
    · cases e4
  · cases h1
def icB (K : PySem.W.Frag) (C D : Addr) : Bool := oexB K C && decide (PySem.W.mroIn K C (.ref D) = some true) && decide (PySem.W.ks_superIn K C D "__init__" = some (some (.builtin "ValueError.__init__"))) && decide (PySem.W.subIn K (.ref C) (.type "ValueError") = some true)
theorem icB_ok {C D : Addr} (h : icB K C D = true) : InitC K C D := by
  unfold icB at h
  simp only [Bool.and_eq_true, decide_eq_true_eq] at h
  obtain ⟨⟨⟨h1, h2⟩, h3⟩, h4⟩ := h
  exact ⟨oexB_ok h1, h2, h3, h4⟩
def celB (D : Addr) (o : Option Obj) : Bool := match o with
  | some ⟨_, _, .cell (some (.ref d)), _⟩ => d == D
  | _ => false
def codB (P : Program) (o : Option Obj) : Bool := match o with
  | some ⟨_, _, .fields vs, _⟩ => (match (vs[2]? : Option Value) with
    | some (.str file _) => (P.main.file : Str) == file
    | _ => false)
  | _ => false
def iiB (P : Program) (K : PySem.W.Frag) (cc D cda : Addr) : Bool := celB D (K.lookup cc) && (PySem.W.clsIn K D).isSome && codB P (K.lookup cda) && !(P.main.scope.names.lookup ("super" : Str)).isSome && isNo (PySem.W.nsIn K mainGlobals "super") && isNo (PySem.W.nsIn K cStatics "thirdparty.any")
theorem iiB_ok {f cc D cda : Addr} {qual : Str} (h : iiB P K cc D cda = true) : InitIn P K f cc D cda qual := by
  unfold iiB at h
  simp only [Bool.and_eq_true, Bool.not_eq_true'] at h
  obtain ⟨⟨⟨⟨⟨h1, h2⟩, h3⟩, h4⟩, h5⟩, h6⟩ := h
  refine ⟨?_, Option.isSome_iff_exists.mp h2, ?_, h4, isNo_eq h5, isNo_eq h6⟩
  · unfold celB at h1
    split at h1
    · rename_i oc od d sl e
      rw [beq_iff_eq.mp h1] at e
      exact ⟨oc, od, sl, e⟩
    · cases h1
  · unfold codB at h3
    split at h3
    · rename_i oc od vs sl e
      split at h3
      · rename_i file tf e2
        exact ⟨oc, od, sl, vs, file, tf, e, e2, h3⟩
      · cases h3
    · cases h3
def isB (N : List Str) (sc : Scope) : Bool := decide (sc.kind = .function) && !sc.isCoroutine && !sc.isGenerator && decide N.Nodup && (N.all fun x => decide (sc.names.lookup x = some .local)) && (sc.names.all fun y => decide (y.2 ≠ .cell)) && (sc.names.all fun y => decide (y.2 ≠ .free) || decide (y.1 = "__class__")) &&
  decide (sc.names.lookup ("super" : Str) = some .globalImplicit) && decide (sc.names.lookup ("__class__" : Str) = some .free)
theorem isB_ok {N : List Str} {sc : Scope} (h : isB N sc = true) : IScope N sc := by
  unfold isB at h
  simp only [Bool.and_eq_true, decide_eq_true_eq, Bool.not_eq_true', List.all_eq_true, Bool.or_eq_true] at h
  obtain ⟨⟨⟨⟨⟨⟨⟨⟨h1, h2⟩, h3⟩, h4⟩, h5⟩, h6⟩, h7⟩, h8⟩, h9⟩ := h
  exact ⟨h1, h2, h3, h4, h5, h6, fun y m e => (h7 y m).resolve_left fun z => z e, h8, h9⟩
def dn (x : Str) : Bool := !(x == ("__debug__" : Str)) && !(x == ("__classdict__" : Str))
/-- the body of an __init__ -/
def bdB (ps : List Str) (flds : List Str) : List PySem.Stmt → Bool
  | [.Expr (.Call (.Attribute (.Call (.Name s0 _) [] [] _) m p2) [.Name x _] [] p3) _, .Assign [.Attribute (.Name s1 _) fl _] (.Name x' _) _] =>
    (match ps, flds with
    | [self, y], [f] => s0 == ("super" : Str) && m == ("__init__" : Str) && p2.endLine == p3.line && x == y && x' == y && s1 == self && fl == f && dn self && dn y
    | _, _ => false)
  | [.Expr (.Call (.Attribute (.Call (.Name s0 _) [] [] _) m p2) [.Name x _, .Name z _] [] p3) _, .Assign [.Attribute (.Name s1 _) fl _] (.Name x' _) _, .Assign [.Attribute (.Name s2 _) gl _] (.Name z' _) _] =>
    (match ps, flds with
    | [self, y, u], [f, g] => s0 == ("super" : Str) && m == ("__init__" : Str) && p2.endLine == p3.line && x == y && x' == y && z == u && z' == u && s1 == self && s2 == self && fl == f && gl == g && dn self && dn y && dn u
    | _, _ => false)
  | _ => false
def fiB (P : Program) (K : PySem.W.Frag) (D fI cc : Addr) (flds : List Str) : Bool := match K.lookup fI with
  | some ⟨_, _, .func ⟨_, qual, params, .stmts body, scope, gl, [(x, c)], .none, _, _, _, _, .ref cda, _, bl⟩, _⟩ =>
    decide (gl = mainGlobals) && decide (bl = builtinsNs) && x == ("__class__" : Str) && c == cc && PySem.W.codeIn K (.ref cda) qual && isB (psOf params) scope && iiB P K cc D cda && arB params && bdB (psOf params) flds body
  | _ => false
theorem fiB_ok {D fI cc : Addr} {flds : List Str} (h : fiB P K D fI cc flds = true) : ∃ fd ps, FnOk P w K mg base (L2.CX P w) 1 fI fd ps (spN K D flds) ∧ Binds K fd ps [] := by
  unfold fiB at h
  split at h
  · rename_i oc od name qual params body scope gl x c kV doc pm an cda ct bl osl lk
    simp only [Bool.and_eq_true, decide_eq_true_eq, beq_iff_eq] at h
    obtain ⟨⟨⟨⟨⟨⟨⟨⟨h1, h2⟩, h3⟩, h4⟩, h5⟩, h6⟩, h7⟩, h8⟩, h9⟩ := h
    subst h1; subst h2; subst h3; subst h4
    unfold arB at h8
    simp only [Bool.and_eq_true, decide_eq_true_eq, List.isEmpty_iff, Option.isNone_iff_eq_none] at h8
    obtain ⟨⟨⟨⟨a1, a2⟩, a3⟩, a4⟩, a5⟩ := h8
    have bind : Binds K (PySem.W.fnX name qual params body scope [("__class__", c)] .none kV doc pm an (.ref cda) ct) (psOf params) [] := binds_any (its := #[]) a1 rfl a2 a3 a4 a5 (.inl ⟨rfl, rfl⟩) (.inr rfl) (by simp) (by simp)
    have S := isB_ok h6
    have T : InitIn P K fI c D cda qual := iiB_ok h7
    have hd : ∀ {self : Str} {r : List Str}, psOf params = self :: r → ∃ ar : Arg, (params.posonlyargs ++ params.args).head? = some ar ∧ ar.arg = self := fun {self r} e => by
      rw [a1, List.nil_append]
      unfold psOf at e
      cases ha : params.args with
      | nil => rw [ha] at e; cases e
      | cons ar l =>
        rw [ha] at e
        exact ⟨ar, rfl, (List.cons.inj e).1⟩
    unfold bdB at h9
    split at h9
    · rename_i s0 p0 p1 m p2 x p5 p3 p4 s1 p6 fl p7 x' p8 p9
      split at h9
      · rename_i self y f eps
        simp only [Bool.and_eq_true, beq_iff_eq, dn, Bool.not_eq_true'] at h9
        obtain ⟨⟨⟨⟨⟨⟨⟨⟨b1, b2⟩, b3⟩, b4⟩, b5⟩, b6⟩, b7⟩, b8⟩, b9⟩ := h9
        subst b1; subst b2; subst b4; subst b5; subst b6; subst b7
        obtain ⟨ar, e1, e2⟩ := hd eps
        rw [eps] at S bind
        exact ⟨_, _, init_fn1 (k := 0) lk h5 S T e1 e2 (by rw [b3]; exact beq_self_eq_true _) b8.1 b9.1 b8.2 b9.2, bind⟩
      · cases h9
    · rename_i s0 p0 p1 m p2 x p5 z q5 p3 p4 s1 p6 fl p7 x' p8 p9 s2 q6 gl' q7 z' q8 q9
      split at h9
      · rename_i self y u f g eps
        simp only [Bool.and_eq_true, beq_iff_eq, dn, Bool.not_eq_true'] at h9
        obtain ⟨⟨⟨⟨⟨⟨⟨⟨⟨⟨⟨⟨⟨b1, b2⟩, b3⟩, b4⟩, b5⟩, b6⟩, b7⟩, b8⟩, b9⟩, b10⟩, b11⟩, b12⟩, b13⟩, b14⟩ := h9
        subst b1; subst b2; subst b4; subst b5; subst b6; subst b7; subst b8; subst b9; subst b10; subst b11
        obtain ⟨ar, e1, e2⟩ := hd eps
        rw [eps] at S bind
        exact ⟨_, _, init_fn2 (k := 0) lk h5 S T e1 e2 (by rw [b3]; exact beq_self_eq_true _) b12.1 b13.1 b12.2 b13.2 b14.1 b14.2, bind⟩
      · cases h9
    · cases h9
  · cases h
/-! ### the table of the classes -/
def caOf (K : PySem.W.Frag) (rs : List Str) (c : Nat) : Addr := match rs[c]? with
  | some r => adr K r
  | none => 0
def fiOf (K : PySem.W.Frag) (a : Addr) : Addr := match PySem.W.findIn K (.ref a) "__init__" with
  | some (some (.ref f)) => f
  | _ => 0
def ccOf (K : PySem.W.Frag) (f : Addr) : Addr := match K.lookup f with
  | some ⟨_, _, .func fd, _⟩ => (match fd.closure with
    | [(_, c)] => c
    | _ => 0)
  | _ => 0
def deOf (K : PySem.W.Frag) (c : Addr) : Addr := match K.lookup c with
  | some ⟨_, _, .cell (some (.ref d)), _⟩ => d
  | _ => 0
/-- one name of a class -/
def nmB (K : PySem.W.Frag) (C : List Cl) (rs : List Str) (t : Str × Nat × Nat) : Bool := match t.2.2 with
  | 0 => isRef (PySem.W.nsIn K mainGlobals t.1) (caOf K rs t.2.1) && (List.range C.length).all fun c => decide (PySem.W.kitOne K (.ref (caOf K rs c)) (.ref (caOf K rs t.2.1)) = some (isAnc C c t.2.1)) && decide (PySem.W.exmOne K (.ref (caOf K rs c)) (.ref (caOf K rs t.2.1)) = some (isAnc C c t.2.1))
  | 1 => isNo (PySem.W.nsIn K mainGlobals t.1) && decide (bootBuiltins t.1 = some (.type "ValueError")) && decide (t.1 ≠ "__name__") && (List.range C.length).all fun c => decide (PySem.W.kitOne K (.ref (caOf K rs c)) (.type "ValueError") = some (isAnc C c t.2.1))
  | _ => false
/-- a class that is raised -/
def rsB (P : Program) (K : PySem.W.Frag) (k0 : Cl) (r : Str) : Bool := k0.flds.isEmpty || (decide k0.flds.Nodup && icB K (adr K r) (deOf K (ccOf K (fiOf K (adr K r)))) && isRef (PySem.W.findIn K (.ref (adr K r)) "__init__") (fiOf K (adr K r)) && decide (PySem.W.typeIn K (.ref (fiOf K (adr K r))) = some (.type "function")) && fiB P K (deOf K (ccOf K (fiOf K (adr K r)))) (fiOf K (adr K r)) (ccOf K (fiOf K (adr K r))) k0.flds)
def clsB (P : Program) (K : PySem.W.Frag) : List Cl → List Str → Bool
  | [], [] => true
  | k0 :: C, r :: rs => excB K (adr K r) && (k0.flds.all fun f => isNo (PySem.W.findIn K (.ref (adr K r)) f)) && isRef (PySem.W.nsIn K mainGlobals r) (adr K r) && rsB P K k0 r && clsB P K C rs
  | _, _ => false
theorem clsB_at : ∀ {C : List Cl} {rs : List Str}, clsB P K C rs = true → ∀ (c : Nat) k0, C[c]? = some k0 → ∃ r, rs[c]? = some r ∧ excB K (adr K r) = true ∧ (k0.flds.all fun f => isNo (PySem.W.findIn K (.ref (adr K r)) f)) = true ∧ isRef (PySem.W.nsIn K mainGlobals r) (adr K r) = true ∧ rsB P K k0 r = true
  | [], [], _, c, k0, e => by simp at e
  | [], _ :: _, h, _, _, _ => by cases h
  | _ :: _, [], h, _, _, _ => by cases h
  | k1 :: C, r0 :: rs, h, c, k0, e => by
    have h' : (excB K (adr K r0) && (k1.flds.all fun f => isNo (PySem.W.findIn K (.ref (adr K r0)) f)) && isRef (PySem.W.nsIn K mainGlobals r0) (adr K r0) && rsB P K k1 r0 && clsB P K C rs) = true := h
    simp only [Bool.and_eq_true] at h'
    cases c with
    | zero =>
      simp at e
      subst e
      exact ⟨r0, rfl, h'.1.1.1.1, h'.1.1.1.2, h'.1.1.2, h'.1.2⟩
    | succ c =>
      obtain ⟨r, a, b⟩ := clsB_at h'.2 c k0 (by simpa using e)
      exact ⟨r, by simpa using a, b⟩
theorem clf_of {C : List Cl} {rs : List Str} {tb : List (Str × Nat × Nat)} (kin : K.In base) (ns : base.Ns mainGlobals mg) (h1 : clsB P K C rs = true) (h2 : tb.all (nmB K C rs) = true) : ClF C (caOf K rs) tb P w K mg base := by
  have at' : ∀ (c : Nat) (k0 : Cl), C[c]? = some k0 → ∃ r, rs[c]? = some r ∧ caOf K rs c = (adr K r) ∧ excB K (adr K r) = true ∧ (k0.flds.all fun f => isNo (PySem.W.findIn K (.ref (adr K r)) f)) = true ∧ isRef (PySem.W.nsIn K mainGlobals r) (adr K r) = true ∧ rsB P K k0 r = true := fun c k0 e => by
    obtain ⟨r, e1, e2⟩ := clsB_at h1 c k0 e
    exact ⟨r, e1, by unfold caOf; rw [e1], e2⟩
  refine ⟨fun c k0 e => ?_, fun x a m mm => ?_, fun x a mm k0 e hne => ?_⟩
  · obtain ⟨r, _, e1, e2, e3, _⟩ := at' c k0 e
    rw [e1]
    exact ⟨excB_ok e2, fun f hf => isNo_eq (List.all_eq_true.mp e3 f hf)⟩
  · have q := List.all_eq_true.mp h2 _ mm
    unfold nmB at q
    match m, q with
    | 0, q =>
      simp only [Bool.and_eq_true, List.all_eq_true, decide_eq_true_eq] at q
      refine ⟨.ref (caOf K rs a), .inl ⟨rfl, PySem.W.mg_of kin ns (isRef_eq q.1), _, rfl⟩, fun c k0 e => ?_⟩
      have := q.2 c (List.mem_range.mpr (List.getElem?_eq_some_iff.mp e).1)
      exact ⟨this.1, fun _ => this.2⟩
    | 1, q =>
      simp only [Bool.and_eq_true, List.all_eq_true, decide_eq_true_eq] at q
      refine ⟨.type "ValueError", .inr ⟨rfl, PySem.W.mg_none_of kin ns (isNo_eq q.1.1.1), q.1.1.2, q.1.2, _, rfl⟩, fun c k0 e => ?_⟩
      have := q.2 c (List.mem_range.mpr (List.getElem?_eq_some_iff.mp e).1)
      exact ⟨this, fun z => by cases z⟩
    | _ + 2, q => cases q
  · obtain ⟨r, _, e1, e2, e3, e4, e5⟩ := at' a k0 e
    unfold rsB at e5
    rw [Bool.or_eq_true] at e5
    rcases e5 with z | e5
    · exact absurd (List.isEmpty_iff.mp z) hne
    · simp only [Bool.and_eq_true, decide_eq_true_eq] at e5
      obtain ⟨⟨⟨⟨b1, b2⟩, b3⟩, b4⟩, b5⟩ := e5
      obtain ⟨fd, ps, F, B⟩ := fiB_ok (P := P) (w := w) (mg := mg) (base := base) b5
      refine ⟨b1, _, _, fd, ps, ?_, by rw [e1]; exact icB_ok b2, by rw [e1]; exact isRef_eq b3, b4, F, B⟩
      have q := List.all_eq_true.mp h2 _ mm
      unfold nmB at q
      simp only [Bool.and_eq_true] at q
      exact PySem.W.mg_of kin ns (isRef_eq q.1)
/-- all that is asked of the written part -/
def tabB (P : Program) (K : PySem.W.Frag) (C : List Cl) (CR : List Str) (tb : List (Str × Nat × Nat)) (con : List (Str × D)) (kin : List (Str × List Nat)) (PF : List Fn) (FR : List FRow) : Bool :=
  allB K ⟨fnsOf 0 FR, tb, con, kin⟩ PF FR && (blts.all fun x => isNo (PySem.W.nsIn K mainGlobals x)) && con.all (coB K) && clsB P K C CR && tb.all (nmB K C CR) && kin.all (kiB K tb)
def noLst (K : PySem.W.Frag) : Bool := K.all fun p => decide (p.2.cls ≠ .type "list")
theorem mem_lookA {β : Type} {a : Addr} {o : β} : ∀ {l : List (Addr × β)}, l.lookup a = some o → (a, o) ∈ l
  | [], h => by cases h
  | (b, u) :: l, h => by
    by_cases e : a = b
    · subst e
      have h' : some u = some o := by simpa [List.lookup] using h
      cases h'
      exact List.mem_cons_self
    · have hb : (a == b) = false := by simpa using e
      simp only [List.lookup, hb] at h
      exact List.mem_cons_of_mem _ (mem_lookA h)
theorem noLst_ok (h : noLst K = true) (a : Addr) (o : Obj) (e : K.lookup a = some o) : o.cls ≠ .type "list" := by
  have := List.all_eq_true.mp h (a, o) (mem_lookA e)
  exact of_decide_eq_true this
end
theorem law_tab {l : PySem.W.OpenLaw} {n k : Nat} {q : Program} {loose : List Str} {XP : (Str → Option Value) → Heap → Prop} {YP : World → Heap → Prop} {d : DefRec} {K : Params → PySem.W.Frag} {C : List Cl} {CR : List Str} {tb : List (Str × Nat × Nat)} {con : List (Str × D)} {ks : List (Str × List Nat)} {PF : List Fn} {FR : List FRow} {i : Nat} {r : FRow} {f : Fn}
    (hn : l.most = some n) (hn2 : n ≤ sizeLine) (hdf : d.params.defaults = []) (room : Room (k + 3) callerA) (hY : ∀ (w : World) (h : Heap), YP w h → (K w.params).In h)
    (hl : ∀ p : Params, noLst (K p) = true) (ht : ∀ p : Params, tabB l.prog (K p) C CR tb con ks PF FR = true) (hr : FR[i]? = some r) (hx : r.x = d.name) (hf : PF[i]? = some f) (hp : f.np = 1)
    (run : ∀ ns : List Int, ns.length ≤ n → ∃ h', callF PF C k i [.ref 0] [.ro (ns.map D.int)] = some (.ok (.bl true) h')) :
    PySem.W.WalkO q loose XP YP l.row.toRowW d [] (fun f vs => PySem.call f vs) := by
  refine law_by hn hn2 hdf room hY (fun p a o e => noLst_ok (hl p) a o e) fun w mg fa h kin ns hfa => ?_
  have t := ht w.params
  unfold tabB at t
  simp only [Bool.and_eq_true] at t
  obtain ⟨⟨⟨⟨⟨t1, t2⟩, t3⟩, t4⟩, t5⟩, t6⟩ := t
  obtain ⟨f', e1, e2, e3⟩ := allB_at t1 i r hr
  rw [hf] at e1
  cases e1
  obtain ⟨fd, e4, e5⟩ := fnB_ok e2
  obtain ⟨b1, _, b3, _⟩ := clB_ok e4 e3
  have ea := PySem.W.mg_of kin ns b1
  rw [hx] at ea e5
  rw [hfa] at ea
  cases ea
  have hps : ∃ x, psOf fd.params = [x] := by
    obtain ⟨Γ, oc, od, name, qual, params, body, scope, dV, kV, doc, pm, cdv, ct, an, osl, _, _, _, _, _, _, _, _, _, _, _, hnp, _⟩ := e5.is
    rw [hp] at hnp
    match psOf fd.params, hnp with
    | [x], _ => exact ⟨x, rfl⟩
  obtain ⟨x, hx'⟩ := hps
  rw [hx'] at e5 b3
  exact ⟨C, caOf (K w.params) CR, ⟨fnsOf 0 FR, tb, con, ks⟩, PF, i, f, fd, x, fun base kb nb => whole_of kb nb rfl t1 t2 t3 (fun x cs m => kin_of kb nb (clf_of kb nb t4 t5) (List.all_eq_true.mp t6 (x, cs) m)) (clf_of kb nb t4 t5), hf, e5, b3, run⟩
end Mini
end

section
/-! Mini: the defs that all laws have: draws (own work). -/
namespace Mini
open PySem

def bTake (j : Nat) : S := .seq (.asg (.slot 3) (.ix (.slot 1) (.int 0))) (.seq (.asg (.tsub (.slot 1) (.int 0)) (.bin .Add (.slot 3) (.int 1))) (.seq (.ret (.bin .Mod (.bi .int (.cons (.ifx (.tru (.cmp .Lt (.slot 3) (.bi .len (.cons (.slot 0) (.nil))))) (.ix (.slot 0) (.slot 3)) (.call j (.cons (.slot 0) (.cons (.slot 3) (.nil))) [])) (.nil))) (.slot 2))) (.nil)))
def bOne (j : Nat) : S := .seq (.ret (.ix (.slot 0) (.call j (.cons (.slot 1) (.cons (.slot 2) (.cons (.bi .len (.cons (.slot 0) (.nil))) (.nil)))) []))) (.nil)
def bMore : S := .seq (.asg (.slot 2) (.bin .Mod (.bi .int (.cons (.bin .Add (.bin .Add (.bin .Mult (.slot 1) (.int 48271)) (.bi .len (.cons (.slot 0) (.nil)))) (.int 11)) (.nil))) (.int 2147483629))) (.seq (.for (.slot 3) (.rng (.cons (.int 3) (.nil))) (.seq (.ite (.tru (.slot 0)) (.seq (.asg (.slot 2) (.bin .Add (.slot 2) (.ix (.slot 0) (.bin .Mod (.bi .int (.cons (.bin .Add (.bin .Mult (.slot 1) (.bin .Add (.slot 3) (.int 5))) (.slot 3)) (.nil))) (.bi .len (.cons (.slot 0) (.nil))))))) (.nil)) (.nil)) (.seq (.asg (.slot 2) (.bin .Mod (.bi .int (.cons (.bin .Add (.bin .Add (.bin .Mult (.slot 2) (.int 16807)) (.bin .Mult (.int 69621) (.slot 3))) (.int 5)) (.nil))) (.int 2147483629))) (.nil)))) (.seq (.ret (.bin .FloorDiv (.slot 2) (.int 1009))) (.nil)))
def bDraws : S := .seq (.asg (.slot 1) (.lst (.nil))) (.seq (.for (.slot 2) (.itr (.sl (.slot 0) (.omit) (.cons (.int 63) .nil))) (.seq (.asg (.slot 3) (.bi .abs (.cons (.slot 2) (.nil)))) (.seq (.ite (.tru (.cmp .GtE (.slot 3) (.bin .Pow (.int 10) (.int 18)))) (.seq (.for (.slot 4) (.rng (.cons (.int 60) (.nil))) (.seq (.ite (.tru (.cmp .Gt (.slot 3) (.int 0))) (.seq (.ex (.mt .append (.slot 1) (.cons (.bin .Mod (.bi .int (.cons (.slot 3) (.nil))) (.int 1009)) (.nil)))) (.seq (.asg (.slot 3) (.bin .FloorDiv (.slot 3) (.int 1009))) (.nil))) (.nil)) (.nil))) (.nil)) (.seq (.asg (.slot 5) (.bin .Mod (.bi .int (.cons (.bin .Add (.bin .Mult (.slot 3) (.int 48271)) (.int 11)) (.nil))) (.int 2147483647))) (.seq (.for (.slot 4) (.rng (.cons (.int 12) (.nil))) (.seq (.asg (.slot 5) (.bin .Mod (.bi .int (.cons (.bin .Add (.bin .Add (.bin .Mult (.slot 5) (.int 16807)) (.bin .Mult (.int 69621) (.slot 4))) (.int 5)) (.nil))) (.int 2147483629))) (.seq (.ex (.mt .append (.slot 1) (.cons (.bin .FloorDiv (.slot 5) (.int 1009)) (.nil)))) (.nil)))) (.nil)))) (.nil)))) (.seq (.ret (.slot 1)) (.nil)))

theorem ret1 {call : Caller} {C : List Cl} {f : Fn} {vs : List D} {h h' : List O} {d : D} (e : exec call C f.body (startD f.nl vs) h = some (.fl (.rt d) h')) : runB call C f vs h = some (.ok d h') := by
  unfold runB; rw [e]
section
variable {call : Caller} {C : List Cl}
theorem seq_nx {a b : S} {env e : Env} {h h' : List O} (x : exec call C a env h = some (.fl (.nx e) h')) : exec call C (.seq a b) env h = exec call C b e h' := by
  show (match exec call C a env h with | some (.fl (.nx e) h') => exec call C b e h' | r => r) = _
  rw [x]
/-- a loop's turn -/
def turn (call : Caller) (C : List Cl) (tg : E) (b : S) : D → Env → List O → Option RS := fun x env h => match asgT tg x env with
  | some env2 => exec call C b env2 h
  | none => none
theorem for_is {tg it : E} {b : S} {env : Env} {h h1 : List O} {p : List D × Src} (x : evi call it env h = some (.ok p h1)) : exec call C (.for tg it b) env h = forGo p.2 (turn call C tg b) p.1 env h1 := by
  show bns (evi call it env h) env _ = _
  rw [x]
  rfl
theorem for_nil {src : Src} {f : D → Env → List O → Option RS} {env : Env} {h : List O} (c : chk src h = true) : forGo src f [] env h = some (.fl (.nx env) h) := by
  unfold forGo
  rw [if_pos c]
theorem for_cons {src : Src} {f : D → Env → List O → Option RS} {x : D} {xs : List D} {env e : Env} {h h' : List O} (c : chk src h = true) (y : f x env h = some (.fl (.nx e) h')) : forGo src f (x :: xs) env h = forGo src f xs e h' := by
  rw [forGo, if_pos c, y]
/-- a comprehension's turn -/
def lcT (call : Caller) (own : List Nat) (tg c elt : E) (env : Env) : D → List O → Option (R (Option D)) := fun x h => match asgT tg x (wipeD env own) with
  | some env2 => bnd (evt call c env2 h) fun b h2 => if b then bnd (ev call elt env2 h2) fun y h3 => some (.ok (some y) h3) else some (.ok none h2)
  | none => none
theorem lc_is {own : List Nat} {tg it c elt : E} {env : Env} {h h1 h2 : List O} {p : List D × Src} {ys : List D} (x : evi call it env h = some (.ok p h1)) (y : lcGo p.2 (lcT call own tg c elt env) p.1 [] h1 = some (.ok ys h2)) : ev call (.lc own tg it c elt) env h = some (.ok (.ref h2.length) (h2 ++ [.lst ys])) := by
  show bnd (evi call it env h) _ = _
  rw [x, bnd_ok]
  show bnd (lcGo p.2 (lcT call own tg c elt env) p.1 [] h1) _ = _
  rw [y]
  rfl
theorem lc_some {src : Src} {f : D → List O → Option (R (Option D))} {x y : D} {xs acc : List D} {h h' : List O} (c : chk src h = true) (e : f x h = some (.ok (some y) h')) (l : acc.length < lim) : lcGo src f (x :: xs) acc h = lcGo src f xs (acc ++ [y]) h' := by
  rw [lcGo, if_pos c, e]
  dsimp only
  rw [if_pos l]
theorem lc_none {src : Src} {f : D → List O → Option (R (Option D))} {x : D} {xs acc : List D} {h h' : List O} (c : chk src h = true) (e : f x h = some (.ok none h')) : lcGo src f (x :: xs) acc h = lcGo src f xs acc h' := by
  rw [lcGo, if_pos c, e]
theorem lc_nil {src : Src} {f : D → List O → Option (R (Option D))} {acc : List D} {h : List O} (c : chk src h = true) : lcGo src f [] acc h = some (.ok acc h) := by
  rw [lcGo, if_pos c]
/-- lists that do not change where they are walked: none -/
theorem chk_nil {h : List O} : chk [] h = true := rfl
theorem atD_nat {xs : List D} {i : Nat} {d : D} (e : xs[i]? = some d) : atD xs (i : Int) = some d := by
  have hl := (List.getElem?_eq_some_iff.mp e).1
  unfold atD ixD
  rw [if_pos (Int.natCast_nonneg i), if_pos (by omega)]
  simpa using e
def bMoreB : S := .seq (.ite (.tru (.slot 0)) (.seq (.asg (.slot 2) (.bin .Add (.slot 2) (.ix (.slot 0) (.bin .Mod (.bi .int (.cons (.bin .Add (.bin .Mult (.slot 1) (.bin .Add (.slot 3) (.int 5))) (.slot 3)) (.nil))) (.bi .len (.cons (.slot 0) (.nil))))))) (.nil)) (.nil)) (.seq (.asg (.slot 2) (.bin .Mod (.bi .int (.cons (.bin .Add (.bin .Add (.bin .Mult (.slot 2) (.int 16807)) (.bin .Mult (.int 69621) (.slot 3))) (.int 5)) (.nil))) (.int 2147483629))) (.nil))
theorem len_of {h : List O} {a : Nat} {xs : List D} (rd : rdLst h a = some xs) : len1 [.ref a] h = okI (xs.length : Int) h := by
  unfold len1
  dsimp only
  rw [rd]
theorem at_mod {ds : List Int} (hp : (0 : Int) < ds.length) (e : Int) : ∃ z : Int, atD (ds.map D.int) (e % (ds.length : Int)) = some (.int z) := by
  have h0 := Int.emod_nonneg e (by omega : (ds.length : Int) ≠ 0)
  have h1 := Int.emod_lt_of_pos e hp
  obtain ⟨i, ei⟩ := Int.eq_ofNat_of_zero_le h0
  rw [ei] at h1 ⊢
  have hi : i < ds.length := by omega
  exact ⟨ds[i], atD_nat (by rw [List.getElem?_map, List.getElem?_eq_getElem hi]; rfl)⟩
/-- _law_more -/
theorem more_ok {h : List O} {a : Nat} {ds : List Int} {p : Int} (rd : rdLst h a = some (ds.map .int)) :
    ∃ z : Int, runB call C ⟨2, 4, bMore⟩ [.ref a, .int p] h = some (.ok (.int z) h) := by
  have len : len1 [.ref a] h = okI (ds.length : Int) h := by rw [len_of rd, List.length_map]
  have step : ∀ (k : Nat) (m : Int) (kk : Option D), k < 3 → ∃ m' : Int, turn call C (.slot 3) bMoreB (.int (0 + (k : Int))) [some (.ref a), some (.int p), some (.int m), kk] h = some (.fl (.nx [some (.ref a), some (.int p), some (.int m'), some (.int (0 + (k : Int)))]) h) := by
    intro k m kk hk
    have hk5 : (0 + (k : Int) + 5).natAbs < 2 ^ 64 := by omega
    by_cases hz : ds = []
    · simp [turn, bMoreB, asgT, exec, asgS, ev, evs, evt, truth, rd, hz, bns, bnd, binD, mulD, mulOk, addD, okI, biD, int1, gc]
    · have hp : (0 : Int) < ds.length := by
        have := List.length_pos_iff.mpr hz
        omega
      obtain ⟨z, hz2⟩ := at_mod hp (p * (0 + (k : Int) + 5) + (0 + (k : Int)))
      simp only [Int.zero_add] at hz2 hk5
      simp [turn, bMoreB, asgT, exec, asgS, ev, evs, evt, truth, rd, hz, bns, bnd, binD, mulD, mulOk, addD, okI, biD, int1, gc, len, hp, List.length_pos_iff.mpr hz, hk5, ixG, seqOf, hz2]
  obtain ⟨m1, e1⟩ := step 0 ((p * 48271 + (ds.length : Int) + 11) % 2147483629) none (by decide)
  obtain ⟨m2, e2⟩ := step 1 m1 (some (.int (0 + (0 : Nat)))) (by decide)
  obtain ⟨m3, e3⟩ := step 2 m2 (some (.int (0 + (1 : Nat)))) (by decide)
  refine ⟨m3 / 1009, ret1 ?_⟩
  show exec call C (.seq (.asg (.slot 2) (.bin .Mod (.bi .int (.cons (.bin .Add (.bin .Add (.bin .Mult (.slot 1) (.int 48271)) (.bi .len (.cons (.slot 0) (.nil)))) (.int 11)) (.nil))) (.int 2147483629))) (.seq (.for (.slot 3) (.rng (.cons (.int 3) (.nil))) bMoreB) (.seq (.ret (.bin .FloorDiv (.slot 2) (.int 1009))) .nil))) [some (.ref a), some (.int p), none, none] h = _
  rw [seq_nx (e := [some (.ref a), some (.int p), some (.int ((p * 48271 + (ds.length : Int) + 11) % 2147483629)), none]) (h' := h) (by simp [exec, asgS, ev, evs, bns, bnd, binD, mulD, mulOk, addD, okI, biD, int1, gc, len])]
  rw [seq_nx (e := [some (.ref a), some (.int p), some (.int m3), some (.int (0 + (2 : Nat)))]) (h' := h) (by
    rw [for_is (p := ([.int (0 + ((0 : Nat) : Int)), .int (0 + ((1 : Nat) : Int)), .int (0 + ((2 : Nat) : Int))], [])) (h1 := h) rfl, for_cons chk_nil e1, for_cons chk_nil e2, for_cons chk_nil e3, for_nil chk_nil])]
  have l2 : (1009 : Nat).log2 < 9000 := by decide
  simp [exec, ev, bns, bnd, binD, okI, l2]
/-- _law_take -/
theorem take_ok {j : Nat} {h : List O} {a b : Nat} {ds : List Int} {p many : Int} (hab : a ≠ b) (hd : h[a]? = some (.lst (ds.map .int))) (hb : h[b]? = some (.lst [.int p])) (hp : 0 ≤ p) (hm : 0 < many)
    (more : ∀ (h : List O) (p : Int), rdLst h a = some (ds.map .int) → ∃ z : Int, call j [.ref a, .int p] h = some (.ok (.int z) h)) :
    ∃ r : Int, 0 ≤ r ∧ r < many ∧ runB call C ⟨3, 4, bTake j⟩ [.ref a, .ref b, .int many] h = some (.ok (.int r) (h.set b (.lst [.int (p + 1)]))) := by
  have hbl := (List.getElem?_eq_some_iff.mp hb).1
  have rb : rdLst h b = some [.int p] := by unfold rdLst; rw [hb]
  have ib : isLst h b = some [.int p] := by unfold isLst; rw [hb]
  have rd' : rdLst (h.set b (.lst [.int (p + 1)])) a = some (ds.map .int) := by
    unfold rdLst; rw [List.getElem?_set_ne (Ne.symm hab), hd]
  have len : len1 [.ref a] (h.set b (.lst [.int (p + 1)])) = okI (ds.length : Int) (h.set b (.lst [.int (p + 1)])) := by rw [len_of rd', List.length_map]
  have a0 : atD [D.int p] 0 = some (.int p) := rfl
  obtain ⟨zm, em⟩ := more (h.set b (.lst [.int (p + 1)])) p rd'
  have val : ∃ z : Int, ev call (.ifx (.tru (.cmp .Lt (.slot 3) (.bi .len (.cons (.slot 0) (.nil))))) (.ix (.slot 0) (.slot 3)) (.call j (.cons (.slot 0) (.cons (.slot 3) (.nil))) [])) [some (.ref a), some (.ref b), some (.int many), some (.int p)] (h.set b (.lst [.int (p + 1)])) = some (.ok (.int z) (h.set b (.lst [.int (p + 1)]))) := by
    by_cases hlt : p < (ds.length : Int)
    · obtain ⟨i, rfl⟩ := Int.eq_ofNat_of_zero_le hp
      have hi : i < ds.length := by omega
      have ea : atD (ds.map D.int) ((i : Nat) : Int) = some (.int ds[i]) := atD_nat (by rw [List.getElem?_map, List.getElem?_eq_getElem hi]; rfl)
      refine ⟨ds[i], ?_⟩
      simp [ev, evt, evs, bnd, cmpD, biD, len, okI, okB, gc, truth, hi, ixG, seqOf, rd', ea]
    · refine ⟨zm, ?_⟩
      simp [ev, evt, evs, bnd, cmpD, biD, len, okI, okB, gc, truth, hlt, em]
  obtain ⟨z, ez⟩ := val
  refine ⟨z % many, Int.emod_nonneg _ (by omega), Int.emod_lt_of_pos _ hm, ret1 ?_⟩
  show exec call C (.seq (.asg (.slot 3) (.ix (.slot 1) (.int 0))) (.seq (.asg (.tsub (.slot 1) (.int 0)) (.bin .Add (.slot 3) (.int 1))) (.seq (.ret (.bin .Mod (.bi .int (.cons (.ifx (.tru (.cmp .Lt (.slot 3) (.bi .len (.cons (.slot 0) (.nil))))) (.ix (.slot 0) (.slot 3)) (.call j (.cons (.slot 0) (.cons (.slot 3) (.nil))) [])) (.nil))) (.slot 2))) .nil))) [some (.ref a), some (.ref b), some (.int many), none] h = _
  rw [seq_nx (e := [some (.ref a), some (.ref b), some (.int many), some (.int p)]) (h' := h) (by simp [exec, asgS, ev, bns, bnd, ixG, seqOf, rb, a0])]
  rw [seq_nx (e := [some (.ref a), some (.ref b), some (.int many), some (.int p)]) (h' := h.set b (.lst [.int (p + 1)])) (by
    simp [exec, asgS, ev, bns, bnd, binD, addD, okI, onlyOk, setI, ib, ixD, setH])]
  have e3 : ev call (.bin .Mod (.bi .int (.cons (.ifx (.tru (.cmp .Lt (.slot 3) (.bi .len (.cons (.slot 0) (.nil))))) (.ix (.slot 0) (.slot 3)) (.call j (.cons (.slot 0) (.cons (.slot 3) (.nil))) [])) (.nil))) (.slot 2)) [some (.ref a), some (.ref b), some (.int many), some (.int p)] (h.set b (.lst [.int (p + 1)])) = some (.ok (.int (z % many)) (h.set b (.lst [.int (p + 1)]))) := by
    rw [ev]
    rw [show ev call (.bi .int (.cons (.ifx (.tru (.cmp .Lt (.slot 3) (.bi .len (.cons (.slot 0) (.nil))))) (.ix (.slot 0) (.slot 3)) (.call j (.cons (.slot 0) (.cons (.slot 3) (.nil))) [])) (.nil))) [some (.ref a), some (.ref b), some (.int many), some (.int p)] (h.set b (.lst [.int (p + 1)])) = some (.ok (.int z) (h.set b (.lst [.int (p + 1)]))) from by
      rw [ev, evs, ez]
      simp [bnd, evs, biD, int1, okI, gc]]
    simp [bnd, ev, binD, hm, okI]
  rw [exec, exec, e3]
  rfl
theorem rd_set {h : List O} {b c : Nat} {xs ys : List D} (hc : rdLst h c = some xs) (n : c ≠ b) : rdLst (h.set b (.lst ys)) c = some xs := by
  unfold rdLst at hc ⊢
  rw [List.getElem?_set_ne (Ne.symm n)]
  exact hc
/-- _law_one -/
theorem one_ok {j : Nat} {h : List O} {a b c : Nat} {xs : List D} {p : Int} (hc : rdLst h c = some xs) (hcb : c ≠ b) (hne : xs ≠ [])
    (take : ∀ many : Int, 0 < many → ∃ r : Int, 0 ≤ r ∧ r < many ∧ call j [.ref a, .ref b, .int many] h = some (.ok (.int r) (h.set b (.lst [.int (p + 1)])))) :
    ∃ d ∈ xs, runB call C ⟨3, 3, bOne j⟩ [.ref c, .ref a, .ref b] h = some (.ok d (h.set b (.lst [.int (p + 1)]))) := by
  have hpos : (0 : Int) < xs.length := by
    have := List.length_pos_iff.mpr hne
    omega
  obtain ⟨r, r0, r1, er⟩ := take xs.length hpos
  obtain ⟨i, rfl⟩ := Int.eq_ofNat_of_zero_le r0
  have hi : i < xs.length := by omega
  have ea : atD xs ((i : Nat) : Int) = some xs[i] := atD_nat (List.getElem?_eq_getElem hi)
  refine ⟨xs[i], List.getElem_mem hi, ret1 ?_⟩
  show exec call C (.seq (.ret (.ix (.slot 0) (.call j (.cons (.slot 1) (.cons (.slot 2) (.cons (.bi .len (.cons (.slot 0) (.nil))) (.nil)))) []))) .nil) [some (.ref c), some (.ref a), some (.ref b)] h = _
  have len := len_of hc
  simp [exec, ev, evs, bns, bnd, biD, len, okI, gc, er, ixG, seqOf, rd_set hc hcb, ea]
theorem D.beq_refl : ∀ x : D, x.beq x = true := by
  intro x
  exact D.rec (motive_1 := fun x => x.beq x = true) (motive_2 := fun xs => D.beqL xs xs = true) rfl (fun b => by simp [D.beq]) (fun i => by simp [D.beq]) (fun s => by simp [D.beq]) (fun xs ih => by simpa [D.beq] using ih) (fun n => by simp [D.beq]) rfl (fun x xs h1 h2 => by simp [D.beqL, h1, h2]) x
theorem D.beqL_refl (xs : List D) : D.beqL xs xs = true := by
  induction xs with
  | nil => rfl
  | cons x xs ih => simp [D.beqL, D.beq_refl, ih]
theorem for_inv {src : Src} {f : D → Env → List O → Option RS} (I : Nat → Env → List O → Prop) (hc : ∀ n env h, I n env h → chk src h = true) : ∀ (xs : List D) (n : Nat) (env : Env) (h : List O),
    (∀ x ∈ xs, ∀ n env h, I n env h → ∃ e h', f x env h = some (.fl (.nx e) h') ∧ I (n + 1) e h') → I n env h → ∃ e h', forGo src f xs env h = some (.fl (.nx e) h') ∧ I (n + xs.length) e h'
  | [], n, env, h, _, i => ⟨env, h, for_nil (hc _ _ _ i), i⟩
  | x :: xs, n, env, h, st, i => by
    obtain ⟨e, h', e1, i1⟩ := st x List.mem_cons_self n env h i
    obtain ⟨e2, h2, e3, i2⟩ := for_inv I hc xs (n + 1) e h' (fun y m => st y (List.mem_cons_of_mem _ m)) i1
    refine ⟨e2, h2, by rw [for_cons (hc _ _ _ i) e1, e3], ?_⟩
    rw [List.length_cons, show n + (xs.length + 1) = n + 1 + xs.length from by omega]
    exact i2
theorem for_invB {src : Src} {f : D → Env → List O → Option RS} (I : Nat → Env → List O → Prop) (hc : ∀ n env h, I n env h → chk src h = true) (N : Nat) : ∀ (xs : List D) (n : Nat) (env : Env) (h : List O), n + xs.length ≤ N →
    (∀ x ∈ xs, ∀ n env h, n < N → I n env h → ∃ e h', f x env h = some (.fl (.nx e) h') ∧ I (n + 1) e h') → I n env h → ∃ e h', forGo src f xs env h = some (.fl (.nx e) h') ∧ I (n + xs.length) e h'
  | [], n, env, h, _, _, i => ⟨env, h, for_nil (hc _ _ _ i), i⟩
  | x :: xs, n, env, h, hN, st, i => by
    rw [List.length_cons] at hN
    obtain ⟨e, h', e1, i1⟩ := st x List.mem_cons_self n env h (by omega) i
    obtain ⟨e2, h2, e3, i2⟩ := for_invB I hc N xs (n + 1) e h' (by omega) (fun y m => st y (List.mem_cons_of_mem _ m)) i1
    refine ⟨e2, h2, by rw [for_cons (hc _ _ _ i) e1, e3], ?_⟩
    rw [List.length_cons, show n + (xs.length + 1) = n + 1 + xs.length from by omega]
    exact i2
def bDrawsA : S := .seq (.ite (.tru (.cmp .Gt (.slot 3) (.int 0))) (.seq (.ex (.mt .append (.slot 1) (.cons (.bin .Mod (.bi .int (.cons (.slot 3) (.nil))) (.int 1009)) (.nil)))) (.seq (.asg (.slot 3) (.bin .FloorDiv (.slot 3) (.int 1009))) (.nil))) (.nil)) (.nil)
def bDrawsB : S := .seq (.asg (.slot 5) (.bin .Mod (.bi .int (.cons (.bin .Add (.bin .Add (.bin .Mult (.slot 5) (.int 16807)) (.bin .Mult (.int 69621) (.slot 4))) (.int 5)) (.nil))) (.int 2147483629))) (.seq (.ex (.mt .append (.slot 1) (.cons (.bin .FloorDiv (.slot 5) (.int 1009)) (.nil)))) (.nil))
def bDrawsL : S := .seq (.asg (.slot 3) (.bi .abs (.cons (.slot 2) (.nil)))) (.seq (.ite (.tru (.cmp .GtE (.slot 3) (.bin .Pow (.int 10) (.int 18)))) (.seq (.for (.slot 4) (.rng (.cons (.int 60) (.nil))) bDrawsA) (.nil)) (.seq (.asg (.slot 5) (.bin .Mod (.bi .int (.cons (.bin .Add (.bin .Mult (.slot 3) (.int 48271)) (.int 11)) (.nil))) (.int 2147483647))) (.seq (.for (.slot 4) (.rng (.cons (.int 12) (.nil))) bDrawsB) (.nil)))) (.nil))
theorem app1 {xs : List D} {o0 o2 : O} {d : D} (hl : xs.length < lim) : append1 (.ref 1) [d] [o0, .lst xs, o2] = some (R.ok D.non [o0, .lst (xs ++ [d]), o2]) := by
  have e : isLst [o0, .lst xs, o2] 1 = some xs := rfl
  unfold append1
  dsimp only
  rw [e]
  dsimp only
  rw [if_pos hl]
  rfl
theorem draws_ok (ns : List Int) (hl : ns.length ≤ 63) : ∃ ds : List Int, runB call C ⟨1, 6, bDraws⟩ [.ref 0] [.ro (ns.map .int)] = some (.ok (.ref 1) [.ro (ns.map .int), .lst (ds.map .int), .lst (ns.map .int)]) := by
  have l2 : (1009 : Nat).log2 < 9000 := by decide
  have big : (5000 : Nat) < lim := by decide
  -- the loops within
  have A : ∀ (ds : List Int) (c k m : Option D) (z : Int), ds.length ≤ 4000 → ∃ (ds' : List Int) (e : Env) (r' k' : Option D), e = [some (.ref 0), some (.ref 1), c, r', k', m] ∧ ds'.length ≤ ds.length + 60 ∧
      exec call C (.for (.slot 4) (.rng (.cons (.int 60) (.nil))) bDrawsA) [some (.ref 0), some (.ref 1), c, some (.int z), k, m] [.ro (ns.map .int), .lst (ds.map .int), .lst (ns.map .int)] = some (.fl (.nx e) [.ro (ns.map .int), .lst (ds'.map .int), .lst (ns.map .int)]) := by
    intro ds c k m z hd
    rw [for_is (p := ((List.range 60).map fun k : Nat => .int (0 + (k : Int)), [])) (h1 := [.ro (ns.map .int), .lst (ds.map .int), .lst (ns.map .int)]) rfl]
    obtain ⟨e, h', e1, z', k', ds', rfl, rfl, hl'⟩ := for_invB (src := []) (f := turn call C (.slot 4) bDrawsA) (fun n env h => ∃ (z : Int) (k : Option D) (ds' : List Int), env = [some (.ref 0), some (.ref 1), c, some (.int z), k, m] ∧ h = [.ro (ns.map .int), .lst (ds'.map .int), .lst (ns.map .int)] ∧ ds'.length ≤ ds.length + n) (fun _ _ _ _ => chk_nil) 60
      ((List.range 60).map fun k : Nat => .int (0 + (k : Int))) 0 [some (.ref 0), some (.ref 1), c, some (.int z), k, m] [.ro (ns.map .int), .lst (ds.map .int), .lst (ns.map .int)] (by simp) (by
        rintro x _ n env h hn ⟨z, k, ds', rfl, rfl, hl'⟩
        have hlim : (ds'.map D.int).length < lim := by rw [List.length_map]; omega
        by_cases hz : 0 < z
        · refine ⟨[some (.ref 0), some (.ref 1), c, some (.int (z / 1009)), some x, m], [.ro (ns.map .int), .lst ((ds' ++ [z % 1009]).map .int), .lst (ns.map .int)], ?_, z / 1009, some x, ds' ++ [z % 1009], rfl, rfl, by simp; omega⟩
          simp [turn, bDrawsA, asgT, exec, asgS, ev, evs, evt, truth, hz, bns, bnd, binD, okI, okB, biD, int1, gc, cmpD, mtD, mtPre, isLst, app1 hlim, l2]
        · refine ⟨[some (.ref 0), some (.ref 1), c, some (.int z), some x, m], [.ro (ns.map .int), .lst (ds'.map .int), .lst (ns.map .int)], ?_, z, some x, ds', rfl, rfl, by omega⟩
          simp [turn, bDrawsA, asgT, exec, asgS, ev, evs, evt, truth, hz, bns, bnd, binD, okI, okB, biD, int1, gc, cmpD]) ⟨z, k, ds, rfl, rfl, by omega⟩
    refine ⟨ds', _, _, _, rfl, ?_, e1⟩
    simpa using hl'
  have B : ∀ (ds : List Int) (c r k : Option D) (z : Int), ds.length ≤ 4000 → ∃ (ds' : List Int) (e : Env) (k' m' : Option D), e = [some (.ref 0), some (.ref 1), c, r, k', m'] ∧ ds'.length ≤ ds.length + 60 ∧
      exec call C (.for (.slot 4) (.rng (.cons (.int 12) (.nil))) bDrawsB) [some (.ref 0), some (.ref 1), c, r, k, some (.int z)] [.ro (ns.map .int), .lst (ds.map .int), .lst (ns.map .int)] = some (.fl (.nx e) [.ro (ns.map .int), .lst (ds'.map .int), .lst (ns.map .int)]) := by
    intro ds c r k z hd
    rw [for_is (p := ((List.range 12).map fun k : Nat => .int (0 + (k : Int)), [])) (h1 := [.ro (ns.map .int), .lst (ds.map .int), .lst (ns.map .int)]) rfl]
    obtain ⟨e, h', e1, z', k', ds', rfl, rfl, hl'⟩ := for_invB (src := []) (f := turn call C (.slot 4) bDrawsB) (fun n env h => ∃ (z : Int) (k : Option D) (ds' : List Int), env = [some (.ref 0), some (.ref 1), c, r, k, some (.int z)] ∧ h = [.ro (ns.map .int), .lst (ds'.map .int), .lst (ns.map .int)] ∧ ds'.length ≤ ds.length + n) (fun _ _ _ _ => chk_nil) 12
      ((List.range 12).map fun k : Nat => .int (0 + (k : Int))) 0 [some (.ref 0), some (.ref 1), c, r, k, some (.int z)] [.ro (ns.map .int), .lst (ds.map .int), .lst (ns.map .int)] (by simp) (by
        rintro x hx n env h hn ⟨z, k, ds', rfl, rfl, hl'⟩
        have hlim : (ds'.map D.int).length < lim := by rw [List.length_map]; omega
        obtain ⟨q, _, rfl⟩ := List.mem_map.mp hx
        refine ⟨[some (.ref 0), some (.ref 1), c, r, some (.int (0 + (q : Int))), some (.int ((z * 16807 + 69621 * (0 + (q : Int)) + 5) % 2147483629))], [.ro (ns.map .int), .lst ((ds' ++ [((z * 16807 + 69621 * (0 + (q : Int)) + 5) % 2147483629) / 1009]).map .int), .lst (ns.map .int)], ?_, _, _, ds' ++ [((z * 16807 + 69621 * (0 + (q : Int)) + 5) % 2147483629) / 1009], rfl, rfl, by simp; omega⟩
        simp [turn, bDrawsB, asgT, exec, asgS, ev, evs, evt, truth, bns, bnd, binD, mulD, mulOk, addD, okI, okB, biD, int1, gc, cmpD, mtD, mtPre, isLst, app1 hlim, l2]) ⟨z, k, ds, rfl, rfl, by omega⟩
    refine ⟨ds', _, _, _, rfl, ?_, e1⟩
    have : ds'.length ≤ ds.length + 12 := by simpa using hl'
    omega
  have cut : cutD (ns.map D.int) none (some 63) = ns.map D.int := by
    have e2 : sIxD (ns.map D.int).length (ns.map D.int).length (some 63) = ns.length := by
      unfold sIxD
      dsimp only
      rw [if_neg (by decide), List.length_map]
      show min 63 ns.length = ns.length
      omega
    unfold cutD
    rw [e2]
    show ((ns.map D.int).drop 0).take (ns.length - 0) = _
    rw [List.drop_zero, Nat.sub_zero]
    exact List.take_of_length_le (by rw [List.length_map]; exact Nat.le_refl _)
  have ck : ∀ ds : List Int, chk [(2, ns.map D.int)] [.ro (ns.map .int), .lst (ds.map .int), .lst (ns.map .int)] = true := fun ds => by
    show (D.beqL (ns.map D.int) (ns.map D.int) && true) = true
    rw [D.beqL_refl]; rfl
  have loop : ∃ (ds : List Int) (c r k m : Option D), exec call C (.for (.slot 2) (.itr (.sl (.slot 0) (.omit) (.cons (.int 63) .nil))) bDrawsL) [some (.ref 0), some (.ref 1), none, none, none, none] [.ro (ns.map .int), .lst []] = some (.fl (.nx [some (.ref 0), some (.ref 1), c, r, k, m]) [.ro (ns.map .int), .lst (ds.map .int), .lst (ns.map .int)]) := by
    rw [for_is (p := (ns.map D.int, [(2, ns.map D.int)])) (h1 := [.ro (ns.map .int), .lst [], .lst (ns.map .int)]) (by
      simp [evi, ev, evo, bnd, slG, rdLst, alloc, cut, itemsOf])]
    obtain ⟨e, h', e1, ds, c, r, k, m, rfl, rfl, _⟩ := for_invB (src := [(2, ns.map D.int)]) (f := turn call C (.slot 2) bDrawsL) (fun n env h => ∃ (ds : List Int) (c r k m : Option D), env = [some (.ref 0), some (.ref 1), c, r, k, m] ∧ h = [.ro (ns.map .int), .lst (ds.map .int), .lst (ns.map .int)] ∧ ds.length ≤ 60 * n) (fun n env h ⟨ds, _, _, _, _, _, e, _⟩ => by rw [e]; exact ck ds) 63
      (ns.map D.int) 0 [some (.ref 0), some (.ref 1), none, none, none, none] [.ro (ns.map .int), .lst [], .lst (ns.map .int)] (by rw [List.length_map]; omega) (by
        rintro x hx n env h hn ⟨ds, c, r, k, m, rfl, rfl, hl'⟩
        obtain ⟨z, _, rfl⟩ := List.mem_map.mp hx
        have hd : ds.length ≤ 4000 := by omega
        show ∃ e h', exec call C bDrawsL [some (.ref 0), some (.ref 1), some (.int z), r, k, m] _ = some (.fl (.nx e) h') ∧ _
        unfold bDrawsL
        rw [seq_nx (e := [some (.ref 0), some (.ref 1), some (.int z), some (.int (if z < 0 then -z else z)), k, m]) (h' := [.ro (ns.map .int), .lst (ds.map .int), .lst (ns.map .int)]) (by simp [exec, asgS, ev, evs, bns, bnd, biD, abs1, okI, gc])]
        by_cases hz : (10 : Int) ^ 18 ≤ (if z < 0 then -z else z)
        · obtain ⟨ds', e, r', k', rfl, hl2, e2⟩ := A ds (some (.int z)) k m (if z < 0 then -z else z) hd
          refine ⟨[some (.ref 0), some (.ref 1), some (.int z), r', k', m], _, ?_, ds', some (.int z), r', k', m, rfl, rfl, by omega⟩
          have t : evt call (.tru (.cmp .GtE (.slot 3) (.bin .Pow (.int 10) (.int 18)))) [some (.ref 0), some (.ref 1), some (.int z), some (.int (if z < 0 then -z else z)), k, m] [.ro (ns.map .int), .lst (ds.map .int), .lst (ns.map .int)] = some (.ok true [.ro (ns.map .int), .lst (ds.map .int), .lst (ns.map .int)]) := by
            have hz' : (1000000000000000000 : Int) ≤ (if z < 0 then -z else z) := hz
            simp [evt, ev, bnd, binD, powOk, okI, cmpD, okB, truth, gc, hz']
          rw [exec, exec, t, bns_ok, if_pos rfl, seq_nx e2]
          rfl
        · obtain ⟨ds', e, k', m', rfl, hl2, e2⟩ := B ds (some (.int z)) (some (.int (if z < 0 then -z else z))) k (((if z < 0 then -z else z) * 48271 + 11) % 2147483647) hd
          refine ⟨[some (.ref 0), some (.ref 1), some (.int z), some (.int (if z < 0 then -z else z)), k', m'], _, ?_, ds', some (.int z), some (.int (if z < 0 then -z else z)), k', m', rfl, rfl, by omega⟩
          have t : evt call (.tru (.cmp .GtE (.slot 3) (.bin .Pow (.int 10) (.int 18)))) [some (.ref 0), some (.ref 1), some (.int z), some (.int (if z < 0 then -z else z)), k, m] [.ro (ns.map .int), .lst (ds.map .int), .lst (ns.map .int)] = some (.ok false [.ro (ns.map .int), .lst (ds.map .int), .lst (ns.map .int)]) := by
            have hz' : ¬ (1000000000000000000 : Int) ≤ (if z < 0 then -z else z) := hz
            simp [evt, ev, bnd, binD, powOk, okI, cmpD, okB, truth, gc, hz']
          have a1 : exec call C (.asg (.slot 5) (.bin .Mod (.bi .int (.cons (.bin .Add (.bin .Mult (.slot 3) (.int 48271)) (.int 11)) (.nil))) (.int 2147483647))) [some (.ref 0), some (.ref 1), some (.int z), some (.int (if z < 0 then -z else z)), k, m] [.ro (ns.map .int), .lst (ds.map .int), .lst (ns.map .int)] = some (.fl (.nx [some (.ref 0), some (.ref 1), some (.int z), some (.int (if z < 0 then -z else z)), k, some (.int (((if z < 0 then -z else z) * 48271 + 11) % 2147483647))]) [.ro (ns.map .int), .lst (ds.map .int), .lst (ns.map .int)]) := by
            simp [exec, asgS, ev, evs, bns, bnd, binD, mulD, mulOk, addD, okI, biD, int1, gc]
          rw [exec, exec, t, bns_ok, if_neg (by decide), seq_nx a1, seq_nx e2]
          rfl) ⟨[], none, none, none, none, rfl, rfl, by simp⟩
    exact ⟨ds, c, r, k, m, e1⟩
  obtain ⟨ds, c, r, k, m, e1⟩ := loop
  refine ⟨ds, ret1 ?_⟩
  show exec call C (.seq (.asg (.slot 1) (.lst (.nil))) (.seq (.for (.slot 2) (.itr (.sl (.slot 0) (.omit) (.cons (.int 63) .nil))) bDrawsL) (.seq (.ret (.slot 1)) (.nil)))) [some (.ref 0), none, none, none, none, none] [.ro (ns.map .int)] = _
  rw [seq_nx (e := [some (.ref 0), some (.ref 1), none, none, none, none]) (h' := [.ro (ns.map .int), .lst []]) rfl, seq_nx e1]
  rfl
/-! ### calls by the table -/
section
variable {PF : List Fn} {n f : Nat} {fn : Fn} {vs : List D} {h h' g : List O} {d : D}
theorem callF_heap (e : PF[f]? = some fn) (l : vs.length = fn.np) (p : D.pureL vs = false) (r : runB (callF PF C n) C fn vs h = some (.ok d h')) : callF PF C (n + 1) f vs h = some (.ok d (gc h d h')) := by
  rw [callF, e]
  dsimp only
  rw [if_pos l, p, if_neg Bool.false_ne_true, r]
theorem callF_pure (e : PF[f]? = some fn) (l : vs.length = fn.np) (p : D.pureL vs = true) (r : runB (callF PF C n) C fn vs [] = some (.ok d g)) : callF PF C (n + 1) f vs h = some (.ok ((tidy d g).1.shift h.length) (h ++ shiftH h.length (tidy d g).2)) := by
  rw [callF, e]
  dsimp only
  rw [if_pos l, p, if_pos rfl, r]
theorem gc_len (e : h'.length = h.length) : gc h d h' = h' := by
  unfold gc; rw [if_pos e]
theorem beqH_refl : ∀ h : List O, beqH h h = true
  | [] => rfl
  | x :: xs => by
    have : x.beq x = true := by
      cases x with
      | lst a => exact D.beqL_refl a
      | ro a => exact D.beqL_refl a
      | tpl a => exact D.beqL_refl a
      | dct l t a =>
        show (l == l && t == t && D.beqK a a) = true
        rw [beq_self_eq_true, beq_self_eq_true, Bool.true_and, Bool.true_and]
        induction a with
        | nil => rfl
        | cons p r ih => simp [D.beqK, D.beq_refl, ih]
    simp [beqH, this, beqH_refl xs]
theorem gc_pre {t : List O} (p : d.pure = true) : gc h d (h ++ t) = h := by
  unfold gc
  split
  · rename_i e
    have : t = [] := by
      rw [List.length_append] at e
      exact List.length_eq_zero_iff.mp (by omega)
    rw [this, List.append_nil]
  · rw [List.take_left, p, beqH_refl]
    rfl
/-- a value and its objects, looked at -/
def chkR (r : Option (R D)) (d : D) (g : List O) : Bool := match r with
  | some (.ok x h) => x.beq d && beqH h g
  | _ => false
theorem chkR_ok {r : Option (R D)} (e : chkR r d g = true) : r = some (.ok d g) := by
  unfold chkR at e
  split at e
  · rename_i x h
    simp only [Bool.and_eq_true] at e
    rw [D.beq_eq _ _ e.1, beqH_eq _ _ e.2]
  · cases e
end
theorem one_call {PF : List Fn} {o t m n : Nat} (i1 : PF[o]? = some ⟨3, 3, bOne t⟩) (i2 : PF[t]? = some ⟨3, 4, bTake m⟩) (i3 : PF[m]? = some ⟨2, 4, bMore⟩) {h : List O} {a b c : Nat} {ds : List Int} {xs : List D} {p : Int} (hab : a ≠ b) (hcb : c ≠ b)
    (hd : h[a]? = some (.lst (ds.map .int))) (hb : h[b]? = some (.lst [.int p])) (hp : 0 ≤ p) (hc : rdLst h c = some xs) (hne : xs ≠ []) :
    ∃ d ∈ xs, callF PF C (n + 3) o [.ref c, .ref a, .ref b] h = some (.ok d (h.set b (.lst [.int (p + 1)]))) := by
  have more : ∀ (h : List O) (p : Int), rdLst h a = some (ds.map .int) → ∃ z : Int, callF PF C (n + 1) m [.ref a, .int p] h = some (.ok (.int z) h) := fun h p rd => by
    obtain ⟨z, e⟩ := more_ok (call := callF PF C n) (C := C) (p := p) rd
    exact ⟨z, by rw [callF_heap i3 rfl rfl e, gc_len rfl]⟩
  have take : ∀ many : Int, 0 < many → ∃ r : Int, 0 ≤ r ∧ r < many ∧ callF PF C (n + 2) t [.ref a, .ref b, .int many] h = some (.ok (.int r) (h.set b (.lst [.int (p + 1)]))) := fun many hm => by
    obtain ⟨r, r0, r1, e⟩ := take_ok (call := callF PF C (n + 1)) (C := C) hab hd hb hp hm more
    exact ⟨r, r0, r1, by rw [callF_heap i2 rfl rfl e, gc_len (by simp)]⟩
  obtain ⟨d, dm, e⟩ := one_ok (call := callF PF C (n + 2)) (C := C) (a := a) hc hcb hne take
  exact ⟨d, dm, by rw [callF_heap i1 rfl rfl e, gc_len (by simp)]⟩
theorem draws_call {PF : List Fn} {o n : Nat} (i : PF[o]? = some ⟨1, 6, bDraws⟩) (ns : List Int) (hl : ns.length ≤ 63) : ∃ ds : List Int, callF PF C (n + 1) o [.ref 0] [.ro (ns.map .int)] = some (.ok (.ref 1) [.ro (ns.map .int), .lst (ds.map .int), .lst (ns.map .int)]) := by
  obtain ⟨ds, e⟩ := draws_ok (call := callF PF C n) (C := C) ns hl
  exact ⟨ds, by rw [callF_heap i rfl rfl e]; rfl⟩
end
end Mini
end

section
/-! Mini: lemmas for walks that all laws use (own work). -/
namespace Mini
open PySem

/-! ### calls -/
section
variable {PF : List Fn} {C : List Cl} {n f : Nat} {fn : Fn} {vs : List D} {h h' g t : List O} {d : D}
theorem shiftH_nil (k : Nat) : shiftH k [] = [] := rfl
/-- a call of pure arguments with a pure end -/
theorem pcall (e : PF[f]? = some fn) (l : vs.length = fn.np) (p : D.pureL vs = true) (r : runB (callF PF C n) C fn vs [] = some (.ok d g)) (dp : d.pure = true) : callF PF C (n + 1) f vs h = some (.ok d h) := by
  rw [callF_pure e l p r]
  unfold tidy
  rw [if_pos dp, shiftH_nil, List.append_nil, RV.pure_shift d dp]
/-- .. that raises -/
theorem pexc {c : Nat} {fs : List D} (e : PF[f]? = some fn) (l : vs.length = fn.np) (p : D.pureL vs = true) (r : runB (callF PF C n) C fn vs [] = some (.exc c fs g)) (fp : D.pureL fs = true) : callF PF C (n + 1) f vs h = some (.exc c fs h) := by
  rw [callF, e]
  dsimp only
  rw [if_pos l, p, if_pos rfl, r]
  dsimp only
  rw [if_pos fp]
/-- .. with a new object for its end -/
theorem pobj {o : O} {m : Nat} (e : PF[f]? = some fn) (l : vs.length = fn.np) (p : D.pureL vs = true) (r : runB (callF PF C n) C fn vs [] = some (.ok (.ref m) g)) (eo : g[m]? = some o) (po : o.pure = true) : callF PF C (n + 1) f vs h = some (.ok (.ref h.length) (h ++ [o])) := by
  rw [callF_pure e l p r]
  unfold tidy
  rw [if_neg (by simp [D.pure])]
  dsimp only
  rw [eo]
  dsimp only
  rw [if_pos po]
  have so : o.shift h.length = o := by
    have key : ∀ xs : List D, D.pureL xs = true → D.shiftL h.length xs = xs := by
      intro xs
      induction xs with
      | nil => intro _; rfl
      | cons x xs ih =>
        intro hp
        have hp' : x.pure = true ∧ D.pureL xs = true := by simpa [D.pureL] using hp
        rw [D.shiftL, RV.pure_shift x hp'.1, ih hp'.2]
    cases o with
    | lst xs => show O.lst (D.shiftL h.length xs) = _; rw [key xs po]
    | ro xs => cases po
    | tpl xs => show O.tpl (D.shiftL h.length xs) = _; rw [key xs po]
    | dct lk t kvs =>
      show O.dct lk t (D.shiftK h.length kvs) = _
      have hp2 : lk = false ∧ (kvs.all fun p => p.1.pure && p.2.pure) = true := by simpa [O.pure] using po
      congr 1
      have h2 := hp2.2
      clear eo po hp2
      induction kvs with
      | nil => rfl
      | cons p l ih =>
        simp only [List.all_cons, Bool.and_eq_true] at h2
        rw [D.shiftK, RV.pure_shift _ h2.1.1, RV.pure_shift _ h2.1.2, ih h2.2]
  show some (R.ok (D.ref (0 + h.length)) (h ++ [o.shift h.length])) = _
  rw [so, Nat.zero_add]
/-- a call with objects for arguments, a pure end, nothing changed but what is new -/
theorem hcall (e : PF[f]? = some fn) (l : vs.length = fn.np) (p : D.pureL vs = false) (r : runB (callF PF C n) C fn vs h = some (.ok d (h ++ t))) (dp : d.pure = true) : callF PF C (n + 1) f vs h = some (.ok d h) := by
  rw [callF_heap e l p r, gc_pre dp]
/-- .. whose end is an object -/
theorem hobj {m : Nat} (e : PF[f]? = some fn) (l : vs.length = fn.np) (p : D.pureL vs = false) (r : runB (callF PF C n) C fn vs h = some (.ok (.ref m) h')) : callF PF C (n + 1) f vs h = some (.ok (.ref m) h') := by
  rw [callF_heap e l p r]
  unfold gc
  simp [D.pure]
end
@[simp] theorem gc_ref {h h' : List O} {n : Nat} : gc h (.ref n) h' = h' := by
  unfold gc
  simp [D.pure]
@[simp] theorem gc_self {h : List O} {d : D} : gc h d h = h := gc_len rfl

/-! ### statements -/
section
variable {call : Caller} {C : List Cl}
theorem ret_ret {f : Fn} {vs : List D} {h h' : List O} {d : D} (e : exec call C f.body (startD f.nl vs) h = some (.fl (.rt d) h')) : runB call C f vs h = some (.ok d h') := ret1 e
theorem ret_exc {f : Fn} {vs : List D} {h h' : List O} {c : Nat} {fs : List D} {env : Env} (e : exec call C f.body (startD f.nl vs) h = some (.exc c fs env h')) : runB call C f vs h = some (.exc c fs h') := by
  unfold runB; rw [e]
theorem ret_nx {f : Fn} {vs : List D} {h h' : List O} {env : Env} (e : exec call C f.body (startD f.nl vs) h = some (.fl (.nx env) h')) : runB call C f vs h = some (.ok .non h') := by
  unfold runB; rw [e]
theorem seq_rt {a b : S} {env : Env} {h h' : List O} {d : D} (x : exec call C a env h = some (.fl (.rt d) h')) : exec call C (.seq a b) env h = some (.fl (.rt d) h') := by
  show (match exec call C a env h with | some (.fl (.nx e) h') => exec call C b e h' | r => r) = _
  rw [x]
theorem seq_exc {a b : S} {env e : Env} {h h' : List O} {c : Nat} {fs : List D} (x : exec call C a env h = some (.exc c fs e h')) : exec call C (.seq a b) env h = some (.exc c fs e h') := by
  show (match exec call C a env h with | some (.fl (.nx e) h') => exec call C b e h' | r => r) = _
  rw [x]
theorem ite_t {c : E} {a b : S} {env : Env} {h h' : List O} (x : evt call c env h = some (.ok true h')) : exec call C (.ite c a b) env h = exec call C a env h' := by
  show bns (evt call c env h) env _ = _
  rw [x, bns_ok, if_pos rfl]
theorem ite_f {c : E} {a b : S} {env : Env} {h h' : List O} (x : evt call c env h = some (.ok false h')) : exec call C (.ite c a b) env h = exec call C b env h' := by
  show bns (evt call c env h) env _ = _
  rw [x, bns_ok, if_neg (by decide)]
theorem ret_ok {e : E} {env : Env} {h h' : List O} {d : D} (x : ev call e env h = some (.ok d h')) : exec call C (.ret e) env h = some (.fl (.rt d) h') := by
  show bns (ev call e env h) env _ = _
  rw [x]; rfl
theorem asg_ok {i : Nat} {e : E} {env : Env} {h h' : List O} {d : D} (x : ev call e env h = some (.ok d h')) (hi : i < env.length) : exec call C (.asg (.slot i) e) env h = some (.fl (.nx (env.set i (some d))) h') := by
  show bns (ev call e env h) env _ = _
  rw [x, bns_ok]
  show (match asgS call (.slot i) d env h' with | some (env', h2) => some (RS.fl (.nx env') h2) | none => none) = _
  have : asgS call (.slot i) d env h' = some (env.set i (some d), h') := by
    show (if i < env.length then some (env.set i (some d), h') else none) = _
    rw [if_pos hi]
  rw [this]
theorem nil_ok {env : Env} {h : List O} : exec call C .nil env h = some (.fl (.nx env) h) := rfl
end

/-! ### loops -/
theorem for_ind {src : Src} {f : D → Env → List O → Option RS} {xs : List D} (P : Nat → Env → List O → Prop) (hc : ∀ i env h, P i env h → chk src h = true)
    (st : ∀ i x env h, xs[i]? = some x → P i env h → ∃ e h', f x env h = some (.fl (.nx e) h') ∧ P (i + 1) e h') {env : Env} {h : List O} (p0 : P 0 env h) : ∃ e h', forGo src f xs env h = some (.fl (.nx e) h') ∧ P xs.length e h' := by
  have key : ∀ (m i : Nat) (env : Env) (h : List O), i + m = xs.length → P i env h → ∃ e h', forGo src f (xs.drop i) env h = some (.fl (.nx e) h') ∧ P xs.length e h' := by
    intro m
    induction m with
    | zero =>
      intro i env h hi p
      have : i = xs.length := by omega
      subst this
      rw [List.drop_length]
      exact ⟨env, h, for_nil (hc _ _ _ p), p⟩
    | succ m ih =>
      intro i env h hi p
      have hl : i < xs.length := by omega
      rw [List.drop_eq_getElem_cons hl]
      obtain ⟨e, h', e1, p1⟩ := st i _ env h (List.getElem?_eq_getElem hl) p
      rw [for_cons (hc _ _ _ p) e1]
      exact ih (i + 1) e h' (by omega) p1
  have := key xs.length 0 env h (by omega) p0
  simpa using this
/-- a fold over encoded items -/
theorem for_fold {α σ : Type} {src : Src} {f : D → Env → List O → Option RS} (enc : α → D) (E : σ → Env) (Hh : σ → List O) (step : σ → α → σ) (hc : ∀ s, chk src (Hh s) = true) : ∀ (xs : List α) (s : σ),
    (∀ x ∈ xs, ∀ s, f (enc x) (E s) (Hh s) = some (.fl (.nx (E (step s x))) (Hh (step s x)))) → forGo src f (xs.map enc) (E s) (Hh s) = some (.fl (.nx (E (xs.foldl step s))) (Hh (xs.foldl step s)))
  | [], s, _ => for_nil (hc s)
  | x :: xs, s, st => by
    rw [List.map_cons, for_cons (hc s) (st x List.mem_cons_self s)]
    exact for_fold enc E Hh step hc xs (step s x) fun y m => st y (List.mem_cons_of_mem _ m)
/-- a comprehension whose turns leave the heap -/
theorem lc_fm {src : Src} {f : D → List O → Option (R (Option D))} {h : List O} (g : D → Option D) (hc : chk src h = true) : ∀ (xs acc : List D), acc.length + xs.length ≤ lim → (∀ x ∈ xs, f x h = some (.ok (g x) h)) → lcGo src f xs acc h = some (.ok (acc ++ xs.filterMap g) h)
  | [], acc, _, _ => by rw [lc_nil hc]; simp
  | x :: xs, acc, hl, st => by
    rw [List.length_cons] at hl
    have e := st x List.mem_cons_self
    cases q : g x with
    | none =>
      rw [q] at e
      rw [lc_none hc e, lc_fm g hc xs acc (by omega) fun y m => st y (List.mem_cons_of_mem _ m), List.filterMap_cons_none q]
    | some y =>
      rw [q] at e
      rw [lc_some hc e (by omega), lc_fm g hc xs (acc ++ [y]) (by simp; omega) fun y m => st y (List.mem_cons_of_mem _ m), List.filterMap_cons_some q, List.append_assoc]
      rfl
/-- .. over encoded items -/
theorem lc_fmE {α : Type} {src : Src} {f : D → List O → Option (R (Option D))} {h : List O} (enc : α → D) (g : α → Option D) (hc : chk src h = true) : ∀ (ys : List α) (acc : List D), acc.length + ys.length ≤ lim → (∀ y ∈ ys, f (enc y) h = some (.ok (g y) h)) → lcGo src f (ys.map enc) acc h = some (.ok (acc ++ ys.filterMap g) h)
  | [], acc, _, _ => by rw [List.map_nil, lc_nil hc]; simp
  | x :: xs, acc, hl, st => by
    rw [List.length_cons] at hl
    rw [List.map_cons]
    have e := st x List.mem_cons_self
    cases q : g x with
    | none =>
      rw [q] at e
      rw [lc_none hc e, lc_fmE enc g hc xs acc (by omega) fun y m => st y (List.mem_cons_of_mem _ m), List.filterMap_cons_none q]
    | some y =>
      rw [q] at e
      rw [lc_some hc e (by omega), lc_fmE enc g hc xs (acc ++ [y]) (by simp; omega) fun y m => st y (List.mem_cons_of_mem _ m), List.filterMap_cons_some q, List.append_assoc]
      rfl
theorem lc_mapD {src : Src} {f : D → List O → Option (R (Option D))} {h : List O} (g : D → D) (hc : chk src h = true) (xs : List D) (hl : xs.length ≤ lim) (st : ∀ x ∈ xs, f x h = some (.ok (some (g x)) h)) : lcGo src f xs [] h = some (.ok (xs.map g) h) := by
  rw [lc_fm (fun x => some (g x)) hc xs [] (by simpa using hl) st]
  simp
theorem lc_ev {call : Caller} {own : List Nat} {tg it c elt : E} {env : Env} {h h1 h2 : List O} {p : List D × Src} {ys : List D} (x : evi call it env h = some (.ok p h1)) (y : lcGo p.2 (lcT call own tg c elt env) p.1 [] h1 = some (.ok ys h2)) : ev call (.lc own tg it c elt) env h = some (.ok (.ref h2.length) (h2 ++ [.lst ys])) := lc_is x y

/-! ### the heap's end -/
theorem get_end {h : List O} {o : O} : (h ++ [o])[h.length]? = some o := by simp
theorem rd_end {h : List O} {xs : List D} : rdLst (h ++ [.lst xs]) h.length = some xs := by unfold rdLst; rw [get_end]
theorem is_end {h : List O} {xs : List D} : isLst (h ++ [.lst xs]) h.length = some xs := by unfold isLst; rw [get_end]
theorem rdD_end {h : List O} {t : Bool} {kvs : List (D × D)} {lk : Bool} : rdDct (h ++ [.dct lk t kvs]) h.length = some (t, kvs) := by unfold rdDct; rw [get_end]
theorem rd_app {h t : List O} {n : Nat} {xs : List D} (e : rdLst h n = some xs) : rdLst (h ++ t) n = some xs := by
  have hn : n < h.length := by
    unfold rdLst at e
    by_cases q : n < h.length
    · exact q
    · rw [List.getElem?_eq_none (by omega)] at e; cases e
  unfold rdLst at e ⊢
  rw [List.getElem?_append_left hn]; exact e
theorem pyD_p {h : List O} {d : D} (hp : d.pure = true) : pyD h d = some (pyP d) := by
  unfold pyD pyF
  rw [if_pos hp]
theorem mapO_p {h : List O} {n : Nat} : ∀ {xs : List D}, D.pureL xs = true → mapO (pyF n h) xs = some (pyPL xs)
  | [], _ => rfl
  | x :: xs, hp => by
    have h' : x.pure = true ∧ D.pureL xs = true := by simpa [D.pureL] using hp
    have e : pyF n h x = some (pyP x) := by
      cases n <;> (unfold pyF; rw [if_pos h'.1])
    rw [mapO, e]
    dsimp only
    rw [mapO_p h'.2]
    rfl
theorem pyD_l {h : List O} {n : Nat} {xs : List D} (e : rdLst h n = some xs) (hp : D.pureL xs = true) : pyD h (.ref n) = some (.list (pyPL xs)) := by
  unfold pyD pyF
  rw [if_neg (by simp [D.pure])]
  dsimp only
  rw [e]
  dsimp only
  rw [mapO_p hp]
  rfl

/-! ### ints -/
theorem eqv_int (i j : Int) : PyData.eqv (.int i) (.int j) = (i == j) := by simp [PyData.eqv]
theorem eqD_int (h : List O) (i j : Int) : eqD h (.int i) (.int j) = some (i == j) := by
  have s : ∀ i : Int, SeqAt.shaped (pyP (.int i)) = true := fun i => rfl
  unfold eqD
  rw [pyD_p (d := .int i) rfl, pyD_p (d := .int j) rfl]
  dsimp only
  rw [s, s]
  simp [pyP, eqv_int]
theorem cmp_eqi (h : List O) (i j : Int) : cmpD .Eq (.int i) (.int j) h = some (i == j) := by
  have : cmpD .Eq (.int i) (.int j) h = eqD h (.int i) (.int j) := rfl
  rw [this, eqD_int]
theorem cmp_ne {h : List O} {a b : D} : cmpD .NotEq a b h = (eqD h a b).map (!·) := by cases a <;> cases b <;> rfl
theorem cmp_eq {h : List O} {a b : D} : cmpD .Eq a b h = eqD h a b := by cases a <;> cases b <;> rfl
theorem cmp_nei (h : List O) (i j : Int) : cmpD .NotEq (.int i) (.int j) h = some (!(i == j)) := by
  rw [cmp_ne, eqD_int]; rfl
theorem eqv_refl : ∀ x : D, PyData.eqv (pyP x) (pyP x) = true := by
  intro x
  exact D.rec (motive_1 := fun x => PyData.eqv (pyP x) (pyP x) = true) (motive_2 := fun xs => PyData.eqvAll (pyPL xs) (pyPL xs) = true) (by simp [pyP, PyData.eqv]) (fun b => by simp [pyP, PyData.eqv]) (fun i => by simp [pyP, PyData.eqv]) (fun s => by simp [pyP, PyData.eqv]) (fun xs ih => by simpa [pyP, PyData.eqv] using ih) (fun n => by simp [pyP, PyData.eqv]) (by simp [pyPL, PyData.eqvAll]) (fun x xs h1 h2 => by simp [pyPL, PyData.eqvAll, h1, h2]) x
/-- x == x of pure data that are shaped -/
theorem eqD_self {h : List O} {d : D} (hp : d.pure = true) (hs : SeqAt.shaped (pyP d) = true) : eqD h d d = some true := by
  unfold eqD
  rw [pyD_p hp]
  dsimp only
  rw [hs, eqv_refl]; rfl
/-! ### dicts in the heap -/
section
variable {h : List O} {m : Nat} {t : Bool} {kvs : List (D × D)} {k d : D}
theorem no_lst (e : rdDct h m = some (t, kvs)) : rdLst h m = none := by
  unfold rdDct at e
  unfold rdLst
  split at e
  · rename_i q; rw [q]
  · cases e
theorem ix_dct (e : rdDct h m = some (t, kvs)) (hk : okK t k = true) (g : dGet kvs k = some d) : ixG (.ref m) k h = some (.ok d h) := by
  have q : ixG (.ref m) k h = ixK (.ref m) k h := by
    unfold ixG
    show (match rdLst h m, k with | some xs, .int i => _ | _, _ => _) = _
    rw [no_lst e]
  rw [q]
  unfold ixK
  dsimp only
  rw [e]
  dsimp only
  rw [if_pos hk, g]
theorem get_dct (e : rdDct h m = some (t, kvs)) (hk : okK t k = true) (x : D) : get1 (.ref m) [k, x] h = some (.ok ((dGet kvs k).getD x) h) := by
  unfold get1
  dsimp only
  rw [e]
  dsimp only
  rw [if_pos hk]
theorem rdD_app {g : List O} (e : rdDct h m = some (t, kvs)) : rdDct (h ++ g) m = some (t, kvs) := by
  have hn : m < h.length := by
    unfold rdDct at e
    by_cases q : m < h.length
    · exact q
    · rw [List.getElem?_eq_none (by omega)] at e; cases e
  unfold rdDct at e ⊢
  rw [List.getElem?_append_left hn]; exact e
end
section
variable {call : Caller} {b : Bi} {e : E} {env : Env} {h t g : List O} {x d : D}
/-- a built-in function of one value: a pure end -/
theorem bi_one (p : ev call e env h = some (.ok x (h ++ t))) (q : biD b [x] (h ++ t) = some (.ok d (h ++ t ++ g))) (dp : d.pure = true) : ev call (.bi b (.cons e .nil)) env h = some (.ok d h) := by
  show bnd (evs call (.cons e .nil) env h) _ = _
  rw [show evs call (.cons e .nil) env h = some (.ok [x] (h ++ t)) from by
    show bnd (ev call e env h) _ = _
    rw [p]; rfl, bnd_ok, q, bnd_ok, List.append_assoc, gc_pre dp]
theorem bi_tup {k : Nat} {xs : List D} (p : ev call e env h = some (.ok (.ref k) (h ++ t))) (r : rdLst (h ++ t) k = some xs) (xp : D.pureL xs = true) : ev call (.bi .tuple (.cons e .nil)) env h = some (.ok (.tup xs) h) := by
  refine bi_one (g := []) p ?_ (by simpa [D.pure] using xp)
  show tuple1 [.ref k] (h ++ t) = _
  unfold tuple1
  dsimp only
  rw [r, List.append_nil]
end
theorem lock_ok {call : Caller} {C : List Cl} {i n : Nat} {b : S} {env : Env} {h h' : List O} {t t' : Bool} {kvs kvs' : List (D × D)} {f : Fl} (en : env[i]? = some (some (.ref n))) (eh : h[n]? = some (.dct false t kvs)) (e : exec call C b env (setH h n (.dct true t kvs)) = some (.fl f h')) (e' : h'[n]? = some (.dct true t' kvs')) :
    exec call C (.lock i b) env h = some (.fl f (setH h' n (.dct false t' kvs'))) := by
  have q : exec call C (.lock i b) env h = unlk n (exec call C b env (setH h n (.dct true t kvs))) := by
    rw [exec, en]
    dsimp only
    rw [eh]
  rw [q, e]
  unfold unlk
  dsimp only
  rw [e']
/-- a dict comprehension's turn -/
def dcT (call : Caller) (own : List Nat) (tg c k v : E) (env : Env) : D → List O → Option (R (Option (D × D))) := fun x h => match asgT tg x (wipeD env own) with
  | some env2 => bnd (evt call c env2 h) fun b h2 => if b then bnd (ev call k env2 h2) fun y h3 => bnd (ev call v env2 h3) fun z h4 => some (.ok (some (y, z)) h4) else some (.ok none h2)
  | none => none
theorem dc_ev {call : Caller} {own : List Nat} {tb : Bool} {tg it c k v : E} {env : Env} {h h1 h2 : List O} {p : List D × Src} {ys : List (D × D)} (x : evi call it env h = some (.ok p h1))
    (y : dcGo p.2 tb (dcT call own tg c k v env) p.1 [] h1 = some (.ok ys h2)) : ev call (.dc own tb tg it c k v) env h = some (.ok (.ref h2.length) (h2 ++ [.dct false tb ys])) := by
  show bnd (evi call it env h) _ = _
  rw [x, bnd_ok]
  show bnd (dcGo p.2 tb (dcT call own tg c k v env) p.1 [] h1) _ = _
  rw [y]
  rfl
/-! ### tests and expressions, put together -/
section
variable {call : Caller} {x y z : E} {env : Env} {h h1 h2 h3 : List O} {b c : Bool} {d d1 d2 : D} {vs : List D} {r : Option (R D)}
theorem t_or_f (a : evt call x env h = some (.ok false h1)) : evt call (.or x y) env h = evt call y env h1 := by
  show bnd (evt call x env h) _ = _
  rw [a, bnd_ok, if_neg (by decide)]
theorem t_or_t (a : evt call x env h = some (.ok true h1)) : evt call (.or x y) env h = some (.ok true h1) := by
  show bnd (evt call x env h) _ = _
  rw [a, bnd_ok, if_pos rfl]
theorem t_and_f (a : evt call x env h = some (.ok false h1)) : evt call (.and x y) env h = some (.ok false h1) := by
  show bnd (evt call x env h) _ = _
  rw [a, bnd_ok, if_neg (by decide)]
theorem t_and_t (a : evt call x env h = some (.ok true h1)) : evt call (.and x y) env h = evt call y env h1 := by
  show bnd (evt call x env h) _ = _
  rw [a, bnd_ok, if_pos rfl]
theorem t_nt (a : evt call x env h = some (.ok b h1)) : evt call (.nt x) env h = some (.ok (!b) h1) := by
  show bnd (evt call x env h) _ = _
  rw [a, bnd_ok]
theorem t_val (a : ev call x env h = some (.ok d h1)) (t : truth h1 d = some b) : evt call (.tru x) env h = some (.ok b h1) := by
  show bnd (ev call x env h) _ = _
  rw [a, bnd_ok, t]
theorem t_bl (a : ev call x env h = some (.ok (.bl b) h1)) : evt call (.tru x) env h = some (.ok b h1) := t_val a rfl
theorem e_cmp {op : PySem.CmpOp} (a : ev call x env h = some (.ok d1 h1)) (e : ev call y env h1 = some (.ok d2 h2)) (q : cmpD op d1 d2 h2 = some c) : ev call (.cmp op x y) env h = some (.ok (.bl c) (gc h (.bl c) h2)) := by
  show bnd (ev call x env h) _ = _
  rw [a, bnd_ok, e, bnd_ok, q]
  rfl
/-- .. that leaves the heap -/
theorem e_cmp0 {op : PySem.CmpOp} (a : ev call x env h = some (.ok d1 h)) (e : ev call y env h = some (.ok d2 h)) (q : cmpD op d1 d2 h = some c) : ev call (.cmp op x y) env h = some (.ok (.bl c) h) := by
  rw [e_cmp a e q, gc_self]
theorem e_isi {t : Ty} (a : ev call x env h = some (.ok d h1)) (q : isiD h1 t d = some b) : ev call (.isi x t) env h = some (.ok (.bl b) h1) := by
  show bnd (ev call x env h) _ = _
  rw [a, bnd_ok, q]
  rfl
theorem e_bin {op : PySem.Operator} (a : ev call x env h = some (.ok d1 h1)) (e : ev call y env h1 = some (.ok d2 h2)) (q : binD op d1 d2 h2 = r) : ev call (.bin op x y) env h = r := by
  show bnd (ev call x env h) _ = _
  rw [a, bnd_ok, e, bnd_ok, q]
theorem e_ix (a : ev call x env h = some (.ok d1 h1)) (e : ev call y env h1 = some (.ok d2 h2)) (q : ixG d1 d2 h2 = r) : ev call (.ix x y) env h = r := by
  show bnd (ev call x env h) _ = _
  rw [a, bnd_ok, e, bnd_ok, q]
theorem e_slot {i : Nat} (e : env[i]? = some (some d)) : ev call (.slot i) env h = some (.ok d h) := by rw [ev, e]
theorem e_call {f : Nat} {ds : List D} (a : evs call x env h = some (.ok vs h1)) (q : call f (vs ++ ds) h1 = r) : ev call (.call f x ds) env h = r := by
  show bnd (evs call x env h) _ = _
  rw [a, bnd_ok, q]
theorem s_nil : evs call .nil env h = some (.ok [] h) := rfl
theorem s_cons (a : ev call x env h = some (.ok d h1)) (e : evs call y env h1 = some (.ok vs h2)) : evs call (.cons x y) env h = some (.ok (d :: vs) h2) := by
  show bnd (ev call x env h) _ = _
  rw [a, bnd_ok, e, bnd_ok]
theorem s_one (a : ev call x env h = some (.ok d h1)) : evs call (.cons x .nil) env h = some (.ok [d] h1) := s_cons a s_nil
theorem s_two (a : ev call x env h = some (.ok d1 h1)) (e : ev call y env h1 = some (.ok d2 h2)) : evs call (.cons x (.cons y .nil)) env h = some (.ok [d1, d2] h2) := s_cons a (s_one e)
theorem e_ifx_t {k : E} (a : evt call k env h = some (.ok true h1)) : ev call (.ifx k x y) env h = ev call x env h1 := by
  show bnd (evt call k env h) _ = _
  rw [a, bnd_ok, if_pos rfl]
theorem e_ifx_f {k : E} (a : evt call k env h = some (.ok false h1)) : ev call (.ifx k x y) env h = ev call y env h1 := by
  show bnd (evt call k env h) _ = _
  rw [a, bnd_ok, if_neg (by decide)]
theorem e_lst (a : evs call x env h = some (.ok vs h1)) (l : vs.length ≤ lim) : ev call (.lst x) env h = some (.ok (.ref h1.length) (h1 ++ [.lst vs])) := by
  show bnd (evs call x env h) _ = _
  rw [a, bnd_ok, if_pos l]
  rfl
theorem e_tup (a : evs call x env h = some (.ok vs h1)) (l : vs.length ≤ lim) : ev call (.tup x) env h = some (.ok (.tup vs) h1) := by
  show bnd (evs call x env h) _ = _
  rw [a, bnd_ok, if_pos l]
end
theorem lim9 {n : Nat} (h : n ≤ 1000000) : n ≤ lim := Nat.le_trans h (by decide)
theorem lim9' {n : Nat} (h : n ≤ 1000000) : n < lim := Nat.lt_of_le_of_lt h (by decide)
end Mini
end

section
/-! Mini: dicts as assoc lists, sorting by a key (own work). -/
namespace Mini
open PySem

section
variable {κ : Type} [DecidableEq κ] (f : κ → D)
/-- an assoc list as a dict's entries -/
def encA (a : List (κ × Int)) : List (D × D) := a.map fun p => (f p.1, .int p.2)
def aget (a : List (κ × Int)) (k : κ) : Option Int := (a.find? fun p => decide (p.1 = k)).map (·.2)
def get0 (a : List (κ × Int)) (k : κ) : Int := (aget a k).getD 0
def aput (a : List (κ × Int)) (k : κ) (v : Int) : List (κ × Int) := if a.any (fun p => decide (p.1 = k)) then a.map (fun p => if p.1 = k then (p.1, v) else p) else a ++ [(k, v)]
def add1 (a : List (κ × Int)) (k : κ) (v : Int) : List (κ × Int) := aput a k (get0 a k + v)
variable {f}
theorem dGet_encA (inj : ∀ a b, f a = f b → a = b) (k : κ) : ∀ a : List (κ × Int), dGet (encA f a) (f k) = (aget a k).map .int
  | [] => rfl
  | p :: a => by
    have ih := dGet_encA inj k a
    unfold encA at ih ⊢
    rw [List.map_cons]
    by_cases e : p.1 = k
    · rw [dGet_pos (by rw [e])]
      simp [aget, e]
    · rw [dGet_neg (fun z => e (inj _ _ z)), ih]
      simp [aget, e]
theorem dPut_encA (inj : ∀ a b, f a = f b → a = b) (k : κ) (v : Int) (a : List (κ × Int)) : dPut (encA f a) (f k) (.int v) = encA f (aput a k v) := by
  have b : ∀ p : κ × Int, (f p.1).beq (f k) = decide (p.1 = k) := fun p => by
    rw [Bool.eq_iff_iff, decide_eq_true_eq, beq_iff]
    exact ⟨fun e => inj _ _ e, fun e => by rw [e]⟩
  have an : (encA f a).any (fun p => p.1.beq (f k)) = a.any (fun p => decide (p.1 = k)) := by
    unfold encA
    rw [List.any_map]
    congr 1
    funext p
    exact b p
  unfold dPut aput
  rw [an]
  split
  · unfold encA
    rw [List.map_map, List.map_map]
    refine List.map_congr_left fun p _ => ?_
    show (if (f p.1).beq (f k) = true then (f p.1, D.int v) else (f p.1, D.int p.2)) = _
    rw [b]
    by_cases e : p.1 = k
    · rw [if_pos (by simpa using e)]; simp [e]
    · rw [if_neg (by simpa using e)]; simp [e]
  · simp [encA]
theorem aget_aput (a : List (κ × Int)) (k j : κ) (v : Int) : aget (aput a k v) j = if j = k then some v else aget a j := by
  unfold aput
  by_cases h : (a.any fun p => decide (p.1 = k)) = true
  · rw [if_pos h]
    induction a with
    | nil => cases h
    | cons p a ih =>
      rw [List.map_cons]
      by_cases e : p.1 = k
      · rw [if_pos e]
        by_cases q : j = k
        · simp [aget, e, q]
        · have : ¬ p.1 = j := fun z => q (by rw [← z, e])
          have q' : ¬ k = j := fun z => q z.symm
          simp only [aget, List.find?_cons, e, q', decide_false]
          rw [if_neg q]
          by_cases r : (a.any fun p => decide (p.1 = k)) = true
          · have := ih r
            rw [if_neg q] at this
            exact this
          · have id : (a.map fun p => if p.1 = k then (p.1, v) else p) = a := by
              refine (List.map_congr_left fun p hp => ?_).trans (List.map_id a)
              have : ¬ p.1 = k := fun z => r (List.any_eq_true.mpr ⟨p, hp, by simpa using z⟩)
              rw [if_neg this]; rfl
            rw [id]
      · rw [if_neg e]
        have r : (a.any fun p => decide (p.1 = k)) = true := by simpa [e] using h
        have := ih r
        by_cases z : p.1 = j
        · have q : ¬ j = k := fun w => e (z.trans w)
          simp [aget, z, q]
        · simp only [aget, List.find?_cons, z, decide_false] at this ⊢
          exact this
  · rw [if_neg h]
    have none' : aget a k = none := by
      unfold aget
      rw [List.find?_eq_none.mpr]
      · rfl
      · intro p hp z
        exact h (List.any_eq_true.mpr ⟨p, hp, z⟩)
    unfold aget at none' ⊢
    rw [List.find?_append]
    by_cases q : j = k
    · subst q
      rw [if_pos rfl]
      cases r : a.find? fun p => decide (p.1 = j) with
      | none => simp
      | some p => rw [r] at none'; cases none'
    · rw [if_neg q]
      have : ¬ k = j := fun z => q z.symm
      cases r : a.find? fun p => decide (p.1 = j) with
      | none => simp [this]
      | some p => simp
theorem get0_aput (a : List (κ × Int)) (k j : κ) (v : Int) : get0 (aput a k v) j = if j = k then v else get0 a j := by
  unfold get0
  rw [aget_aput]
  split <;> rfl
theorem get0_add1 (a : List (κ × Int)) (k j : κ) (v : Int) : get0 (add1 a k v) j = get0 a j + if j = k then v else 0 := by
  unfold add1
  rw [get0_aput]
  split
  · rename_i e; rw [e]
  · omega
theorem aput_keys (a : List (κ × Int)) (k : κ) (v : Int) : (aput a k v).map (·.1) = if k ∈ a.map (·.1) then a.map (·.1) else a.map (·.1) ++ [k] := by
  unfold aput
  by_cases h : (a.any fun p => decide (p.1 = k)) = true
  · have m : k ∈ a.map (·.1) := by
      obtain ⟨p, hp, e⟩ := List.any_eq_true.mp h
      exact List.mem_map.mpr ⟨p, hp, by simpa using e⟩
    rw [if_pos h, if_pos m, List.map_map]
    refine List.map_congr_left fun p _ => ?_
    show (if p.1 = k then (p.1, v) else p).1 = p.1
    split <;> rfl
  · have m : ¬ k ∈ a.map (·.1) := fun z => by
      obtain ⟨p, hp, e⟩ := List.mem_map.mp z
      exact h (List.any_eq_true.mpr ⟨p, hp, by simpa using e⟩)
    rw [if_neg h, if_neg m]; simp
theorem aput_nodup {a : List (κ × Int)} (h : (a.map (·.1)).Nodup) (k : κ) (v : Int) : ((aput a k v).map (·.1)).Nodup := by
  rw [aput_keys]
  split
  · exact h
  · rename_i m
    exact List.nodup_append.mpr ⟨h, by simp, fun x hx y hy e => by
      have : y = k := by simpa using hy
      exact m (by rw [← this, ← e]; exact hx)⟩
theorem aput_len (a : List (κ × Int)) (k : κ) (v : Int) : (aput a k v).length ≤ a.length + 1 := by
  have := congrArg List.length (aput_keys a k v)
  rw [List.length_map] at this
  rw [this]
  split <;> simp
theorem aput_mem (a : List (κ × Int)) (k j : κ) (v : Int) : j ∈ (aput a k v).map (·.1) ↔ j ∈ a.map (·.1) ∨ j = k := by
  rw [aput_keys]
  split
  · rename_i m
    exact ⟨.inl, fun h => h.elim id fun e => e ▸ m⟩
  · simp
theorem aget_mem {a : List (κ × Int)} {k : κ} (m : k ∈ a.map (·.1)) : ∃ v, aget a k = some v := by
  obtain ⟨p, hp, e⟩ := List.mem_map.mp m
  unfold aget
  cases q : a.find? fun p => decide (p.1 = k) with
  | none =>
    have := List.find?_eq_none.mp q p hp
    simp [e] at this
  | some r => exact ⟨_, rfl⟩
theorem get0_out {a : List (κ × Int)} {k : κ} (m : k ∉ a.map (·.1)) : get0 a k = 0 := by
  unfold get0 aget
  rw [List.find?_eq_none.mpr]
  · rfl
  · intro p hp z
    exact m (List.mem_map.mpr ⟨p, hp, by simpa using z⟩)
theorem get0_at {a : List (κ × Int)} {k : κ} (m : k ∈ a.map (·.1)) : aget a k = some (get0 a k) := by
  obtain ⟨v, e⟩ := aget_mem m
  unfold get0
  rw [e]; rfl
end

/-! ### sorting by insertion, any order -/
section
variable {α : Type} (le : α → α → Bool)
def insB (x : α) : List α → List α
  | [] => [x]
  | y :: r => if le x y then x :: y :: r else y :: insB x r
def sortB : List α → List α
  | [] => []
  | x :: r => insB le x (sortB r)
theorem insB_perm (x : α) : ∀ l : List α, (insB le x l).Perm (x :: l)
  | [] => .refl _
  | y :: r => by
    unfold insB
    split
    · exact .refl _
    · exact ((insB_perm x r).cons y).trans (.swap x y r)
theorem sortB_perm : ∀ l : List α, (sortB le l).Perm l
  | [] => .refl _
  | x :: r => (insB_perm le x (sortB le r)).trans ((sortB_perm r).cons x)
variable {le}
theorem insB_sorted (tr : ∀ a b c, le a b = true → le b c = true → le a c = true) (to : ∀ a b, le a b = true ∨ le b a = true) (x : α) : ∀ l : List α, l.Pairwise (fun a b => le a b = true) → (insB le x l).Pairwise (fun a b => le a b = true)
  | [], _ => by simp [insB]
  | y :: r, h => by
    unfold insB
    have h' := List.pairwise_cons.mp h
    split
    · rename_i e
      refine List.pairwise_cons.mpr ⟨fun z hz => ?_, h⟩
      rcases List.mem_cons.mp hz with q | q
      · rw [q]; exact e
      · exact tr _ _ _ e (h'.1 z q)
    · rename_i e
      refine List.pairwise_cons.mpr ⟨fun z hz => ?_, insB_sorted tr to x r h'.2⟩
      rcases List.mem_cons.mp ((insB_perm le x r).mem_iff.mp hz) with q | q
      · rw [q]; exact (to x y).resolve_left e
      · exact h'.1 z q
theorem sortB_sorted (tr : ∀ a b c, le a b = true → le b c = true → le a c = true) (to : ∀ a b, le a b = true ∨ le b a = true) : ∀ l : List α, (sortB le l).Pairwise (fun a b => le a b = true)
  | [] => .nil
  | x :: r => insB_sorted tr to x _ (sortB_sorted tr to r)
theorem sortB_map {β : Type} {g : α → β} {le' : β → β → Bool} (h : ∀ a b, le' (g a) (g b) = le a b) : ∀ l : List α, sortB le' (l.map g) = (sortB le l).map g
  | [] => rfl
  | x :: r => by
    have ins : ∀ (x : α) (l : List α), insB le' (g x) (l.map g) = (insB le x l).map g := by
      intro x l
      induction l with
      | nil => rfl
      | cons y l ih =>
        rw [List.map_cons]
        unfold insB
        rw [h]
        split
        · rfl
        · rw [List.map_cons, ih]
    rw [List.map_cons]
    unfold sortB
    rw [sortB_map h r, ins]
/-- lists with the same members that are told apart by the order -/
theorem sorted_ext {l m : List α} (irr : ∀ x y, le x y = true → le y x = true → x = y) (nl : l.Nodup) (nm : m.Nodup) (sl : l.Pairwise (fun a b => le a b = true)) (sm : m.Pairwise (fun a b => le a b = true)) (h : ∀ x, x ∈ l ↔ x ∈ m) : l = m := by
  classical
  have p : l.Perm m := (List.perm_ext_iff_of_nodup nl nm).mpr h
  exact sorted_uniqueR (fun x _ y _ a b => irr x y a b) p sl sm
end
theorem sortD_sortB : ∀ l : List D, sortD l = sortB leD l
  | [] => rfl
  | x :: r => by
    have ins : ∀ (x : D) (l : List D), insD x l = insB leD x l := by
      intro x l
      induction l with
      | nil => rfl
      | cons y l ih =>
        unfold insD insB
        rw [ih]
    unfold sortD sortB
    rw [sortD_sortB r, ins]
/-- the turns of a dict comprehension, the heap left -/
theorem dc_fold {κ α : Type} [DecidableEq κ] {f : κ → D} (inj : ∀ a b, f a = f b → a = b) {src : Src} {t : Bool} {F : D → List O → Option (R (Option (D × D)))} {h : List O} (enc : α → D) (kf : α → κ) (vf : α → Int) (cf : α → Bool) (hc : chk src h = true) (hk : ∀ k, okK t (f k) = true) :
    ∀ (xs : List α) (a : List (κ × Int)), a.length + xs.length ≤ lim → (∀ x ∈ xs, F (enc x) h = some (.ok (if cf x then some (f (kf x), .int (vf x)) else none) h)) →
      dcGo src t F (xs.map enc) (encA f a) h = some (.ok (encA f (xs.foldl (fun a x => if cf x then aput a (kf x) (vf x) else a) a)) h)
  | [], a, _, _ => by
    rw [List.map_nil, dcGo, if_pos hc]; rfl
  | x :: xs, a, hl, st => by
    rw [List.length_cons] at hl
    rw [List.map_cons, dcGo, if_pos hc, st x List.mem_cons_self]
    cases q : cf x with
    | true =>
      simp only [if_true]
      have hl2 : (encA f a).length < lim := by unfold encA; rw [List.length_map]; omega
      rw [if_pos (by rw [hk]; simpa using hl2), dPut_encA inj]
      have := aput_len a (kf x) (vf x)
      rw [dc_fold inj enc kf vf cf hc hk xs _ (by omega) fun y m => st y (List.mem_cons_of_mem _ m), List.foldl_cons, q, if_pos rfl]
    | false =>
      simp only [Bool.false_eq_true, if_false]
      rw [dc_fold inj enc kf vf cf hc hk xs _ (by omega) fun y m => st y (List.mem_cons_of_mem _ m), List.foldl_cons, q]
      simp
section
variable {κ : Type} [DecidableEq κ] {f : κ → D} {h : List O} {m : Nat} {t : Bool} {d : List (κ × Int)} {k : κ}
theorem put_at (inj : ∀ a b, f a = f b → a = b) (hk : okK t (f k) = true) (e : h[m]? = some (.dct false t (encA f d))) (hl : d.length < lim) (v : Int) : setI (.ref m) (f k) (.int v) h = some (h.set m (.dct false t (encA f (aput d k v)))) := by
  have nl : isLst h m = none := by unfold isLst; rw [e]
  have e0 : setI (.ref m) (f k) (.int v) h = setK (.ref m) (f k) (.int v) h := by
    unfold setI
    cases f k <;> try rfl
    dsimp only
    rw [nl]
  rw [e0]
  unfold setK
  dsimp only
  rw [show isDct h m = some (t, encA f d) from by unfold isDct; rw [e]]
  dsimp only
  have : (encA f d).length < lim := by unfold encA; rw [List.length_map]; exact hl
  rw [hk, dPut_encA inj]
  simp only [this, decide_true, Bool.and_self, if_true]
  rfl
theorem rd_at {lk : Bool} {kvs : List (D × D)} (e : h[m]? = some (.dct lk t kvs)) : rdDct h m = some (t, kvs) := by unfold rdDct; rw [e]
theorem get_at (inj : ∀ a b, f a = f b → a = b) (hk : okK t (f k) = true) (e : rdDct h m = some (t, encA f d)) (x : D) : get1 (.ref m) [f k, x] h = some (.ok (((aget d k).map D.int).getD x) h) := by
  rw [get_dct e hk, dGet_encA inj]
theorem get_at0 (inj : ∀ a b, f a = f b → a = b) (hk : okK t (f k) = true) (e : rdDct h m = some (t, encA f d)) : get1 (.ref m) [f k, .int 0] h = some (.ok (.int (get0 d k)) h) := by
  rw [get_at inj hk e]
  unfold get0
  cases aget d k <;> rfl
theorem dit_at (e : h[m]? = some (.dct true t (encA f d))) : ditP (.ref m) h = some (d.map (fun r => .tup [f r.1, .int r.2]), []) := by
  unfold ditP
  dsimp only
  rw [show lkDct h m = some (t, encA f d) from by unfold lkDct; rw [e]]
  dsimp only
  unfold encA
  rw [List.map_map]; rfl
theorem dit_evi {call : Caller} {i : Nat} {env : Env} (en : env[i]? = some (some (.ref m))) (e : h[m]? = some (.dct true t (encA f d))) : evi call (.dit (.slot i)) env h = some (.ok (d.map (fun r => .tup [f r.1, .int r.2]), []) h) := by
  have q : ev call (.slot i) env h = some (.ok (.ref m) h) := by
    rw [ev, en]
  show bnd (ev call (.slot i) env h) _ = _
  rw [q, bnd_ok, dit_at e]
theorem keys_at (e : h[m]? = some (.dct true t (encA f d))) : itemsOf (.ref m) h = some (d.map (fun r => f r.1), []) := by
  unfold itemsOf
  dsimp only
  rw [no_lst (rd_at e)]
  dsimp only
  rw [show lkDct h m = some (t, encA f d) from by unfold lkDct; rw [e]]
  dsimp only
  unfold encA
  rw [List.map_map]; rfl
end
end Mini
end

section
/-! Mini: repr of data, by bounds (own work). -/
namespace Mini
open PySem
theorem strOk_app {a b : Str} (ha : PyData.strOk a = true) (hb : PyData.strOk b = true) : PyData.strOk (a ++ b) = true := by
  have e : (a ++ b).cps = a.cps ++ b.cps := rfl
  unfold PyData.strOk at *
  rw [e, Array.all_append, ha, hb]; rfl
theorem strOk_of (s : String) : PyData.strOk (Str.ofString s) = true := by
  rw [Str.ofString_eq_toList]
  unfold PyData.strOk
  rw [List.all_toArray, List.all_eq_true]
  intro n hn
  obtain ⟨c, _, rfl⟩ := List.mem_map.mp hn
  have := c.valid
  rw [decide_eq_true_eq]
  have e : c.toNat = c.val.toNat := rfl
  rw [e]
  rcases this with h | h
  · have h2 : c.val.toNat < 0xd800 := h
    omega
  · exact h.2
theorem strOk_join {sep : Str} (hs : PyData.strOk sep = true) : ∀ ts : List Str, (∀ t ∈ ts, PyData.strOk t = true) → PyData.strOk (Str.join sep ts) = true
  | [], _ => strOk_of ""
  | [x], h => h x List.mem_cons_self
  | x :: y :: r, h => strOk_app (strOk_app (h x List.mem_cons_self) hs) (strOk_join hs (y :: r) fun t m => h t (List.mem_cons_of_mem _ m))
theorem strOk_text : ∀ (ts : List Str) (k : Nat) (acc : Str), PyData.strOk acc = true → (∀ t ∈ ts, PyData.strOk t = true) → PyData.strOk (textFrom k acc ts) = true
  | [], _, _, h, _ => h
  | t :: ts, k, acc, h, g => strOk_text ts (k + 1) _ (strOk_app (strOk_app h (strOk_of _)) (g t List.mem_cons_self)) fun t m => g t (List.mem_cons_of_mem _ m)
structure Fi (B k w : Nat) (p : PyData) : Prop where
  sh : p.showable = true
  lf : p.leavesShort B = true
  dp : p.depth ≤ k
  nd : p.hasDict = false
  so : PyData.strOk p.shown = true
  wt : p.weight ≤ w
  cl : p.canLay0 = true
theorem int_log {b : Nat} {i : Int} (h : i.natAbs < 2 ^ b) (hb : 0 < b) : i.natAbs.log2 < b := by
  by_cases z : i.natAbs = 0
  · rw [z]; simpa using hb
  · exact (Nat.log2_lt z).mpr h
theorem fi_int {b : Nat} {i : Int} (h : i.natAbs < 2 ^ b) (hb : 0 < b) (hb2 : b < 1920) : Fi (b + 1) 0 (b + 1) (.int i) where
  sh := by
    have := int_log h hb
    simp only [PyData.showable, decide_eq_true_eq]; omega
  lf := by
    simp only [PyData.leavesShort, decide_eq_true_eq]
    have := int_text_length_le hb (int_log h hb)
    simp only [PyData.shown]
    exact Nat.le_trans (Nat.le_of_eq (PySem.ofString_length _)) this
  dp := by simp [PyData.depth]
  nd := by simp [PyData.hasDict]
  so := by simp only [PyData.shown]; exact strOk_of _
  wt := by
    have := int_log h hb
    simp only [PyData.weight]
    split <;> omega
  cl := by simp [PyData.canLay0]
theorem fi_none {B k w : Nat} : Fi B k w .none := ⟨rfl, rfl, Nat.zero_le _, rfl, strOk_of _, Nat.zero_le _, rfl⟩
theorem fi_all {B k w : Nat} : ∀ xs : List PyData, (∀ x ∈ xs, Fi B k w x) → PyData.showableAll xs = true ∧ PyData.leavesShortAll B xs = true ∧ PyData.depthAll xs ≤ k ∧ PyData.hasDictAll xs = false ∧ (∀ t ∈ PyData.shownAll xs, PyData.strOk t = true) ∧ PyData.weightAll xs ≤ xs.length * (w + 1) ∧ PyData.canLayAll0 xs = true
  | [], _ => ⟨rfl, rfl, Nat.zero_le _, rfl, by simp [PyData.shownAll], Nat.zero_le _, rfl⟩
  | x :: xs, h => by
    obtain ⟨a, b, c, d, e, f, g⟩ := fi_all xs fun y m => h y (List.mem_cons_of_mem _ m)
    have i := h x List.mem_cons_self
    refine ⟨by simp [PyData.showableAll, i.sh, a], by simp [PyData.leavesShortAll, i.lf, b], ?_, by simp [PyData.hasDictAll, i.nd, d], ?_, ?_, by simp [PyData.canLayAll0, i.cl, g]⟩
    · have := i.dp
      simp only [PyData.depthAll]; omega
    · intro t ht
      simp only [PyData.shownAll, List.mem_cons] at ht
      rcases ht with e1 | e1
      · rw [e1]; exact i.so
      · exact e t e1
    · have := i.wt
      simp only [PyData.weightAll, List.length_cons, Nat.succ_mul]; omega
theorem fi_tup {B k w : Nat} {xs : List PyData} (h : ∀ x ∈ xs, Fi B k w x) : Fi B (k + 1) (xs.length * (w + 1)) (.tuple xs) := by
  obtain ⟨a, b, c, d, e, f, g⟩ := fi_all xs h
  exact ⟨by simpa [PyData.showable] using a, by simpa [PyData.leavesShort] using b, by simpa [PyData.depth] using c, by simpa [PyData.hasDict] using d, by
    simp only [PyData.shown]
    unfold tupleText
    exact strOk_app (strOk_app (strOk_of _) (strOk_join (strOk_of _) _ e)) (strOk_of _), by simpa [PyData.weight] using f, by simpa [PyData.canLay0] using g⟩
theorem fi_list {B k w : Nat} {xs : List PyData} (h : ∀ x ∈ xs, Fi B k w x) : Fi B (k + 1) (xs.length * (w + 1)) (.list xs) := by
  obtain ⟨a, b, c, d, e, f, g⟩ := fi_all xs h
  exact ⟨by simpa [PyData.showable] using a, by simpa [PyData.leavesShort] using b, by simpa [PyData.depth] using c, by simpa [PyData.hasDict] using d, by
    simp only [PyData.shown]
    unfold listText
    exact strOk_app (strOk_text _ _ _ (strOk_of _) e) (strOk_of _), by simpa [PyData.weight] using f, by simpa [PyData.canLay0] using g⟩
theorem fi_mono {B k w k' w' : Nat} {p : PyData} (h : Fi B k w p) (hk : k ≤ k') (hw : w ≤ w') : Fi B k' w' p := { h with dp := Nat.le_trans h.dp hk, wt := Nat.le_trans h.wt hw }
theorem repr_fi {B k w : Nat} {p : PyData} (h : Fi B k w p) (hB : 8 ≤ B) (hk : k ≤ 16) (hw : (B + 2) * w + B ≤ lim) {d : D} {g : List O} (e : pyD g d = some p) : repr1 [d] g = some (.ok (.str p.shown) g) := by
  have l1 := PyData.shown_le B hB p h.lf
  have l2 : (B + 2) * p.weight ≤ (B + 2) * w := Nat.mul_le_mul_left _ h.wt
  have l3 : p.shown.length ≤ lim := by omega
  have l4 : p.depth ≤ 16 := Nat.le_trans h.dp hk
  unfold repr1
  dsimp only
  rw [e]
  dsimp only
  rw [h.sh, h.nd, decide_eq_true l3, decide_eq_true l4]
  rfl
theorem eq_str {h : List O} {s : Str} (hs : PyData.strOk s = true) : eqD h (.str s) (.str s) = some true := by
  refine eqD_self rfl ?_
  have : PyData.canLay0 (.str s) = true := by simpa [PyData.canLay0] using hs
  unfold SeqAt.shaped
  show (PyData.canLay0 (.str s) && decide (PyData.depth (.str s) ≤ 64)) = true
  rw [this]
  simp [PyData.depth]
theorem ne_str {h : List O} {s : Str} (hs : PyData.strOk s = true) : cmpD .NotEq (.str s) (.str s) h = some false := by
  rw [cmp_ne, eq_str hs]; rfl
/-- == of data that are the same -/
theorem eq_fi {B k w : Nat} {p : PyData} (h : Fi B k w p) (hk : k ≤ 64) {g : List O} {a b : D} (ea : pyD g a = some p) (eb : pyD g b = some p) (q : PyData.eqv p p = true) : eqD g a b = some true := by
  have s : SeqAt.shaped p = true := by
    unfold SeqAt.shaped
    rw [h.cl, decide_eq_true (Nat.le_trans h.dp hk)]; rfl
  unfold eqD
  rw [ea, eb]
  dsimp only
  rw [s, q]; rfl
end Mini
end

section
/-! Mini: more lemmas for walks: all/any of a comprehension, the draws, exceptions (own work). -/
namespace Mini
theorem small_lim {n : Nat} (h : n ≤ 100000) : n < lim := Nat.lt_of_le_of_lt h (by decide)
theorem two_lim : (2 : Nat) ≤ lim := by decide
theorem pure_map {α : Type} {f : α → D} (h : ∀ a, (f a).pure = true) : ∀ xs : List α, D.pureL (xs.map f) = true
  | [] => rfl
  | x :: xs => by rw [List.map_cons, D.pureL, h x, pure_map h xs]; rfl
theorem all_true {h : List O} {n : Nat} {xs : List D} (r : rdLst h n = some xs) (a : ∀ x ∈ xs, x = .bl true) : biD .all [.ref n] h = some (.ok (.bl true) h) := by
  show all1 [.ref n] h = _
  have key : ∀ xs : List D, (∀ x ∈ xs, x = .bl true) → ∃ bs, boolsOf xs = some bs ∧ bs.all id = true := by
    intro xs
    induction xs with
    | nil => intro _; exact ⟨[], rfl, rfl⟩
    | cons x xs ih =>
      intro a
      obtain ⟨bs, e, q⟩ := ih fun y m => a y (List.mem_cons_of_mem _ m)
      have := a x List.mem_cons_self
      subst this
      exact ⟨true :: bs, by simp [boolsOf, e], by simp [q]⟩
  obtain ⟨bs, e, q⟩ := key xs a
  unfold all1 bools1
  dsimp only
  rw [r]
  dsimp only
  rw [e]
  dsimp only
  rw [q]; rfl
/-- all/any of a list of truth values -/
theorem all_bools {h : List O} {n : Nat} {bs : List Bool} (r : rdLst h n = some (bs.map D.bl)) : biD .all [.ref n] h = some (.ok (.bl (bs.all id)) h) := by
  have key : ∀ bs : List Bool, boolsOf (bs.map D.bl) = some bs := by
    intro bs
    induction bs with
    | nil => rfl
    | cons b bs ih => simp [boolsOf, ih]
  show all1 [.ref n] h = _
  unfold all1 bools1
  dsimp only
  rw [r]
  dsimp only
  rw [key]; rfl
theorem bi_list {call : Caller} {b : Bi} {e : E} {env : Env} {h t : List O} {k : Nat} {d : D} (p : ev call e env h = some (.ok (.ref k) (h ++ t))) (q : biD b [.ref k] (h ++ t) = some (.ok d (h ++ t))) (dp : d.pure = true) : ev call (.bi b (.cons e .nil)) env h = some (.ok d h) :=
  bi_one (g := []) p (by rw [List.append_nil]; exact q) dp
theorem for_exc {src : Src} {f : D → Env → List O → Option RS} {x : D} {xs : List D} {env e : Env} {h h' : List O} {c : Nat} {fs : List D} (k : chk src h = true) (y : f x env h = some (.exc c fs e h')) : forGo src f (x :: xs) env h = some (.exc c fs e h') := by
  rw [forGo, if_pos k, y]
theorem ex_exc {call : Caller} {C : List Cl} {x : E} {env : Env} {h h' : List O} {c : Nat} {fs : List D} (p : ev call x env h = some (.exc c fs h')) : exec call C (.ex x) env h = some (.exc c fs env h') := by
  show bns (ev call x env h) env _ = _
  rw [p]; rfl
theorem ex_ok {call : Caller} {C : List Cl} {x : E} {env : Env} {h h' : List O} {d : D} (p : ev call x env h = some (.ok d h')) : exec call C (.ex x) env h = some (.fl (.nx env) h') := by
  show bns (ev call x env h) env _ = _
  rw [p]; rfl
theorem eq_lists {h : List O} {a b : Nat} {xs : List D} (ea : rdLst h a = some xs) (eb : rdLst h b = some xs) (hp : D.pureL xs = true) (q : (PySem.SeqAt.shaped (.list (pyPL xs)) && PySem.PyData.eqv (.list (pyPL xs)) (.list (pyPL xs))) = true) : eqD h (.ref a) (.ref b) = some true := by
  rw [Bool.and_eq_true] at q
  unfold eqD
  rw [pyD_l ea hp, pyD_l eb hp]
  dsimp only
  rw [q.1, q.2]; rfl
/-! ### the draws, at 1, and the place, at 3 -/
structure St (ds : List Int) (h : List O) (p : Int) : Prop where
  d : h[1]? = some (.lst (ds.map .int))
  a : h[3]? = some (.lst [.int p])
  p0 : 0 ≤ p
section
variable {ds : List Int} {h : List O} {p : Int}
theorem St.len (s : St ds h p) : 3 < h.length := (List.getElem?_eq_some_iff.mp s.a).1
theorem st_set (s : St ds h p) : St ds (h.set 3 (.lst [.int (p + 1)])) (p + 1) where
  d := by rw [List.getElem?_set_ne (by decide)]; exact s.d
  a := by rw [List.getElem?_set_self s.len]
  p0 := by have := s.p0; omega
theorem st_app (s : St ds h p) (t : List O) : St ds (h ++ t) p where
  d := by rw [List.getElem?_append_left (by have := s.len; omega)]; exact s.d
  a := by rw [List.getElem?_append_left s.len]; exact s.a
  p0 := s.p0
theorem st_put (s : St ds h p) {k : Nat} (h1 : k ≠ 1) (h3 : k ≠ 3) (o : O) : St ds (h.set k o) p where
  d := by rw [List.getElem?_set_ne h1]; exact s.d
  a := by rw [List.getElem?_set_ne h3]; exact s.a
  p0 := s.p0
theorem st_gc {h' : List O} {d : D} {p' : Int} (s : St ds h p) (s' : St ds h' p') : ∃ q, St ds (gc h d h') q := by
  unfold gc
  split
  · exact ⟨p', s'⟩
  · split
    · exact ⟨p, s⟩
    · exact ⟨p', s'⟩
variable {PF : List Fn} {C : List Cl} {o t m n : Nat}
theorem take_call (i2 : PF[t]? = some ⟨3, 4, bTake m⟩) (i3 : PF[m]? = some ⟨2, 4, bMore⟩) (s : St ds h p) {k : Int} (hm : 0 < k) : ∃ r : Int, 0 ≤ r ∧ r < k ∧ callF PF C (n + 2) t [.ref 1, .ref 3, .int k] h = some (.ok (.int r) (h.set 3 (.lst [.int (p + 1)]))) := by
  have more : ∀ (h : List O) (p : Int), rdLst h 1 = some (ds.map .int) → ∃ z : Int, callF PF C (n + 1) m [.ref 1, .int p] h = some (.ok (.int z) h) := fun h p rd => by
    obtain ⟨z, e⟩ := more_ok (call := callF PF C n) (C := C) (p := p) rd
    exact ⟨z, (callF_heap i3 rfl rfl e).trans (by rw [gc_len rfl])⟩
  obtain ⟨r, r0, r1, e⟩ := take_ok (j := m) (call := callF PF C (n + 1)) (C := C) (a := 1) (b := 3) (by decide) s.d s.a s.p0 hm more
  exact ⟨r, r0, r1, (callF_heap i2 rfl rfl e).trans (by rw [gc_len (by simp)])⟩
/-- take, as an expression -/
theorem take_ev (i2 : PF[t]? = some ⟨3, 4, bTake m⟩) (i3 : PF[m]? = some ⟨2, 4, bMore⟩) {h1 : List O} {k : Int} {env : Env} {e : E} {i j : Nat} (s : St ds h1 p) (hm : 0 < k) (ei : env[i]? = some (some (.ref 1))) (ej : env[j]? = some (some (.ref 3))) (he : ev (callF PF C (n + 2)) e env h = some (.ok (.int k) h1)) :
    ∃ r : Int, 0 ≤ r ∧ r < k ∧ ev (callF PF C (n + 2)) (.call t (.cons (.slot i) (.cons (.slot j) (.cons e (.nil)))) []) env h = some (.ok (.int r) (h1.set 3 (.lst [.int (p + 1)]))) := by
  obtain ⟨r, r0, r1, c⟩ := take_call (n := n) (C := C) i2 i3 s hm
  exact ⟨r, r0, r1, e_call (vs := [.ref 1, .ref 3, .int k]) (s_cons (e_slot ei) (s_cons (e_slot ej) (s_one he))) c⟩
/-- a draw from a list -/
theorem one_x (i1 : PF[o]? = some ⟨3, 3, bOne t⟩) (i2 : PF[t]? = some ⟨3, 4, bTake m⟩) (i3 : PF[m]? = some ⟨2, 4, bMore⟩) {h1 : List O} (s : St ds h1 p) {xs : List D} (hne : xs ≠ []) {env : Env} {X : E} {i j k : Nat} (ei : env[i]? = some (some (.ref 1))) (ej : env[j]? = some (some (.ref 3))) (hX : ev (callF PF C (n + 3)) X env h = some (.ok (.ref k) h1)) (hk : rdLst h1 k = some xs) (k3 : k ≠ 3) :
    ∃ d ∈ xs, ev (callF PF C (n + 3)) (.call o (.cons X (.cons (.slot i) (.cons (.slot j) (.nil)))) []) env h = some (.ok d (h1.set 3 (.lst [.int (p + 1)]))) ∧ St ds (h1.set 3 (.lst [.int (p + 1)])) (p + 1) := by
  obtain ⟨d, dm, e⟩ := one_call (PF := PF) (C := C) (o := o) (t := t) (m := m) (n := n) i1 i2 i3 (h := h1) (a := 1) (b := 3) (c := k) (xs := xs) (by decide) k3 s.d s.a s.p0 hk hne
  exact ⟨d, dm, e_call (s_cons hX (s_two (e_slot ei) (e_slot ej))) e, st_set s⟩
/-- .. that is written -/
theorem one_lst (i1 : PF[o]? = some ⟨3, 3, bOne t⟩) (i2 : PF[t]? = some ⟨3, 4, bTake m⟩) (i3 : PF[m]? = some ⟨2, 4, bMore⟩) {h1 : List O} (s : St ds h1 p) (xs : List D) (hne : xs ≠ []) {env : Env} {es : E} {i j : Nat} (ei : env[i]? = some (some (.ref 1))) (ej : env[j]? = some (some (.ref 3))) (he : evs (callF PF C (n + 3)) es env h = some (.ok xs h1)) (hl : xs.length ≤ 1000) :
    ∃ d ∈ xs, ev (callF PF C (n + 3)) (.call o (.cons (.lst es) (.cons (.slot i) (.cons (.slot j) (.nil)))) []) env h = some (.ok d ((h1 ++ [O.lst xs]).set 3 (.lst [.int (p + 1)]))) ∧ St ds ((h1 ++ [O.lst xs]).set 3 (.lst [.int (p + 1)])) (p + 1) :=
  one_x i1 i2 i3 (st_app s _) hne ei ej (e_lst he (lim9 (by omega))) rd_end (by have := s.len; omega)
end
/-! ### lists of ints as tuples -/
theorem intsOf_map {α : Type} (f : α → Int) : ∀ p : List α, intsOf (p.map fun r => D.int (f r)) = some (p.map f)
  | [] => rfl
  | r :: p => by
    rw [List.map_cons, intsOf, intsOf_map f p]; rfl
end Mini
end

section
namespace Lk69
open Mini
def p_law : Mini.S := .seq (.asg (.slot 1) (.call 9 (.cons (.slot 0) (.nil)) [])) (.seq (.asg (.slot 2) (.lst (.cons (.int 0) (.nil)))) (.seq (.for (.slot 3) (.rng (.cons (.int 3) (.nil))) (.seq (.par 10 11 (.cons (.call 8 (.cons (.call 2 (.cons (.lst (.cons (.int 3) (.cons (.int 10) (.cons (.int 30) (.nil))))) (.cons (.slot 1) (.cons (.slot 2) (.nil)))) []) (.cons (.slot 1) (.cons (.slot 2) (.nil)))) []) (.cons (.call 8 (.cons (.int 8) (.cons (.slot 1) (.cons (.slot 2) (.nil)))) []) (.nil)))) (.seq (.par 12 13 (.cons (.call 4 (.cons (.call 7 (.cons (.slot 10) (.nil)) []) (.nil)) []) (.cons (.call 4 (.cons (.call 7 (.cons (.slot 11) (.nil)) []) (.nil)) []) (.nil)))) (.seq (.asg (.slot 7) (.call 4 (.cons (.call 7 (.cons (.bin .Add (.slot 10) (.slot 11)) (.nil)) []) (.nil)) [])) (.seq (.ite (.nt (.tru (.call 3 (.cons (.tup (.cons (.call 1 (.cons (.int 0) (.cons (.slot 10) (.cons (.non) (.nil)))) []) (.cons (.call 1 (.cons (.int 2) (.cons (.slot 12) (.cons (.slot 13) (.nil)))) []) (.cons (.call 1 (.cons (.int 0) (.cons (.bin .Add (.slot 10) (.slot 11)) (.cons (.non) (.nil)))) []) (.nil))))) (.cons (.tup (.cons (.slot 12) (.cons (.slot 7) (.cons (.slot 7) (.nil))))) (.nil))) []))) (.seq (.ret (.bl false)) (.nil)) (.nil)) (.seq (.asg (.slot 8) (.tup (.nil))) (.seq (.for (.slot 9) (.itr (.rev (.slot 10))) (.seq (.asg (.slot 8) (.ifx (.and (.tru (.slot 8)) (.tru (.cmp .Eq (.ix (.slot 8) (.neg (.int 1))) (.slot 9)))) (.sl (.slot 8) (.omit) (.cons (.neg (.int 1)) .nil)) (.bin .Add (.slot 8) (.tup (.cons (.bin .Sub (.int 0) (.slot 9)) (.nil)))))) (.nil))) (.seq (.ite (.nt (.tru (.call 3 (.cons (.tup (.cons (.call 1 (.cons (.int 1) (.cons (.slot 10) (.cons (.non) (.nil)))) []) (.cons (.call 1 (.cons (.int 2) (.cons (.slot 12) (.cons (.call 1 (.cons (.int 0) (.cons (.slot 8) (.cons (.non) (.nil)))) []) (.nil)))) []) (.nil)))) (.cons (.tup (.cons (.slot 8) (.cons (.tup (.cons (.tup (.cons (.tup (.nil)) (.cons (.int 1) (.nil)))) (.nil))) (.nil)))) (.nil))) []))) (.seq (.ret (.bl false)) (.nil)) (.nil)) (.seq (.par 14 15 (.cons (.call 6 (.cons (.slot 1) (.cons (.slot 2) (.nil))) []) (.cons (.call 6 (.cons (.slot 1) (.cons (.slot 2) (.nil))) []) (.nil)))) (.seq (.ite (.nt (.tru (.call 3 (.cons (.call 1 (.cons (.int 2) (.cons (.slot 14) (.cons (.slot 15) (.nil)))) []) (.cons (.call 4 (.cons (.call 5 (.cons (.bi .dict (.cons (.slot 14) (.nil))) (.cons (.bi .dict (.cons (.slot 15) (.nil))) (.nil))) []) (.nil)) []) (.nil))) []))) (.seq (.ret (.bl false)) (.nil)) (.nil)) (.nil))))))))))) (.seq (.asg (.slot 4) (.call 2 (.cons (.lst (.cons (.non) (.cons (.int 5) (.cons (.tup (.cons (.int 0) (.nil))) (.cons (.tup (.cons (.int 8) (.nil))) (.cons (.tup (.cons (.neg (.int 8)) (.nil))) (.cons (.tup (.cons (.bl true) (.nil))) (.cons (.tup (.cons (.str "1") (.nil))) (.cons (.tup (.cons (.non) (.nil))) (.cons (.bin .Mult (.tup (.cons (.int 1) (.nil))) (.bin .Add (.con (.int (2000)) "MAX_LETTERS") (.int 1))) (.nil))))))))))) (.cons (.slot 1) (.cons (.slot 2) (.nil)))) [])) (.seq (.asg (.slot 5) (.lst (.cons (.non) (.cons (.int 5) (.cons (.tup (.cons (.tup (.nil)) (.nil))) (.cons (.tup (.cons (.tup (.cons (.tup (.nil)) (.cons (.int 0) (.nil)))) (.nil))) (.cons (.tup (.cons (.tup (.cons (.tup (.nil)) (.cons (.int 1000000000001) (.nil)))) (.nil))) (.cons (.tup (.cons (.tup (.cons (.tup (.nil)) (.cons (.bl true) (.nil)))) (.nil))) (.cons (.tup (.cons (.tup (.cons (.tup (.cons (.int 1) (.cons (.int 2) (.cons (.int 3) (.cons (.int 4) (.nil)))))) (.cons (.int 1) (.nil)))) (.nil))) (.cons (.tup (.cons (.tup (.cons (.tup (.cons (.int 0) (.nil))) (.cons (.int 1) (.nil)))) (.nil))) (.nil))))))))))) (.seq (.asg (.slot 6) (.call 2 (.cons (.bin .Add (.slot 5) (.lst (.cons (.tup (.cons (.tup (.cons (.tup (.cons (.int 8) (.nil))) (.cons (.int 1) (.nil)))) (.nil))) (.cons (.tup (.cons (.tup (.cons (.non) (.cons (.int 1) (.nil)))) (.nil))) (.cons (.tup (.cons (.tup (.cons (.tup (.cons (.int 1) (.nil))) (.cons (.int 1) (.nil)))) (.cons (.tup (.cons (.tup (.nil)) (.cons (.int 1) (.nil)))) (.nil)))) (.cons (.tup (.cons (.tup (.cons (.tup (.cons (.int 1) (.nil))) (.cons (.int 1) (.nil)))) (.cons (.tup (.cons (.tup (.cons (.int 1) (.nil))) (.cons (.int 2) (.nil)))) (.nil)))) (.cons (.tup (.cons (.tup (.cons (.tup (.cons (.int 2) (.nil))) (.cons (.int 1) (.nil)))) (.cons (.tup (.cons (.tup (.cons (.int 1) (.nil))) (.cons (.int 1) (.nil)))) (.nil)))) (.cons (.tup (.cons (.tup (.cons (.tup (.cons (.int 1) (.nil))) (.cons (.int 1) (.cons (.int 1) (.nil))))) (.nil))) (.nil))))))))) (.cons (.slot 1) (.cons (.slot 2) (.nil)))) [])) (.seq (.ite (.tru (.cmp .NotEq (.lc [16] (.slot 16) (.rng (.cons (.int 2) (.nil))) (.omit) (.call 1 (.cons (.slot 16) (.cons (.slot 4) (.cons (.non) (.nil)))) [])) (.bin .Mult (.lst (.cons (.tup (.cons (.str "argument") (.cons (.str "letters") (.nil)))) (.nil))) (.int 2)))) (.seq (.ret (.bl false)) (.nil)) (.nil)) (.seq (.ret (.and (.cmp .Eq (.call 1 (.cons (.int 2) (.cons (.slot 6) (.cons (.slot 6) (.nil)))) []) (.tup (.cons (.str "argument") (.cons (.str "first") (.nil))))) (.cmp .Eq (.call 1 (.cons (.int 2) (.cons (.slot 14) (.cons (.slot 6) (.nil)))) []) (.tup (.cons (.str "argument") (.cons (.str "second") (.nil))))))) (.nil))))))))
def p__law_told : Mini.S := .seq (.try (.seq (.ret (.ifx (.tru (.cmp .Eq (.slot 0) (.int 0))) (.call 10 (.cons (.slot 1) (.nil)) []) (.ifx (.tru (.cmp .Eq (.slot 0) (.int 1))) (.call 11 (.cons (.slot 1) (.nil)) []) (.call 12 (.cons (.slot 1) (.cons (.slot 2) (.nil))) [])))) (.nil)) (.hcons 2 3 (.tup (.cons (.str "argument") (.cons (.fld "reason") (.nil)))) (.hnil))) (.nil)
def p__law_one : Mini.S := .seq (.ret (.ix (.slot 0) (.call 13 (.cons (.slot 1) (.cons (.slot 2) (.cons (.bi .len (.cons (.slot 0) (.nil))) (.nil)))) []))) (.nil)
def p__law_same_as : Mini.S := .seq (.ret (.and (.cmp .Eq (.slot 0) (.slot 1)) (.cmp .Eq (.bi .repr (.cons (.slot 0) (.nil))) (.bi .repr (.cons (.slot 1) (.nil)))))) (.nil)
def p__law_rows : Mini.S := .seq (.lock 0 (.asg (.slot 1) (.bi .sorted (.cons (.lc [2] (.slot 2) (.itr (.slot 0)) (.tru (.cmp .NotEq (.ix (.slot 0) (.slot 2)) (.int 0))) (.tup (.cons (.bi .len (.cons (.slot 2) (.nil))) (.cons (.slot 2) (.nil))))) (.nil))))) (.seq (.ret (.bi .tpl (.cons (.lc [3, 2] (.tup (.cons (.slot 3) (.cons (.slot 2) (.nil)))) (.itr (.slot 1)) (.omit) (.tup (.cons (.slot 2) (.cons (.ix (.slot 0) (.slot 2)) (.nil))))) (.nil)))) (.nil))
def p__law_times : Mini.S := .seq (.asg (.slot 2) (.dnew true)) (.seq (.lock 0 (.for (.slot 3) (.itr (.slot 0)) (.seq (.lock 1 (.for (.slot 4) (.itr (.slot 1)) (.seq (.ite (.tru (.cmp .Lt (.bin .Add (.bi .len (.cons (.slot 3) (.nil))) (.bi .len (.cons (.slot 4) (.nil)))) (.int 4))) (.seq (.asg (.tsub (.slot 2) (.bin .Add (.slot 3) (.slot 4))) (.bin .Add (.mt .get (.slot 2) (.cons (.bin .Add (.slot 3) (.slot 4)) (.cons (.int 0) (.nil)))) (.bin .Mult (.ix (.slot 0) (.slot 3)) (.ix (.slot 1) (.slot 4))))) (.nil)) (.nil)) (.nil)))) (.nil)))) (.seq (.ret (.slot 2)) (.nil)))
def p__law_some : Mini.S := .seq (.asg (.slot 2) (.dnew true)) (.seq (.for (.slot 3) (.rng (.cons (.call 13 (.cons (.slot 0) (.cons (.slot 1) (.cons (.int 8) (.nil)))) []) (.nil))) (.seq (.asg (.slot 4) (.bi .tuple (.cons (.lc [5] (.slot 5) (.rng (.cons (.call 13 (.cons (.slot 0) (.cons (.slot 1) (.cons (.int 4) (.nil)))) []) (.nil))) (.omit) (.bin .Add (.int 1) (.call 13 (.cons (.slot 0) (.cons (.slot 1) (.cons (.call 2 (.cons (.lst (.cons (.int 2) (.cons (.int 7) (.nil)))) (.cons (.slot 0) (.cons (.slot 1) (.nil)))) []) (.nil)))) []))) (.nil)))) (.seq (.asg (.tsub (.slot 2) (.slot 4)) (.call 2 (.cons (.lst (.cons (.int 1) (.cons (.neg (.int 1)) (.cons (.int 1000000000000) (.cons (.neg (.int 1000000000000)) (.cons (.bin .Sub (.call 13 (.cons (.slot 0) (.cons (.slot 1) (.cons (.int 99) (.nil)))) []) (.int 49)) (.nil))))))) (.cons (.slot 0) (.cons (.slot 1) (.nil)))) [])) (.nil)))) (.seq (.ret (.call 4 (.cons (.slot 2) (.nil)) [])) (.nil)))
def p__law_expanded : Mini.S := .seq (.ite (.tru (.cmp .Eq (.bi .len (.cons (.slot 0) (.nil))) (.int 0))) (.seq (.ret (.dsp true (.kv (.tup (.nil)) (.int 1) (.nil)))) (.nil)) (.nil)) (.seq (.ite (.tru (.cmp .Eq (.bi .len (.cons (.slot 0) (.nil))) (.int 1))) (.seq (.ret (.call 14 (.cons (.ix (.slot 0) (.int 0)) (.nil)) [])) (.nil)) (.nil)) (.seq (.asg (.slot 1) (.bin .FloorDiv (.bi .len (.cons (.slot 0) (.nil))) (.int 2))) (.seq (.ret (.call 5 (.cons (.call 7 (.cons (.sl (.slot 0) (.omit) (.cons (.slot 1) .nil)) (.nil)) []) (.cons (.call 7 (.cons (.sl (.slot 0) (.cons (.slot 1) .nil) (.omit)) (.nil)) []) (.nil))) [])) (.nil))))
def p__law_letters : Mini.S := .seq (.asg (.slot 3) (.call 2 (.cons (.lst (.cons (.int 1) (.cons (.int 2) (.cons (.int 7) (.nil))))) (.cons (.slot 1) (.cons (.slot 2) (.nil)))) [])) (.seq (.ret (.bi .tuple (.cons (.lc [4] (.slot 4) (.rng (.cons (.call 13 (.cons (.slot 1) (.cons (.slot 2) (.cons (.bin .Add (.slot 0) (.int 1)) (.nil)))) []) (.nil))) (.omit) (.bin .Mult (.call 2 (.cons (.lst (.cons (.int 1) (.cons (.neg (.int 1)) (.nil)))) (.cons (.slot 1) (.cons (.slot 2) (.nil)))) []) (.bin .Add (.int 1) (.call 13 (.cons (.slot 1) (.cons (.slot 2) (.cons (.slot 3) (.nil)))) [])))) (.nil)))) (.nil))
def p__law_draws : Mini.S := .seq (.asg (.slot 1) (.lst (.nil))) (.seq (.for (.slot 2) (.itr (.sl (.slot 0) (.omit) (.cons (.int 63) .nil))) (.seq (.asg (.slot 3) (.bi .abs (.cons (.slot 2) (.nil)))) (.seq (.ite (.tru (.cmp .GtE (.slot 3) (.bin .Pow (.int 10) (.int 18)))) (.seq (.for (.slot 4) (.rng (.cons (.int 60) (.nil))) (.seq (.ite (.tru (.cmp .Gt (.slot 3) (.int 0))) (.seq (.ex (.mt .append (.slot 1) (.cons (.bin .Mod (.bi .int (.cons (.slot 3) (.nil))) (.int 1009)) (.nil)))) (.seq (.asg (.slot 3) (.bin .FloorDiv (.slot 3) (.int 1009))) (.nil))) (.nil)) (.nil))) (.nil)) (.seq (.asg (.slot 5) (.bin .Mod (.bi .int (.cons (.bin .Add (.bin .Mult (.slot 3) (.int 48271)) (.int 11)) (.nil))) (.int 2147483647))) (.seq (.for (.slot 4) (.rng (.cons (.int 12) (.nil))) (.seq (.asg (.slot 5) (.bin .Mod (.bi .int (.cons (.bin .Add (.bin .Add (.bin .Mult (.slot 5) (.int 16807)) (.bin .Mult (.int 69621) (.slot 4))) (.int 5)) (.nil))) (.int 2147483629))) (.seq (.ex (.mt .append (.slot 1) (.cons (.bin .FloorDiv (.slot 5) (.int 1009)) (.nil)))) (.nil)))) (.nil)))) (.nil)))) (.seq (.ret (.slot 1)) (.nil)))
def p_expansion : Mini.S := .seq (.ex (.call 17 (.cons (.slot 0) (.nil)) [])) (.seq (.ret (.call 15 (.cons (.call 16 (.cons (.slot 0) (.nil)) []) (.nil)) [])) (.nil))
def p_undone_letters : Mini.S := .seq (.ex (.call 17 (.cons (.slot 0) (.nil)) [])) (.seq (.ret (.call 18 (.cons (.call 19 (.cons (.slot 0) (.nil)) []) (.nil)) [])) (.nil))
def p_expansion_product : Mini.S := .seq (.ite (.nt (.tru (.call 21 (.cons (.slot 0) (.nil)) []))) (.seq (.raise 2 (.cons (.str "first") (.nil))) (.nil)) (.nil)) (.seq (.ite (.nt (.tru (.call 21 (.cons (.slot 1) (.nil)) []))) (.seq (.raise 2 (.cons (.str "second") (.nil))) (.nil)) (.nil)) (.seq (.asg (.slot 2) (.dc [3, 4] true (.tup (.cons (.slot 3) (.cons (.slot 4) (.nil)))) (.itr (.slot 0)) (.omit) (.slot 3) (.slot 4))) (.seq (.ret (.call 15 (.cons (.call 20 (.cons (.slot 2) (.cons (.dc [3, 4] true (.tup (.cons (.slot 3) (.cons (.slot 4) (.nil)))) (.itr (.slot 1)) (.omit) (.slot 3) (.slot 4)) (.nil))) []) (.nil)) [])) (.nil))))
def p__law_take : Mini.S := .seq (.asg (.slot 3) (.ix (.slot 1) (.int 0))) (.seq (.asg (.tsub (.slot 1) (.int 0)) (.bin .Add (.slot 3) (.int 1))) (.seq (.ret (.bin .Mod (.bi .int (.cons (.ifx (.tru (.cmp .Lt (.slot 3) (.bi .len (.cons (.slot 0) (.nil))))) (.ix (.slot 0) (.slot 3)) (.call 22 (.cons (.slot 0) (.cons (.slot 3) (.nil))) [])) (.nil))) (.slot 2))) (.nil)))
def p__law_letter : Mini.S := .seq (.asg (.slot 1) (.bi .abs (.cons (.slot 0) (.nil)))) (.seq (.ret (.ifx (.tru (.cmp .Gt (.slot 0) (.int 0))) (.dsp true (.kv (.tup (.nil)) (.int 1) (.kv (.tup (.cons (.slot 1) (.nil))) (.int 1) (.nil)))) (.dsp true (.kv (.tup (.nil)) (.int 1) (.kv (.tup (.cons (.slot 1) (.nil))) (.neg (.int 1)) (.kv (.tup (.cons (.slot 1) (.cons (.slot 1) (.nil)))) (.int 1) (.kv (.tup (.cons (.slot 1) (.cons (.slot 1) (.cons (.slot 1) (.nil))))) (.neg (.int 1)) (.nil)))))))) (.nil))
def p_told : Mini.S := .seq (.lock 0 (.asg (.slot 1) (.bi .sorted (.cons (.lc [2, 3] (.tup (.cons (.slot 2) (.cons (.slot 3) (.nil)))) (.dit (.slot 0)) (.omit) (.tup (.cons (.bi .len (.cons (.slot 2) (.nil))) (.cons (.slot 2) (.cons (.slot 3) (.nil)))))) (.nil))))) (.seq (.ret (.bi .tuple (.cons (.lc [4, 2, 3] (.tup (.cons (.slot 4) (.cons (.slot 2) (.cons (.slot 3) (.nil))))) (.itr (.slot 1)) (.omit) (.tup (.cons (.slot 2) (.cons (.slot 3) (.nil))))) (.nil)))) (.nil))
def p_expanded : Mini.S := .seq (.asg (.slot 1) (.dsp true (.kv (.tup (.nil)) (.int 1) (.nil)))) (.seq (.for (.slot 2) (.itr (.slot 0)) (.seq (.asg (.slot 1) (.call 23 (.cons (.slot 1) (.cons (.slot 2) (.nil))) [])) (.nil))) (.seq (.ret (.slot 1)) (.nil)))
def p_demand_letters : Mini.S := .seq (.ite (.or (.nt (.tru (.isi (.slot 0) .tuple))) (.tru (.cmp .Gt (.bi .len (.cons (.slot 0) (.nil))) (.con (.int (2000)) "MAX_LETTERS")))) (.seq (.raise 2 (.cons (.str "letters") (.nil))) (.nil)) (.nil)) (.seq (.ite (.nt (.tru (.bi .all (.cons (.lc [1] (.slot 1) (.itr (.slot 0)) (.omit) (.and (.call 24 (.cons (.slot 1) (.cons (.neg (.int 7)) (.cons (.int 7) (.nil)))) []) (.cmp .NotEq (.slot 1) (.int 0)))) (.nil))))) (.seq (.raise 2 (.cons (.str "letters") (.nil))) (.nil)) (.nil)) (.nil))
def p_plain : Mini.S := .seq (.asg (.slot 1) (.lst (.nil))) (.seq (.for (.slot 2) (.itr (.slot 0)) (.seq (.ite (.and (.tru (.slot 1)) (.tru (.cmp .Eq (.ix (.slot 1) (.neg (.int 1))) (.neg (.slot 2))))) (.seq (.ex (.mt .pop (.slot 1) (.nil))) (.nil)) (.seq (.ex (.mt .append (.slot 1) (.cons (.slot 2) (.nil)))) (.nil))) (.nil))) (.seq (.ret (.bi .tuple (.cons (.slot 1) (.nil)))) (.nil)))
def p_turned_back : Mini.S := .seq (.ret (.bi .tuple (.cons (.lc [1] (.slot 1) (.itr (.rev (.slot 0))) (.omit) (.neg (.slot 1))) (.nil)))) (.nil)
def p_product_of : Mini.S := .seq (.asg (.slot 2) (.dnew true)) (.seq (.lock 0 (.for (.tup (.cons (.slot 3) (.cons (.slot 4) (.nil)))) (.dit (.slot 0)) (.seq (.lock 1 (.for (.tup (.cons (.slot 5) (.cons (.slot 6) (.nil)))) (.dit (.slot 1)) (.seq (.ite (.tru (.cmp .LtE (.bin .Add (.bi .len (.cons (.slot 3) (.nil))) (.bi .len (.cons (.slot 5) (.nil)))) (.con (.int (3)) "DEGREE"))) (.seq (.asg (.tsub (.slot 2) (.bin .Add (.slot 3) (.slot 5))) (.bin .Add (.mt .get (.slot 2) (.cons (.bin .Add (.slot 3) (.slot 5)) (.cons (.int 0) (.nil)))) (.bin .Mult (.slot 4) (.slot 6)))) (.nil)) (.nil)) (.nil)))) (.nil)))) (.seq (.lock 2 (.ret (.dc [3, 4] true (.tup (.cons (.slot 3) (.cons (.slot 4) (.nil)))) (.dit (.slot 2)) (.tru (.cmp .NotEq (.slot 4) (.int 0))) (.slot 3) (.slot 4)))) (.nil)))
def p_is_expansion : Mini.S := .seq (.ite (.or (.nt (.tru (.isi (.slot 0) .tuple))) (.nt (.tru (.bi .all (.cons (.lc [6] (.slot 6) (.itr (.slot 0)) (.omit) (.and (.isi (.slot 6) .tuple) (.cmp .Eq (.bi .len (.cons (.slot 6) (.nil))) (.int 2)))) (.nil)))))) (.seq (.ret (.bl false)) (.nil)) (.nil)) (.seq (.for (.tup (.cons (.slot 2) (.cons (.slot 3) (.nil)))) (.itr (.slot 0)) (.seq (.ite (.or (.nt (.tru (.isi (.slot 2) .tuple))) (.or (.tru (.cmp .Gt (.bi .len (.cons (.slot 2) (.nil))) (.con (.int (3)) "DEGREE"))) (.nt (.tru (.call 24 (.cons (.slot 3) (.cons (.neg (.bin .Pow (.int 10) (.int 12))) (.cons (.bin .Pow (.int 10) (.int 12)) (.nil)))) []))))) (.seq (.ret (.bl false)) (.nil)) (.nil)) (.seq (.ite (.or (.tru (.cmp .Eq (.slot 3) (.int 0))) (.nt (.tru (.bi .all (.cons (.lc [7] (.slot 7) (.itr (.slot 2)) (.omit) (.call 24 (.cons (.slot 7) (.cons (.int 1) (.cons (.int 7) (.nil)))) [])) (.nil)))))) (.seq (.ret (.bl false)) (.nil)) (.nil)) (.nil)))) (.seq (.asg (.slot 1) (.lc [2, 3] (.tup (.cons (.slot 2) (.cons (.slot 3) (.nil)))) (.itr (.slot 0)) (.omit) (.tup (.cons (.bi .len (.cons (.slot 2) (.nil))) (.cons (.slot 2) (.nil)))))) (.seq (.ret (.bi .all (.cons (.lc [4, 5] (.tup (.cons (.slot 4) (.cons (.slot 5) (.nil)))) (.zip (.sl (.slot 1) (.omit) (.cons (.neg (.int 1)) .nil)) (.sl (.slot 1) (.cons (.int 1) .nil) (.omit))) (.omit) (.cmp .Lt (.slot 4) (.slot 5))) (.nil)))) (.nil))))
def p__law_more : Mini.S := .seq (.asg (.slot 2) (.bin .Mod (.bi .int (.cons (.bin .Add (.bin .Add (.bin .Mult (.slot 1) (.int 48271)) (.bi .len (.cons (.slot 0) (.nil)))) (.int 11)) (.nil))) (.int 2147483629))) (.seq (.for (.slot 3) (.rng (.cons (.int 3) (.nil))) (.seq (.ite (.tru (.slot 0)) (.seq (.asg (.slot 2) (.bin .Add (.slot 2) (.ix (.slot 0) (.bin .Mod (.bi .int (.cons (.bin .Add (.bin .Mult (.slot 1) (.bin .Add (.slot 3) (.int 5))) (.slot 3)) (.nil))) (.bi .len (.cons (.slot 0) (.nil))))))) (.nil)) (.nil)) (.seq (.asg (.slot 2) (.bin .Mod (.bi .int (.cons (.bin .Add (.bin .Add (.bin .Mult (.slot 2) (.int 16807)) (.bin .Mult (.int 69621) (.slot 3))) (.int 5)) (.nil))) (.int 2147483629))) (.nil)))) (.seq (.ret (.bin .FloorDiv (.slot 2) (.int 1009))) (.nil)))
def p_times_letter : Mini.S := .seq (.asg (.slot 2) (.dnew true)) (.seq (.lock 0 (.for (.tup (.cons (.slot 3) (.cons (.slot 4) (.nil)))) (.dit (.slot 0)) (.seq (.for (.tup (.cons (.slot 5) (.cons (.slot 6) (.nil)))) (.itr (.call 25 (.cons (.slot 1) (.nil)) [])) (.seq (.ite (.tru (.cmp .LtE (.bin .Add (.bi .len (.cons (.slot 3) (.nil))) (.bi .len (.cons (.slot 5) (.nil)))) (.con (.int (3)) "DEGREE"))) (.seq (.asg (.tsub (.slot 2) (.bin .Add (.slot 3) (.slot 5))) (.bin .Add (.mt .get (.slot 2) (.cons (.bin .Add (.slot 3) (.slot 5)) (.cons (.int 0) (.nil)))) (.bin .Mult (.slot 4) (.slot 6)))) (.nil)) (.nil)) (.nil))) (.nil)))) (.seq (.lock 2 (.ret (.dc [3, 4] true (.tup (.cons (.slot 3) (.cons (.slot 4) (.nil)))) (.dit (.slot 2)) (.tru (.cmp .NotEq (.slot 4) (.int 0))) (.slot 3) (.slot 4)))) (.nil)))
def p_in_range : Mini.S := .seq (.ret (.and (.call 26 (.cons (.slot 0) (.nil)) []) (.chn .LtE .LtE (.slot 1) (.slot 0) (.slot 2)))) (.nil)
def p_members_of : Mini.S := .seq (.asg (.slot 1) (.bi .abs (.cons (.slot 0) (.nil)))) (.seq (.ite (.tru (.cmp .Gt (.slot 0) (.int 0))) (.seq (.ret (.lst (.cons (.tup (.cons (.tup (.nil)) (.cons (.int 1) (.nil)))) (.cons (.tup (.cons (.tup (.cons (.slot 1) (.nil))) (.cons (.int 1) (.nil)))) (.nil))))) (.nil)) (.nil)) (.seq (.ret (.lst (.cons (.tup (.cons (.tup (.nil)) (.cons (.int 1) (.nil)))) (.cons (.tup (.cons (.tup (.cons (.slot 1) (.nil))) (.cons (.neg (.int 1)) (.nil)))) (.cons (.tup (.cons (.tup (.cons (.slot 1) (.cons (.slot 1) (.nil)))) (.cons (.int 1) (.nil)))) (.cons (.tup (.cons (.tup (.cons (.slot 1) (.cons (.slot 1) (.cons (.slot 1) (.nil))))) (.cons (.neg (.int 1)) (.nil)))) (.nil))))))) (.nil)))
def p_is_integer : Mini.S := .seq (.ret (.and (.isi (.slot 0) .int) (.ntv (.isi (.slot 0) .bool)))) (.nil)
def pPF : List Mini.Fn := [⟨1, 17, p_law⟩,
  ⟨3, 4, p__law_told⟩,
  ⟨3, 3, p__law_one⟩,
  ⟨2, 2, p__law_same_as⟩,
  ⟨1, 4, p__law_rows⟩,
  ⟨2, 5, p__law_times⟩,
  ⟨2, 6, p__law_some⟩,
  ⟨1, 2, p__law_expanded⟩,
  ⟨3, 5, p__law_letters⟩,
  ⟨1, 6, p__law_draws⟩,
  ⟨1, 1, p_expansion⟩,
  ⟨1, 1, p_undone_letters⟩,
  ⟨2, 5, p_expansion_product⟩,
  ⟨3, 4, p__law_take⟩,
  ⟨1, 2, p__law_letter⟩,
  ⟨1, 5, p_told⟩,
  ⟨1, 3, p_expanded⟩,
  ⟨1, 2, p_demand_letters⟩,
  ⟨1, 3, p_plain⟩,
  ⟨1, 2, p_turned_back⟩,
  ⟨2, 7, p_product_of⟩,
  ⟨1, 8, p_is_expansion⟩,
  ⟨2, 4, p__law_more⟩,
  ⟨2, 7, p_times_letter⟩,
  ⟨3, 3, p_in_range⟩,
  ⟨1, 2, p_members_of⟩,
  ⟨1, 1, p_is_integer⟩]
def pFR : List Mini.FRow := [⟨"law", ["script", "draws", "at", "turn", "bad", "part_1", "odd", "both", "back", "letter", "first", "second", "one", "other", "some", "more", "which"], none⟩,
  ⟨"_law_told", ["which", "one", "two", "e"], none⟩,
  ⟨"_law_one", ["rows", "draws", "at"], none⟩,
  ⟨"_law_same_as", ["actual", "due"], none⟩,
  ⟨"_law_rows", ["found", "rows", "places", "size"], none⟩,
  ⟨"_law_times", ["one", "other", "found", "places", "more"], none⟩,
  ⟨"_law_some", ["draws", "at", "found", "k", "places", "j"], none⟩,
  ⟨"_law_expanded", ["letters", "half"], none⟩,
  ⟨"_law_letters", ["most", "draws", "at", "far", "k"], none⟩,
  ⟨"_law_draws", ["script", "draws", "cell", "rest", "k", "mixed"], none⟩,
  ⟨"expansion", ["letters"], none⟩,
  ⟨"undone_letters", ["letters"], none⟩,
  ⟨"expansion_product", ["first", "second", "one", "places", "factor"], none⟩,
  ⟨"_law_take", ["draws", "at", "many", "place"], none⟩,
  ⟨"_law_letter", ["letter", "k"], none⟩,
  ⟨"told", ["found", "rows", "places", "factor", "size"], none⟩,
  ⟨"expanded", ["letters", "found", "letter"], none⟩,
  ⟨"demand_letters", ["letters", "letter"], none⟩,
  ⟨"plain", ["word", "found", "one"], none⟩,
  ⟨"turned_back", ["word", "one"], none⟩,
  ⟨"product_of", ["first", "second", "found", "places", "factor", "more", "times"], none⟩,
  ⟨"is_expansion", ["value", "rows", "places", "factor", "one", "other", "pair", "place"], none⟩,
  ⟨"_law_more", ["draws", "place", "mixed", "k"], none⟩,
  ⟨"times_letter", ["found", "letter", "after", "places", "factor", "more", "times"], none⟩,
  ⟨"in_range", ["value", "least", "most"], none⟩,
  ⟨"members_of", ["letter", "place"], none⟩,
  ⟨"is_integer", ["value"], none⟩]
def pC : List Mini.Cl := [⟨[0, 3], []⟩, ⟨[1, 0, 3], ["reason"]⟩, ⟨[2, 1, 0, 3], ["reason"]⟩]
def pCR : List PySem.Str := ["PlaitError", "ReasonError", "ArgumentError"]
def pTb : List (PySem.Str × Nat × Nat) := [⟨"PlaitError", 0, 0⟩, ⟨"ReasonError", 1, 0⟩, ⟨"ArgumentError", 2, 0⟩, ⟨"ValueError", 3, 1⟩]
def pCon : List (PySem.Str × Mini.D) := [⟨"MAX_LETTERS", .int (2000)⟩, ⟨"DEGREE", .int (3)⟩]
def pKin : List (PySem.Str × List Nat) := []
end Lk69
end

section
/-! k69: expansions: letters, what undoes them (own work). -/
namespace Lk69
open Mini
abbrev W := List Int
abbrev Row := W × Int
def kw (w : W) : D := .tup (w.map .int)
def rwD (r : Row) : D := .tup [kw r.1, .int r.2]
abbrev cf (n : Nat) : Caller := callF pPF pC n
theorem map_int_inj : ∀ (a b : W), a.map D.int = b.map D.int → a = b
  | [], [], _ => rfl
  | [], _ :: _, e => by cases e
  | _ :: _, [], e => by cases e
  | x :: a, y :: b, e => by
    simp only [List.map_cons, List.cons.injEq, D.int.injEq] at e
    rw [e.1, map_int_inj a b e.2]
theorem kw_inj (a b : W) (e : kw a = kw b) : a = b := map_int_inj a b (D.tup.inj e)
theorem kw_ok (w : W) : okK true (kw w) = true := by
  show (true && (w.map D.int).all flatK) = true
  rw [Bool.true_and, List.all_map, List.all_eq_true]
  intro x _; rfl
theorem kw_pure (w : W) : (kw w).pure = true := pure_map (fun _ => rfl) w
theorem kwl {w : W} {h : List O} {v : D} (e : v = kw w) : len1 [v] h = okI (w.length : Int) h := by
  subst e
  show okI ((w.map D.int).length : Int) h = _
  rw [List.length_map]
theorem int_pure (i : Int) : (D.int i).pure = true := rfl
/-! ### numbers in a range -/
theorem is_int_call {n : Nat} {h : List O} (i : Int) : cf (n + 1) 26 [.int i] h = some (.ok (.bl true) h) := by
  refine pcall (fn := ⟨1, 1, p_is_integer⟩) rfl rfl rfl (g := []) (ret_ret ?_) rfl
  show exec (cf n) pC p_is_integer [some (.int i)] [] = _
  simp [p_is_integer, exec, ev, isiD, truth, okB]
theorem in_range_call {n : Nat} {h : List O} (v a b : Int) : cf (n + 2) 24 [.int v, .int a, .int b] h = some (.ok (.bl (decide (a ≤ v) && decide (v ≤ b))) h) := by
  refine pcall (fn := ⟨3, 3, p_in_range⟩) rfl rfl rfl (g := []) (ret_ret ?_) rfl
  show exec (cf (n + 1)) pC p_in_range [some (.int v), some (.int a), some (.int b)] [] = _
  have c := is_int_call (n := n) (h := []) v
  by_cases q : a ≤ v
  · simp [p_in_range, exec, ev, evs, c, truth, cmpD, okB, q]
  · simp [p_in_range, exec, ev, evs, c, truth, cmpD, okB, q]
/-- letters as they should be -/
structure Lt (l : W) : Prop where
  len : l.length ≤ 1000
  ne : ∀ x ∈ l, x ≠ 0 ∧ x.natAbs ≤ 7
theorem demand_call {n : Nat} {h : List O} {l : W} (v : Lt l) : cf (n + 3) 17 [kw l] h = some (.ok .non h) := by
  refine pcall (fn := ⟨1, 2, p_demand_letters⟩) rfl rfl (by simp [D.pureL, kw_pure]) (g := []) (ret_nx (env := [some (kw l), none]) ?_) rfl
  show exec (cf (n + 2)) pC p_demand_letters [some (kw l), none] [] = _
  unfold p_demand_letters
  have hl := v.len
  have c1 : evt (cf (n + 2)) (.or (.nt (.tru (.isi (.slot 0) .tuple))) (.tru (.cmp .Gt (.bi .len (.cons (.slot 0) (.nil))) (.con (.int (2000)) "MAX_LETTERS")))) [some (kw l), none] [] = some (.ok false []) := by
    have : ¬ (2000 : Int) < (l.length : Int) := by omega
    simp [evt, ev, evs, isiD, kw, okB, truth, biD, len1, okI, cmpD, this]
  rw [seq_nx (e := [some (kw l), none]) (h' := []) (by rw [ite_f c1]; rfl)]
  have it : evi (cf (n + 2)) (.itr (.slot 0)) [some (kw l), none] [] = some (.ok (l.map D.int, []) []) := by
    simp [evi, ev, kw, itemsOf]
  have go := lc_fmE (f := lcT (cf (n + 2)) [1] (.slot 1) .omit (.and (.call 24 (.cons (.slot 1) (.cons (.neg (.int 7)) (.cons (.int 7) (.nil)))) []) (.cmp .NotEq (.slot 1) (.int 0))) [some (kw l), none]) (h := []) (src := [])
    D.int (fun _ => some (.bl true)) rfl l [] (by simpa using lim9 (by omega)) (fun x hx => by
      obtain ⟨x0, x7⟩ := v.ne x hx
      have c := in_range_call (n := n) (h := []) x (-7) 7
      have q1 : (-7 : Int) ≤ x := by omega
      have q2 : x ≤ 7 := by omega
      have z : (x == 0) = false := by simpa using x0
      simp only [q1, q2, decide_true, Bool.and_self] at c
      simp [lcT, wipeD, asgT, evt, ev, evs, okI, c, truth, cmp_nei, okB, z])
  have lc := lc_ev it go
  have al : ev (cf (n + 2)) (.bi .all (.cons (.lc [1] (.slot 1) (.itr (.slot 0)) (.omit) (.and (.call 24 (.cons (.slot 1) (.cons (.neg (.int 7)) (.cons (.int 7) (.nil)))) []) (.cmp .NotEq (.slot 1) (.int 0)))) (.nil))) [some (kw l), none] [] = some (.ok (.bl true) []) :=
    bi_list lc (all_true (h := [] ++ [.lst ([] ++ l.filterMap fun _ => some (.bl true))]) (n := 0) rfl (fun y hy => by
      rw [List.nil_append] at hy
      obtain ⟨_, _, e⟩ := List.mem_filterMap.mp hy
      exact (Option.some.inj e).symm)) rfl
  rw [seq_nx (e := [some (kw l), none]) (h' := []) (by rw [ite_f (t_nt (b := true) (t_bl al))]; rfl)]
  rfl
/-! ### what undoes letters -/
/-- a letter behind letters, where they undo each other: neither -/
def put1 (st : W) (x : Int) : W := if st.getLast? = some (-x) then st.dropLast else st ++ [x]
def plainW (w : W) : W := w.foldl put1 []
def negs (w : W) : W := w.reverse.map fun x => -x
theorem put1_len (st : W) (x : Int) : (put1 st x).length ≤ st.length + 1 := by
  unfold put1
  split
  · rw [List.length_dropLast]; omega
  · simp
theorem plain_len : ∀ (w st : W), (w.foldl put1 st).length ≤ st.length + w.length
  | [], st => Nat.le_refl _
  | x :: w, st => by
    have h1 := plain_len w (put1 st x)
    have h2 := put1_len st x
    rw [List.foldl_cons, List.length_cons]; omega
theorem at_last (st : W) (x : Int) : atD ((st ++ [x]).map D.int) (-1) = some (.int x) := by
  unfold atD ixD
  rw [if_neg (by decide), if_pos (by rw [List.length_map, List.length_append, List.length_singleton]; omega)]
  have e : ((-1 : Int) + (((st ++ [x]).map D.int).length : Int)).toNat = st.length := by
    rw [List.length_map, List.length_append, List.length_singleton]; omega
  dsimp only
  rw [e, List.getElem?_map, List.getElem?_append_right (Nat.le_refl _), Nat.sub_self]
  rfl
theorem tb_call {n : Nat} {h : List O} {l : W} (hl : l.length ≤ 1000) : cf (n + 1) 19 [kw l] h = some (.ok (kw (negs l)) h) := by
  refine pcall (fn := ⟨1, 2, p_turned_back⟩) rfl rfl (by simp [D.pureL, kw_pure]) (g := []) (ret_ret ?_) (kw_pure _)
  show exec (cf n) pC p_turned_back [some (kw l), none] [] = _
  unfold p_turned_back
  have it : evi (cf n) (.itr (.rev (.slot 0))) [some (kw l), none] [] = some (.ok (l.reverse.map D.int, []) []) := by
    simp [evi, ev, kw, itemsOf]
  have go := lc_fmE (f := lcT (cf n) [1] (.slot 1) .omit (.neg (.slot 1)) [some (kw l), none]) (h := []) (src := [])
    D.int (fun x => some (.int (-x))) rfl l.reverse [] (by simpa using lim9 (by omega)) (fun x _ => by
      simp [lcT, wipeD, asgT, evt, ev, okI])
  have lc := lc_ev it go
  have fm : l.reverse.filterMap (fun x => some (D.int (-x))) = (negs l).map D.int := by
    unfold negs
    rw [List.map_map]
    induction l.reverse with
    | nil => rfl
    | cons x l ih => simp
  rw [List.nil_append, fm] at lc
  exact seq_rt (ret_ok (bi_tup lc rfl (pure_map (fun _ => rfl) _)))
def bPl : S := .seq (.ite (.and (.tru (.slot 1)) (.tru (.cmp .Eq (.ix (.slot 1) (.neg (.int 1))) (.neg (.slot 2))))) (.seq (.ex (.mt .pop (.slot 1) (.nil))) (.nil)) (.seq (.ex (.mt .append (.slot 1) (.cons (.slot 2) (.nil)))) (.nil))) (.nil)
theorem pl_turn {call : Caller} {a b : Option D} (st : W) (x : Int) (hl : st.length ≤ 10000) : turn call pC (.slot 2) bPl (.int x) [a, some (.ref 0), b] [.lst (st.map D.int)] = some (.fl (.nx [a, some (.ref 0), some (.int x)]) [.lst ((put1 st x).map D.int)]) := by
  have e0 : turn call pC (.slot 2) bPl (.int x) [a, some (.ref 0), b] [.lst (st.map D.int)] = exec call pC bPl [a, some (.ref 0), some (.int x)] [.lst (st.map D.int)] := rfl
  rw [e0]
  unfold bPl
  have app : ∀ st : W, st.length ≤ 10000 → append1 (.ref 0) [.int x] [.lst (st.map D.int)] = some (.ok .non [.lst ((st ++ [x]).map D.int)]) := fun st hl => by
    have l : (st.map D.int).length < lim := by rw [List.length_map]; exact small_lim (by omega)
    unfold append1 isLst
    dsimp only [List.getElem?_cons_zero]
    rw [if_pos l]
    simp [setH]
  rcases (show st = [] ∨ ∃ s y, st = s ++ [y] from by
    rcases List.eq_nil_or_concat st with q | ⟨s, y, q⟩
    · exact .inl q
    · exact .inr ⟨s, y, by rw [q, List.concat_eq_append]⟩) with rfl | ⟨s, y, rfl⟩
  · have p1 : put1 [] x = [x] := by simp [put1]
    have := app [] (by decide)
    simp only [List.map_nil] at this
    rw [p1]
    simp [exec, evt, ev, evs, truth, rdLst, mtPre, isLst, mtD, this]
  · have rd : rdLst [.lst ((s ++ [y]).map D.int)] 0 = some ((s ++ [y]).map D.int) := rfl
    have ix : ixG (.ref 0) (.int (-1)) [.lst ((s ++ [y]).map D.int)] = some (.ok (.int y) [.lst ((s ++ [y]).map D.int)]) := by
      unfold ixG seqOf
      dsimp only
      rw [rd]
      dsimp only
      rw [at_last]
    have c1 : evt call (.and (.tru (.slot 1)) (.tru (.cmp .Eq (.ix (.slot 1) (.neg (.int 1))) (.neg (.slot 2))))) [a, some (.ref 0), some (.int x)] [.lst ((s ++ [y]).map D.int)] = some (.ok (y == -x) [.lst ((s ++ [y]).map D.int)]) := by
      rw [t_and_t (t_val (e_slot rfl) (by unfold truth; dsimp only; rw [rd]; simp))]
      refine t_bl (e_cmp0 (e_ix (e_slot rfl) (d2 := .int (-1)) rfl ix) (d2 := .int (-x)) rfl (cmp_eqi _ _ _))
    by_cases q : y = -x
    · have p1 : put1 (s ++ [y]) x = s := by simp [put1, q]
      rw [p1, seq_nx (e := [a, some (.ref 0), some (.int x)]) (h' := [.lst (s.map D.int)]) (by
        have c3 : (y == -x) = true := by simpa using q
        rw [c3] at c1
        rw [ite_t c1]
        have po : pop0 (.ref 0) [] [.lst ((s ++ [y]).map D.int)] = some (.ok (.int y) [.lst (s.map D.int)]) := by
          unfold pop0 isLst
          dsimp only [List.getElem?_cons_zero]
          have g : ((s ++ [y]).map D.int)[((s ++ [y]).map D.int).length - 1]? = some (.int y) := by simp
          rw [g]
          simp [setH]
        refine (seq_nx (ex_ok (d := .int y) (h' := [.lst (s.map D.int)]) ?_)).trans rfl
        show bnd (ev call (.slot 1) _ _) _ = _
        rw [e_slot (d := .ref 0) rfl, bnd_ok, show mtPre .pop (.ref 0) [O.lst ((s ++ [y]).map D.int)] = true from rfl, if_pos rfl, s_nil, bnd_ok]
        exact po)]
      rfl
    · have q' : ¬ (s ++ [y]).getLast? = some (-x) := by
        rw [List.getLast?_append]; simpa using q
      have p1 : put1 (s ++ [y]) x = s ++ [y] ++ [x] := by unfold put1; rw [if_neg q']
      have c2 : (y == -x) = false := by simpa using q
      rw [p1, seq_nx (e := [a, some (.ref 0), some (.int x)]) (h' := [.lst ((s ++ [y] ++ [x]).map D.int)]) (by
        rw [ite_f (by rw [c1, c2])]
        have := app (s ++ [y]) hl
        refine (seq_nx (ex_ok (d := .non) (h' := [.lst ((s ++ [y] ++ [x]).map D.int)]) ?_)).trans rfl
        show bnd (ev call (.slot 1) _ _) _ = _
        rw [e_slot (d := .ref 0) rfl, bnd_ok, show mtPre .append (.ref 0) [O.lst ((s ++ [y]).map D.int)] = true from rfl, if_pos rfl, s_one (e_slot rfl), bnd_ok]
        exact this)]
      rfl
theorem plain_call {n : Nat} {h : List O} {l : W} (hl : l.length ≤ 1000) : cf (n + 1) 18 [kw l] h = some (.ok (kw (plainW l)) h) := by
  refine pcall (fn := ⟨1, 3, p_plain⟩) rfl rfl (by simp [D.pureL, kw_pure]) (g := [.lst ((plainW l).map D.int)]) (ret_ret ?_) (kw_pure _)
  show exec (cf n) pC (.seq (.asg (.slot 1) (.lst (.nil))) (.seq (.for (.slot 2) (.itr (.slot 0)) bPl) (.seq (.ret (.bi .tuple (.cons (.slot 1) (.nil)))) (.nil)))) [some (kw l), none, none] [] = _
  rw [seq_nx (e := [some (kw l), some (.ref 0), none]) (h' := [.lst []]) (by simp [exec, asgS, ev, evs, Mini.alloc])]
  obtain ⟨e, h', e1, b, rfl, rfl⟩ := for_ind (src := []) (f := turn (cf n) pC (.slot 2) bPl) (xs := l.map D.int)
    (fun i env h => ∃ b : Option D, env = [some (kw l), some (.ref 0), b] ∧ h = [.lst ((plainW (l.take i)).map D.int)]) (fun _ _ _ _ => rfl) (by
      rintro i x env h hx ⟨b, rfl, rfl⟩
      rw [List.getElem?_map] at hx
      obtain ⟨r, hr, rfl⟩ := Option.map_eq_some_iff.mp hx
      have hp : (plainW (l.take i)).length ≤ 10000 := by
        have := plain_len (l.take i) []
        have h2 : (l.take i).length ≤ l.length := by rw [List.length_take]; omega
        simp only [List.length_nil] at this
        unfold plainW
        omega
      refine ⟨_, _, pl_turn _ r hp, some (.int r), rfl, ?_⟩
      rw [List.take_add_one, hr]
      unfold plainW
      rw [List.foldl_append]
      rfl) (env := [some (kw l), some (.ref 0), none]) (h := [.lst []]) ⟨none, rfl, rfl⟩
  rw [List.length_map, List.take_length] at e1
  rw [seq_nx (by rw [for_is (p := (l.map D.int, [])) (by simp [evi, ev, kw, itemsOf]; rfl)]; exact e1)]
  refine seq_rt (ret_ok ?_)
  have t : ev (cf n) (.slot 1) [some (kw l), some (.ref 0), b] [.lst ((plainW l).map D.int)] = some (.ok (.ref 0) ([.lst ((plainW l).map D.int)] ++ [])) := e_slot rfl
  exact bi_tup t rfl (pure_map (fun _ => rfl) _)
theorem undone_call {n : Nat} {h : List O} {l : W} (v : Lt l) : cf (n + 4) 11 [kw l] h = some (.ok (kw (plainW (negs l))) h) := by
  refine pcall (fn := ⟨1, 1, p_undone_letters⟩) rfl rfl (by simp [D.pureL, kw_pure]) (g := []) (ret_ret ?_) (kw_pure _)
  show exec (cf (n + 3)) pC p_undone_letters [some (kw l)] [] = _
  have d := demand_call (n := n) (h := []) v
  have t := tb_call (n := n + 2) (h := []) v.len
  have p := plain_call (n := n + 2) (h := []) (l := negs l) (by unfold negs; rw [List.length_map, List.length_reverse]; exact v.len)
  simp [p_undone_letters, exec, ev, evs, d, t, p]
end Lk69
end

section
/-! k69: expansions as dicts: products (own work). -/
namespace Lk69
open Mini
abbrev A := List Row
def dct (a : A) : O := .dct false true (encA kw a)
def dctL (a : A) : O := .dct true true (encA kw a)
def Nd (a : A) : Prop := (a.map (·.1)).Nodup
/-- words of up to three places from 1 to 7 -/
def Wk (w : W) : Prop := w.length ≤ 3 ∧ ∀ x ∈ w, 1 ≤ x ∧ x ≤ 7
def Ok (a : A) : Prop := Nd a ∧ ∀ r ∈ a, Wk r.1
/-! ### how many -/
theorem nodup_le {α : Type} [DecidableEq α] : ∀ (l s : List α), l.Nodup → (∀ x ∈ l, x ∈ s) → l.length ≤ s.length
  | [], _, _, _ => Nat.zero_le _
  | x :: l, s, nd, h => by
    have nd' := List.nodup_cons.mp nd
    have hx := h x List.mem_cons_self
    have ih := nodup_le l (s.erase x) nd'.2 fun y hy => (List.mem_erase_of_ne (fun z => nd'.1 (by rw [← z]; exact hy))).mpr (h y (List.mem_cons_of_mem _ hy))
    rw [List.length_erase_of_mem hx] at ih
    have := List.length_pos_of_mem hx
    rw [List.length_cons]; omega
def al : List Int := [1, 2, 3, 4, 5, 6, 7]
def allW : List W := [[]] ++ al.map (fun x => [x]) ++ al.flatMap (fun x => al.map fun y => [x, y]) ++ al.flatMap fun x => al.flatMap fun y => al.map fun z => [x, y, z]
theorem al_mem {x : Int} (h : 1 ≤ x ∧ x ≤ 7) : x ∈ al := by
  have : x = 1 ∨ x = 2 ∨ x = 3 ∨ x = 4 ∨ x = 5 ∨ x = 6 ∨ x = 7 := by omega
  unfold al
  simpa using this
theorem allW_mem {w : W} (h : Wk w) : w ∈ allW := by
  obtain ⟨hl, hm⟩ := h
  unfold allW
  match w, hl, hm with
  | [], _, _ => simp
  | [x], _, hm =>
    have a := al_mem (hm x (by simp))
    simp only [List.mem_append, List.mem_map]
    exact .inl (.inl (.inr ⟨x, a, rfl⟩))
  | [x, y], _, hm =>
    have a := al_mem (hm x (by simp))
    have b := al_mem (hm y (by simp))
    simp only [List.mem_append, List.mem_flatMap, List.mem_map]
    exact .inl (.inr ⟨x, a, y, b, rfl⟩)
  | [x, y, z], _, hm =>
    have a := al_mem (hm x (by simp))
    have b := al_mem (hm y (by simp))
    have c := al_mem (hm z (by simp))
    simp only [List.mem_append, List.mem_flatMap, List.mem_map]
    exact .inr ⟨x, a, y, b, z, c, rfl⟩
  | _ :: _ :: _ :: _ :: _, hl, _ => simp at hl
theorem ok_len {a : A} (h : Ok a) : a.length ≤ 400 := by
  have := nodup_le (a.map fun r : Row => r.1) allW h.1 fun w hw => by
    obtain ⟨r, hr, rfl⟩ := List.mem_map.mp hw
    exact allW_mem (h.2 r hr)
  rw [List.length_map] at this
  exact Nat.le_trans this (by decide +kernel)
theorem ok_add1 {a : A} (h : Ok a) {w : W} (hw : Wk w) (v : Int) : Ok (add1 a w v) := by
  refine ⟨aput_nodup h.1 w _, fun r hr => ?_⟩
  have : r.1 ∈ (add1 a w v).map (·.1) := List.mem_map.mpr ⟨r, hr, rfl⟩
  rcases (aput_mem a w r.1 _).mp this with m | m
  · obtain ⟨s, hs, e⟩ := List.mem_map.mp m
    rw [← e]; exact h.2 s hs
  · rw [m]; exact hw
/-! ### products -/
def step (r : Row) (a : A) (s : Row) : A := if r.1.length + s.1.length ≤ 3 then add1 a (r.1 ++ s.1) (r.2 * s.2) else a
def row (q : A) (a : A) (r : Row) : A := q.foldl (step r) a
def mulA (p q : A) : A := p.foldl (row q) []
def flt (a : A) : A := a.filter fun r => decide (r.2 ≠ 0)
theorem wk_app {u v : W} (hu : Wk u) (hv : Wk v) (l : u.length + v.length ≤ 3) : Wk (u ++ v) := by
  refine ⟨by rw [List.length_append]; exact l, fun x hx => ?_⟩
  rcases List.mem_append.mp hx with m | m
  · exact hu.2 x m
  · exact hv.2 x m
theorem ok_step {a : A} (h : Ok a) {r s : Row} (hr : Wk r.1) (hs : Wk s.1) : Ok (step r a s) := by
  unfold step
  split
  · rename_i l
    exact ok_add1 h (wk_app hr hs l) _
  · exact h
theorem ok_row : ∀ (q : A) {a : A} {r : Row}, Ok a → Wk r.1 → (∀ s ∈ q, Wk s.1) → Ok (row q a r)
  | [], _, _, h, _, _ => h
  | s :: q, _, _, h, hr, hq => ok_row q (ok_step h hr (hq s List.mem_cons_self)) hr fun t m => hq t (List.mem_cons_of_mem _ m)
theorem ok_rows (q : A) (hq : ∀ s ∈ q, Wk s.1) : ∀ (p : A) {a : A}, Ok a → (∀ r ∈ p, Wk r.1) → Ok (p.foldl (row q) a)
  | [], _, h, _ => h
  | r :: p, _, h, hp => ok_rows q hq p (ok_row q h (hp r List.mem_cons_self) hq) fun t m => hp t (List.mem_cons_of_mem _ m)
theorem ok_nil : Ok [] := ⟨List.nodup_nil, fun _ h => nomatch h⟩
theorem ok_mul {p q : A} (hp : Ok p) (hq : Ok q) : Ok (mulA p q) := ok_rows q hq.2 p ok_nil hp.2
theorem ok_flt {a : A} (h : Ok a) : Ok (flt a) := by
  refine ⟨?_, fun r hr => h.2 r (List.mem_filter.mp hr).1⟩
  have : ((flt a).map (·.1)).Sublist (a.map (·.1)) := List.Sublist.map _ List.filter_sublist
  exact h.1.sublist this
theorem lim4 {a : A} (h : Ok a) : a.length < lim := small_lim (by have := ok_len h; omega)
/-! ### one entry -/
def bMul : S := .seq (.ite (.tru (.cmp .LtE (.bin .Add (.bi .len (.cons (.slot 3) (.nil))) (.bi .len (.cons (.slot 5) (.nil)))) (.con (.int (3)) "DEGREE"))) (.seq (.asg (.tsub (.slot 2) (.bin .Add (.slot 3) (.slot 5))) (.bin .Add (.mt .get (.slot 2) (.cons (.bin .Add (.slot 3) (.slot 5)) (.cons (.int 0) (.nil)))) (.bin .Mult (.slot 4) (.slot 6)))) (.nil)) (.nil)) (.nil)
theorem kw_add {u v : W} (hu : u.length ≤ 3) (hv : v.length ≤ 3) (h : List O) : binD .Add (kw u) (kw v) h = some (.ok (kw (u ++ v)) h) := by
  have l : (u.map D.int).length + (v.map D.int).length ≤ lim := by rw [List.length_map, List.length_map]; exact lim9 (by omega)
  show (if (u.map D.int).length + (v.map D.int).length ≤ lim then some (R.ok (D.tup (u.map D.int ++ v.map D.int)) h) else none) = _
  rw [if_pos l, ← List.map_append]; rfl
theorem len_ev {call : Caller} {i : Nat} {env : Env} {h : List O} {w : W} (e : env[i]? = some (some (kw w))) : ev call (.bi .len (.cons (.slot i) (.nil))) env h = some (.ok (.int w.length) h) := by
  have := bi_one (call := call) (b := .len) (e := .slot i) (env := env) (h := h) (t := []) (g := []) (x := kw w) (d := .int w.length) (by rw [List.append_nil]; exact e_slot e) (by
    rw [List.append_nil, List.append_nil]; exact kwl rfl) rfl
  exact this
theorem set_self {h : List O} {m : Nat} {o : O} (e : h[m]? = some o) : h.set m o = h := by
  obtain ⟨l, rfl⟩ := List.getElem?_eq_some_iff.mp e
  exact List.set_getElem_self l
theorem mul_exec {call : Caller} {env : Env} {h : List O} {m : Nat} {a : A} {r s : Row} (e2 : env[2]? = some (some (.ref m))) (e3 : env[3]? = some (some (kw r.1))) (e4 : env[4]? = some (some (.int r.2))) (e5 : env[5]? = some (some (kw s.1))) (e6 : env[6]? = some (some (.int s.2)))
    (hm : h[m]? = some (dct a)) (ha : Ok a) (hr : Wk r.1) (hs : Wk s.1) (mo : mulOk r.2 s.2 = true) : exec call pC bMul env h = some (.fl (.nx env) (h.set m (dct (step r a s)))) := by
  have c : evt call (.tru (.cmp .LtE (.bin .Add (.bi .len (.cons (.slot 3) (.nil))) (.bi .len (.cons (.slot 5) (.nil)))) (.con (.int (3)) "DEGREE"))) env h = some (.ok (decide (r.1.length + s.1.length ≤ 3)) h) := by
    have q : cmpD .LtE (.int ((r.1.length : Int) + (s.1.length : Int))) (.int 3) h = some (decide (r.1.length + s.1.length ≤ 3)) := by
      show some (decide (((r.1.length : Int) + (s.1.length : Int)) ≤ 3)) = _
      congr 1
      apply decide_eq_decide.mpr
      omega
    exact t_bl (e_cmp0 (e_bin (len_ev e3) (len_ev e5) rfl) (show ev call (.con (.int 3) "DEGREE") env h = some (.ok (.int 3) h) from rfl) q)
  unfold bMul step
  by_cases l : r.1.length + s.1.length ≤ 3
  · rw [if_pos l]
    rw [decide_eq_true l] at c
    have key : ∀ h : List O, ev call (.bin .Add (.slot 3) (.slot 5)) env h = some (.ok (kw (r.1 ++ s.1)) h) := fun h => e_bin (e_slot e3) (e_slot e5) (kw_add hr.1 hs.1 h)
    have gt : ev call (.mt .get (.slot 2) (.cons (.bin .Add (.slot 3) (.slot 5)) (.cons (.int 0) (.nil)))) env h = some (.ok (.int (get0 a (r.1 ++ s.1))) h) := by
      have g := get_at0 (f := kw) (h := h) (m := m) (t := true) (d := a) (k := r.1 ++ s.1) kw_inj (kw_ok _) (rd_at hm)
      show bnd (ev call (.slot 2) env h) _ = _
      have mp : mtPre .get (.ref m) h = true := by
        show (rdDct h m).isSome = true
        rw [rd_at hm]; rfl
      rw [e_slot e2, bnd_ok, mp, if_pos rfl, s_two (key h) (y := .int 0) rfl, bnd_ok]
      exact g
    have pr : ev call (.bin .Mult (.slot 4) (.slot 6)) env h = some (.ok (.int (r.2 * s.2)) h) := e_bin (e_slot e4) (e_slot e6) (by
      show (if mulOk r.2 s.2 then okI (r.2 * s.2) h else none) = _
      rw [if_pos mo]; rfl)
    have pt := put_at (f := kw) (h := h) (m := m) (t := true) (d := a) (k := r.1 ++ s.1) kw_inj (kw_ok _) hm (lim4 ha) (get0 a (r.1 ++ s.1) + r.2 * s.2)
    have st : exec call pC (.asg (.tsub (.slot 2) (.bin .Add (.slot 3) (.slot 5))) (.bin .Add (.mt .get (.slot 2) (.cons (.bin .Add (.slot 3) (.slot 5)) (.cons (.int 0) (.nil)))) (.bin .Mult (.slot 4) (.slot 6)))) env h = some (.fl (.nx env) (h.set m (dct (add1 a (r.1 ++ s.1) (r.2 * s.2))))) := by
      show bns (ev call _ env h) env _ = _
      rw [e_bin gt pr (show binD .Add (.int (get0 a (r.1 ++ s.1))) (.int (r.2 * s.2)) h = some (.ok (.int (get0 a (r.1 ++ s.1) + r.2 * s.2)) h) from rfl), bns_ok]
      simp only [asgS, onlyOk]
      rw [e_slot e2]
      dsimp only
      rw [key h]
      dsimp only
      rw [pt]
      rfl
    rw [seq_nx (e := env) (h' := h.set m (dct (add1 a (r.1 ++ s.1) (r.2 * s.2)))) (by rw [ite_t c, seq_nx st]; rfl)]
    rfl
  · rw [if_neg l]
    rw [decide_eq_false l] at c
    rw [set_self hm, seq_nx (e := env) (h' := h) (by rw [ite_f c]; rfl)]
    rfl
theorem get_set {h : List O} {m : Nat} {o o' : O} (e : h[m]? = some o) : (h.set m o')[m]? = some o' := List.getElem?_set_self (List.getElem?_eq_some_iff.mp e).1
/-- the pairs of an expansion: the inner loop -/
theorem inner {call : Caller} {f : Env → Row → Env} {src : Src} {tg : E} {bd : S} {env : Env} {h : List O} {m : Nat} {q a : A} {r : Row} {enc : Row → D} (P : Env → Prop) (p0 : P env) (hm : h[m]? = some (dct a)) (ha : Ok a) (hr : Wk r.1) (hq : ∀ s ∈ q, Wk s.1)
    (ck : ∀ a', chk src (h.set m (dct a')) = true)
    (st : ∀ (env : Env) (a' : A) (s : Row), P env → s ∈ q → Ok a' → ∃ env', P env' ∧ turn call pC tg bd (enc s) env (h.set m (dct a')) = some (.fl (.nx env') ((h.set m (dct a')).set m (dct (step r a' s))))) :
    ∃ env', P env' ∧ forGo src (turn call pC tg bd) (q.map enc) env h = some (.fl (.nx env') (h.set m (dct (row q a r)))) := by
  obtain ⟨e, h', e1, hp, rfl⟩ := for_ind (src := src) (f := turn call pC tg bd) (xs := q.map enc)
    (fun i env g => P env ∧ g = h.set m (dct (row (q.take i) a r))) (fun _ _ _ z => by rw [z.2]; exact ck _) (by
      rintro i x env g hx ⟨pe, rfl⟩
      rw [List.getElem?_map] at hx
      obtain ⟨s, hs, rfl⟩ := Option.map_eq_some_iff.mp hx
      have hi : Ok (row (q.take i) a r) := ok_row _ ha hr fun t m => hq t (List.mem_of_mem_take m)
      obtain ⟨env', p', e⟩ := st env _ s pe (List.mem_of_getElem? hs) hi
      refine ⟨env', _, e, p', ?_⟩
      rw [List.set_set, List.take_add_one, hs]
      unfold row
      rw [List.foldl_append]
      rfl) (env := env) (h := h) ⟨p0, by rw [List.take_zero]; exact (set_self hm).symm⟩
  rw [List.length_map, List.take_length] at e1
  exact ⟨e, hp, e1⟩
end Lk69
end

section
/-! k69: expansions as dicts: the program's and the law's products (own work). -/
namespace Lk69
open Mini
/-- the expansion of a letter -/
def mem (l : Int) : A := if 0 < l then [([], 1), ([l.natAbs], 1)] else [([], 1), ([(l.natAbs : Int)], -1), ([(l.natAbs : Int), l.natAbs], 1), ([(l.natAbs : Int), l.natAbs, l.natAbs], -1)]
theorem abs_nat (i : Int) : (if i < 0 then -i else i) = (i.natAbs : Int) := by split <;> omega
theorem mem_ok {l : Int} (h : l ≠ 0 ∧ l.natAbs ≤ 7) : Ok (mem l) := by
  have k : 1 ≤ (l.natAbs : Int) ∧ (l.natAbs : Int) ≤ 7 := by omega
  unfold mem
  split
  · refine ⟨by simp [Nd], fun r hr => ?_⟩
    simp only [List.mem_cons, List.not_mem_nil, or_false] at hr
    rcases hr with rfl | rfl
    · exact ⟨by simp, fun x hx => nomatch hx⟩
    · exact ⟨by simp, fun x hx => by simp only [List.mem_cons, List.not_mem_nil, or_false] at hx; rw [hx]; exact k⟩
  · refine ⟨by simp [Nd], fun r hr => ?_⟩
    simp only [List.mem_cons, List.not_mem_nil, or_false] at hr
    rcases hr with rfl | rfl | rfl | rfl
    · exact ⟨by simp, fun x hx => nomatch hx⟩
    · exact ⟨by simp, fun x hx => by simp only [List.mem_cons, List.not_mem_nil, or_false] at hx; rw [hx]; exact k⟩
    · exact ⟨by simp, fun x hx => by simp only [List.mem_cons, List.not_mem_nil, or_false, or_self] at hx; rw [hx]; exact k⟩
    · exact ⟨by simp, fun x hx => by simp only [List.mem_cons, List.not_mem_nil, or_false, or_self] at hx; rw [hx]; exact k⟩
theorem mem_sm {l : Int} : ∀ r ∈ mem l, r.2.natAbs ≤ 1 := by
  unfold mem
  split
  · simp
  · simp
theorem rows_pure (a : A) : D.pureL (a.map rwD) = true := pure_map (fun r => by
  show D.pureL [kw r.1, .int r.2] = true
  simp [D.pureL, kw_pure, int_pure]) a
theorem enc_pure (a : A) : O.pure (dct a) = true := by
  show (!false && (encA kw a).all fun p => p.1.pure && p.2.pure) = true
  unfold encA
  simp only [Bool.not_false, Bool.true_and, List.all_map, List.all_eq_true, Function.comp]
  intro p _
  rw [kw_pure]; rfl
theorem lims : (0 : Nat) ≤ lim ∧ (1 : Nat) ≤ lim ∧ (2 : Nat) ≤ lim ∧ (3 : Nat) ≤ lim ∧ (4 : Nat) ≤ lim := by decide
theorem members_call {n : Nat} {h : List O} (l : Int) : cf (n + 1) 25 [.int l] h = some (.ok (.ref h.length) (h ++ [O.lst ((mem l).map rwD)])) := by
  obtain ⟨l0, l1, l2, l3, l4⟩ := lims
  refine pobj (fn := ⟨1, 2, p_members_of⟩) rfl rfl rfl (g := [O.lst ((mem l).map rwD)]) (m := 0) (ret_ret ?_) rfl (rows_pure _)
  show exec (cf n) pC p_members_of [some (.int l), none] [] = _
  unfold p_members_of
  rw [seq_nx (e := [some (.int l), some (.int l.natAbs)]) (h' := []) (by simp [exec, asgS, ev, evs, biD, abs1, okI, abs_nat])]
  by_cases q : 0 < l
  · simp [exec, ev, evs, evt, cmpD, okB, okI, truth, q, l0, l1, l2, Mini.alloc, mem, rwD, kw]
  · simp [exec, ev, evs, evt, cmpD, okB, okI, truth, q, l0, l1, l2, l3, l4, Mini.alloc, mem, rwD, kw]
theorem letter_call {n : Nat} {h : List O} (l : Int) : cf (n + 1) 14 [.int l] h = some (.ok (.ref h.length) (h ++ [dct (mem l)])) := by
  obtain ⟨l0, l1, l2, l3, l4⟩ := lims
  refine pobj (fn := ⟨1, 2, p__law_letter⟩) rfl rfl rfl (g := [dct (mem l)]) (m := 0) (ret_ret ?_) rfl (enc_pure _)
  show exec (cf n) pC p__law_letter [some (.int l), none] [] = _
  unfold p__law_letter
  rw [seq_nx (e := [some (.int l), some (.int l.natAbs)]) (h' := []) (by simp [exec, asgS, ev, evs, biD, abs1, okI, abs_nat])]
  by_cases q : 0 < l
  · simp [exec, ev, evk, evs, evt, cmpD, okB, okI, truth, q, l0, l1, l2, Mini.alloc, mem, dct, encA, kw, okK, flatK, dPut, D.beq, D.beqL]
  · simp [exec, ev, evk, evs, evt, cmpD, okB, okI, truth, q, l0, l1, l2, l3, l4, Mini.alloc, mem, dct, encA, kw, okK, flatK, dPut, D.beq, D.beqL]
/-! ### without rows of 0 -/
theorem flt_go : ∀ (l acc : A), Nd (acc ++ l) → l.foldl (fun a (x : Row) => if decide (x.2 ≠ 0) = true then aput a x.1 x.2 else a) acc = acc ++ flt l
  | [], acc, _ => by simp [flt]
  | x :: l, acc, h => by
    have out : ¬ (acc.any fun p => decide (p.1 = x.1)) = true := fun z => by
      obtain ⟨p, hp, e⟩ := List.any_eq_true.mp z
      unfold Nd at h
      rw [List.map_append, List.map_cons] at h
      have := (List.nodup_append.mp h).2.2 p.1 (List.mem_map.mpr ⟨p, hp, rfl⟩) x.1 List.mem_cons_self
      exact this (by simpa using e)
    rw [List.foldl_cons]
    by_cases q : x.2 = 0
    · have nd : Nd (acc ++ l) := by
        unfold Nd at h ⊢
        refine h.sublist (List.Sublist.map _ (List.Sublist.append_left (List.sublist_cons_self _ _) _))
      rw [if_neg (by simpa using q), flt_go l acc nd]
      unfold flt
      rw [List.filter_cons_of_neg (by simpa using q)]
    · have e : aput acc x.1 x.2 = acc ++ [x] := by unfold aput; rw [if_neg out]
      rw [if_pos (by simpa using q), e, flt_go l _ (by simpa using h)]
      unfold flt
      rw [List.filter_cons_of_pos (by simpa using q), List.append_assoc]; rfl
theorem flt_ret {call : Caller} {env : Env} {h : List O} {m : Nat} {a : A} (ll : 4 < env.length) (e2 : env[2]? = some (some (.ref m))) (hm : h[m]? = some (dct a)) (ha : Ok a) :
    ∃ (k : Nat) (h' : List O), exec call pC (.lock 2 (.ret (.dc [3, 4] true (.tup (.cons (.slot 3) (.cons (.slot 4) (.nil)))) (.dit (.slot 2)) (.tru (.cmp .NotEq (.slot 4) (.int 0))) (.slot 3) (.slot 4)))) env h = some (.fl (.rt (.ref k)) h') ∧ h'[k]? = some (dct (flt a)) ∧ ∃ t, h' = h ++ t := by
  have hl : (h.set m (dctL a))[m]? = some (dctL a) := get_set hm
  have it : evi call (.dit (.slot 2)) env (h.set m (dctL a)) = some (.ok (a.map fun r => .tup [kw r.1, .int r.2], []) (h.set m (dctL a))) := dit_evi e2 hl
  have go := dc_fold (src := []) (t := true) (F := dcT call [3, 4] (.tup (.cons (.slot 3) (.cons (.slot 4) (.nil)))) (.tru (.cmp .NotEq (.slot 4) (.int 0))) (.slot 3) (.slot 4) env) (h := h.set m (dctL a)) kw_inj (fun r : Row => .tup [kw r.1, .int r.2]) (fun r : Row => r.1) (fun r => r.2) (fun r => decide (r.2 ≠ 0)) rfl kw_ok a [] (by simpa using Nat.le_of_lt (lim4 ha)) (fun r _ => by
    have l3 : 3 < (wipeD env [3, 4]).length := by show 3 < ((env.set 4 none).set 3 none).length; simp; omega
    have q : asgT (.tup (.cons (.slot 3) (.cons (.slot 4) (.nil)))) (.tup [kw r.1, .int r.2]) (wipeD env [3, 4]) = some (((wipeD env [3, 4]).set 3 (some (kw r.1))).set 4 (some (.int r.2))) := by
      have l4 : 4 < (wipeD env [3, 4]).length := by show 4 < ((env.set 4 none).set 3 none).length; simp; omega
      simp [asgT, asgT.asgTs, l3, l4]
    have l4 : 4 < ((wipeD env [3, 4]).set 3 (some (kw r.1))).length := by show 4 < (((env.set 4 none).set 3 none).set 3 _).length; simp; omega
    have s3 : (((wipeD env [3, 4]).set 3 (some (kw r.1))).set 4 (some (D.int r.2)))[3]? = some (some (kw r.1)) := by
      rw [List.getElem?_set_ne (by decide), List.getElem?_set_self l3]
    have s4 : (((wipeD env [3, 4]).set 3 (some (kw r.1))).set 4 (some (D.int r.2)))[4]? = some (some (.int r.2)) := List.getElem?_set_self l4
    have c : evt call (.tru (.cmp .NotEq (.slot 4) (.int 0))) (((wipeD env [3, 4]).set 3 (some (kw r.1))).set 4 (some (D.int r.2))) (h.set m (dctL a)) = some (.ok (decide (r.2 ≠ 0)) (h.set m (dctL a))) := by
      have q2 : (!(r.2 == 0)) = decide (r.2 ≠ 0) := by
        by_cases z : r.2 = 0 <;> simp [z]
      rw [← q2]
      exact t_bl (e_cmp0 (e_slot s4) (y := .int 0) rfl (cmp_nei _ _ _))
    unfold dcT
    rw [q]
    dsimp only
    rw [c, bnd_ok]
    by_cases z : r.2 = 0
    · have z' : decide (r.2 ≠ 0) = false := by simpa using z
      rw [z']; rfl
    · have z' : decide (r.2 ≠ 0) = true := by simpa using z
      rw [z', if_pos rfl, e_slot s3, bnd_ok, e_slot s4, bnd_ok]; rfl)
  have fe := flt_go a [] (by simpa using ha.1)
  rw [List.nil_append] at fe
  rw [fe] at go
  have dc := dc_ev (call := call) (own := [3, 4]) it go
  have rt := ret_ok (C := pC) dc
  have lk := lock_ok (i := 2) (n := m) (t := true) (t' := true) (kvs := encA kw a) (kvs' := encA kw a) (h := h) (h' := h.set m (dctL a) ++ [dct (flt a)]) e2 hm rt (by
    rw [List.getElem?_append_left (List.getElem?_eq_some_iff.mp hl).1]; exact hl)
  refine ⟨_, _, lk, ?_, [dct (flt a)], ?_⟩
  · have ne : m ≠ (h.set m (dctL a)).length := by
      have := (List.getElem?_eq_some_iff.mp hl).1
      omega
    unfold setH
    rw [List.getElem?_set_ne ne, get_end]
  · unfold setH
    have l := (List.getElem?_eq_some_iff.mp hm).1
    rw [List.set_append, if_pos (by rw [List.length_set]; exact l), List.set_set]
    congr 1
    exact set_self hm
/-- what was stays where it was -/
theorem ext_of {h h' : List O} (e : ∀ i, i < h.length → h'[i]? = h[i]?) : ∃ t, h' = h ++ t := by
  refine ⟨h'.drop h.length, ?_⟩
  have : h'.take h.length = h := by
    apply List.ext_getElem?
    intro i
    by_cases l : i < h.length
    · rw [List.getElem?_take_of_lt l, e i l]
    · rw [List.getElem?_eq_none (by rw [List.length_take]; omega), List.getElem?_eq_none (by omega)]
  conv => lhs; rw [← List.take_append_drop h.length h', this]
def Sm (a : A) : Prop := ∀ r ∈ a, r.2.natAbs < 2 ^ 64
theorem mo1 {r s : Row} (h : r.2.natAbs < 2 ^ 64) : mulOk r.2 s.2 = true := by unfold mulOk; simp [h]
theorem mo2 {r s : Row} (h : s.2.natAbs < 2 ^ 64) : mulOk r.2 s.2 = true := by unfold mulOk; simp [h]
/-- times_letter -/
def tl (a : A) (l : Int) : A := flt (mulA a (mem l))
theorem times_letter_call {n : Nat} {h : List O} {f : Nat} {a : A} {l : Int} (hf : h[f]? = some (dct a)) (ha : Ok a) (hl : l ≠ 0 ∧ l.natAbs ≤ 7) : ∃ (k : Nat) (h' : List O), cf (n + 2) 23 [.ref f, .int l] h = some (.ok (.ref k) h') ∧ h'[k]? = some (dct (tl a l)) := by
  have lf := (List.getElem?_eq_some_iff.mp hf).1
  have hmo := mem_ok hl
  obtain ⟨m, hm0⟩ : ∃ m, m = h.length := ⟨_, rfl⟩
  have fm : f ≠ m := by omega
  have run : ∃ (k : Nat) (h' : List O), exec (cf (n + 1)) pC p_times_letter [some (.ref f), some (.int l), none, none, none, none, none] h = some (.fl (.rt (.ref k)) h') ∧ h'[k]? = some (dct (tl a l)) := by
    obtain ⟨e, g, e1, x3, x4, x5, x6, rfl, gf, gm⟩ := for_ind (src := []) (f := turn (cf (n + 1)) pC (.tup (.cons (.slot 3) (.cons (.slot 4) (.nil)))) (.seq (.for (.tup (.cons (.slot 5) (.cons (.slot 6) (.nil)))) (.itr (.call 25 (.cons (.slot 1) (.nil)) [])) bMul) (.nil))) (xs := a.map fun r => D.tup [kw r.1, .int r.2])
      (fun i env g => ∃ x3 x4 x5 x6 : Option D, env = [some (.ref f), some (.int l), some (.ref m), x3, x4, x5, x6] ∧ g[f]? = some (dctL a) ∧ g[m]? = some (dct ((a.take i).foldl (row (mem l)) []))) (fun _ _ _ _ => rfl) (by
        rintro i x env g hx ⟨x3, x4, x5, x6, rfl, gf, gm⟩
        rw [List.getElem?_map] at hx
        obtain ⟨r, hr, rfl⟩ := Option.map_eq_some_iff.mp hx
        have rm := List.mem_of_getElem? hr
        have oi : Ok ((a.take i).foldl (row (mem l)) []) := ok_rows _ hmo.2 _ ok_nil fun s m => ha.2 s (List.mem_of_mem_take m)
        have lgm := (List.getElem?_eq_some_iff.mp gm).1
        have gm' : (g ++ [O.lst ((mem l).map rwD)])[m]? = some (dct ((a.take i).foldl (row (mem l)) [])) := by rw [List.getElem?_append_left lgm]; exact gm
        obtain ⟨env', ⟨y5, y6, rfl⟩, e⟩ := inner (call := cf (n + 1)) (f := fun e _ => e) (src := [(g.length, (mem l).map rwD)]) (tg := .tup (.cons (.slot 5) (.cons (.slot 6) (.nil)))) (bd := bMul) (env := [some (.ref f), some (.int l), some (.ref m), some (kw r.1), some (.int r.2), x5, x6]) (q := mem l) (r := r) (enc := rwD)
          (fun env => ∃ y5 y6 : Option D, env = [some (.ref f), some (.int l), some (.ref m), some (kw r.1), some (.int r.2), y5, y6]) ⟨x5, x6, rfl⟩ gm' oi (ha.2 r rm) hmo.2 (fun a' => by
            have : rdLst ((g ++ [O.lst ((mem l).map rwD)]).set m (dct a')) g.length = some ((mem l).map rwD) := by
              unfold rdLst
              rw [List.getElem?_set_ne (by omega), get_end]
            simp [chk, this, D.beqL_refl]) (by
            rintro env a' s ⟨y5, y6, rfl⟩ sm oa'
            refine ⟨[some (.ref f), some (.int l), some (.ref m), some (kw r.1), some (.int r.2), some (kw s.1), some (.int s.2)], ⟨_, _, rfl⟩, ?_⟩
            exact mul_exec rfl rfl rfl rfl rfl (get_set gm') oa' (ha.2 r rm) (hmo.2 s sm) (mo2 (Nat.lt_of_le_of_lt (mem_sm s sm) (by decide))))
        refine ⟨_, (g ++ [O.lst ((mem l).map rwD)]).set m (dct (row (mem l) ((a.take i).foldl (row (mem l)) []) r)), ?_, some (kw r.1), some (.int r.2), y5, y6, rfl, ?_, ?_⟩
        · show exec (cf (n + 1)) pC (.seq (.for (.tup (.cons (.slot 5) (.cons (.slot 6) (.nil)))) (.itr (.call 25 (.cons (.slot 1) (.nil)) [])) bMul) (.nil)) [some (.ref f), some (.int l), some (.ref m), some (kw r.1), some (.int r.2), x5, x6] g = _
          have it : evi (cf (n + 1)) (.itr (.call 25 (.cons (.slot 1) (.nil)) [])) [some (.ref f), some (.int l), some (.ref m), some (kw r.1), some (.int r.2), x5, x6] g = some (.ok ((mem l).map rwD, [(g.length, (mem l).map rwD)]) (g ++ [O.lst ((mem l).map rwD)])) := by
            rw [evi, e_call (s_one (e_slot rfl)) (members_call (n := n) l), bnd_ok]
            unfold itemsOf
            dsimp only
            rw [rd_end]
          rw [seq_nx (by rw [for_is it]; exact e)]
          rfl
        · rw [List.getElem?_set_ne (Ne.symm fm), List.getElem?_append_left (List.getElem?_eq_some_iff.mp gf).1]; exact gf
        · rw [get_set gm', List.take_add_one, hr, List.foldl_append]; rfl)
      (env := [some (.ref f), some (.int l), some (.ref m), none, none, none, none]) (h := (h ++ [dct []]).set f (dctL a)) ⟨none, none, none, none, rfl, get_set (o := dct a) (by rw [List.getElem?_append_left lf]; exact hf), by rw [List.getElem?_set_ne fm, hm0, get_end]; rfl⟩
    rw [List.length_map, List.take_length] at gm
    have gm2 : (g.set f (dct a))[m]? = some (dct (mulA a (mem l))) := by rw [List.getElem?_set_ne fm]; exact gm
    obtain ⟨k, h', er, ek, _⟩ := flt_ret (call := cf (n + 1)) (env := [some (.ref f), some (.int l), some (.ref m), x3, x4, x5, x6]) (h := g.set f (dct a)) (m := m) (a := mulA a (mem l)) (show 4 < 7 by decide) rfl gm2 (ok_mul ha hmo)
    refine ⟨k, h', ?_, ek⟩
    show exec (cf (n + 1)) pC (.seq (.asg (.slot 2) (.dnew true)) (.seq (.lock 0 (.for (.tup (.cons (.slot 3) (.cons (.slot 4) (.nil)))) (.dit (.slot 0)) (.seq (.for (.tup (.cons (.slot 5) (.cons (.slot 6) (.nil)))) (.itr (.call 25 (.cons (.slot 1) (.nil)) [])) bMul) (.nil)))) (.seq (.lock 2 (.ret (.dc [3, 4] true (.tup (.cons (.slot 3) (.cons (.slot 4) (.nil)))) (.dit (.slot 2)) (.tru (.cmp .NotEq (.slot 4) (.int 0))) (.slot 3) (.slot 4)))) (.nil)))) [some (.ref f), some (.int l), none, none, none, none, none] h = _
    rw [seq_nx (e := [some (.ref f), some (.int l), some (.ref m), none, none, none, none]) (h' := h ++ [dct []]) (by rw [hm0]; simp [exec, asgS, ev, Mini.alloc, dct, encA])]
    have it : evi (cf (n + 1)) (.dit (.slot 0)) [some (.ref f), some (.int l), some (.ref m), none, none, none, none] ((h ++ [dct []]).set f (dctL a)) = some (.ok (a.map (fun r => .tup [kw r.1, .int r.2]), []) ((h ++ [dct []]).set f (dctL a))) := dit_evi rfl (get_set (o := dct a) (by rw [List.getElem?_append_left lf]; exact hf))
    rw [seq_nx (lock_ok (n := f) (t := true) (t' := true) (kvs := encA kw a) (kvs' := encA kw a) rfl (by rw [List.getElem?_append_left lf]; exact hf) ((for_is it).trans e1) gf)]
    exact seq_rt er
  obtain ⟨k, h', e, ek⟩ := run
  exact ⟨k, h', hobj (fn := ⟨2, 7, p_times_letter⟩) rfl rfl rfl (ret_ret e), ek⟩
end Lk69
end

section
/-! k69: the algebra of expansions (own work). -/
namespace Lk69
open Mini
abbrev F := W → Int
def conv (f g : F) : F
  | [] => f [] * g []
  | [x] => f [] * g [x] + f [x] * g []
  | [x, y] => f [] * g [x, y] + (f [x] * g [y] + f [x, y] * g [])
  | [x, y, z] => f [] * g [x, y, z] + (f [x] * g [y, z] + (f [x, y] * g [z] + f [x, y, z] * g []))
  | _ => 0
def dl : F
  | [] => 1
  | _ => 0
def Z (f : F) : Prop := ∀ w, 3 < w.length → f w = 0
theorem z_conv (f g : F) : Z (conv f g) := fun w h => by
  match w, h with
  | [], h => simp at h
  | [_], h => simp at h
  | [_, _], h => simp at h
  | [_, _, _], h => simp at h
  | _ :: _ :: _ :: _ :: _, _ => rfl
theorem z_dl : Z dl := fun w h => by
  match w, h with
  | [], h => simp at h
  | _ :: _, _ => rfl
theorem conv_one (f : F) (h : Z f) : conv dl f = f := by
  funext w
  match w with
  | [] => simp [conv, dl]
  | [_] => simp [conv, dl]
  | [_, _] => simp [conv, dl]
  | [_, _, _] => simp [conv, dl]
  | _ :: _ :: _ :: _ :: _ => exact (h _ (by simp)).symm
theorem one_conv (f : F) (h : Z f) : conv f dl = f := by
  funext w
  match w with
  | [] => simp [conv, dl]
  | [_] => simp [conv, dl]
  | [_, _] => simp [conv, dl]
  | [_, _, _] => simp [conv, dl]
  | _ :: _ :: _ :: _ :: _ => exact (h _ (by simp)).symm
theorem conv_assoc (f g h : F) : conv (conv f g) h = conv f (conv g h) := by
  funext w
  match w with
  | [] => simp only [conv, Int.mul_assoc]
  | [_] => simp only [conv, Int.mul_assoc, Int.mul_add, Int.add_mul]; omega
  | [_, _] => simp only [conv, Int.mul_assoc, Int.mul_add, Int.add_mul]; omega
  | [_, _, _] => simp only [conv, Int.mul_assoc, Int.mul_add, Int.add_mul]; omega
  | _ :: _ :: _ :: _ :: _ => rfl
/-! ### dicts as functions -/
def io (u : W) (r : Row) : Int := if u = r.1 then r.2 else 0
def at' (a : A) (w : W) : Int := (a.map (io w)).sum
theorem get0_self {a : A} (h : Nd a) (w : W) : get0 a w = at' a w := by
  induction a with
  | nil => rfl
  | cons r a ih =>
    have nd : r.1 ∉ a.map (·.1) ∧ Nd a := List.nodup_cons.mp h
    unfold at'
    rw [List.map_cons, List.sum_cons]
    have ih' := ih nd.2
    unfold at' at ih'
    rw [← ih']
    by_cases e : r.1 = w
    · have z : get0 a w = 0 := get0_out (by rw [← e]; exact nd.1)
      have g : get0 (r :: a) w = r.2 := by simp [get0, aget, e]
      rw [g, z]
      simp [io, e]
    · have g : get0 (r :: a) w = get0 a w := by simp [get0, aget, e]
      have i : io w r = 0 := by unfold io; rw [if_neg (fun z => e z.symm)]
      rw [g, i]; omega
def tm (w : W) (r s : Row) : Int := if r.1.length + s.1.length ≤ 3 then (if w = r.1 ++ s.1 then r.2 * s.2 else 0) else 0
theorem get0_step (w : W) (r : Row) (a : A) (s : Row) : get0 (step r a s) w = get0 a w + tm w r s := by
  unfold step tm
  split
  · rw [get0_add1]
  · omega
theorem get0_row (w : W) (r : Row) : ∀ (q a : A), get0 (row q a r) w = get0 a w + (q.map (tm w r)).sum
  | [], a => by simp [row]
  | s :: q, a => by
    show get0 (row q (step r a s) r) w = _
    rw [get0_row w r q, get0_step, List.map_cons, List.sum_cons]; omega
theorem get0_rows (w : W) (q : A) : ∀ (p a : A), get0 (p.foldl (row q) a) w = get0 a w + (p.map fun r => (q.map (tm w r)).sum).sum
  | [], a => by simp
  | r :: p, a => by
    rw [List.foldl_cons, get0_rows w q p, get0_row, List.map_cons, List.sum_cons]; omega
theorem sum_c {α : Type} (c : Int) (f : α → Int) : ∀ l : List α, (l.map fun x => c * f x).sum = c * (l.map f).sum
  | [] => by simp
  | x :: l => by simp only [List.map_cons, List.sum_cons, sum_c c f l, Int.mul_add]
theorem sum_d {α : Type} (c : Int) (f : α → Int) : ∀ l : List α, (l.map fun x => f x * c).sum = (l.map f).sum * c
  | [] => by simp
  | x :: l => by simp only [List.map_cons, List.sum_cons, sum_d c f l, Int.add_mul]
theorem sum_add {α : Type} (f g : α → Int) : ∀ l : List α, (l.map fun x => f x + g x).sum = (l.map f).sum + (l.map g).sum
  | [] => rfl
  | x :: l => by
    simp only [List.map_cons, List.sum_cons, sum_add f g l]; omega
theorem sum_z {α : Type} : ∀ l : List α, (l.map fun _ => (0 : Int)).sum = 0
  | [] => rfl
  | x :: l => by rw [List.map_cons, List.sum_cons, sum_z l]; rfl
theorem mif {c : Prop} [Decidable c] (a b : Int) : a * (if c then b else 0) = if c then a * b else 0 := by split <;> simp
theorem imf {c : Prop} [Decidable c] (a b : Int) : (if c then a else 0) * b = if c then a * b else 0 := by split <;> simp
/-- one pair's part of a product, by where the word is cut -/
theorem tm0 (r s : Row) : tm [] r s = io [] r * io [] s := by
  unfold tm io
  rcases r with ⟨u, a⟩
  rcases s with ⟨v, b⟩
  cases u <;> cases v <;> simp [mif, imf]
theorem tm1 (x : Int) (r s : Row) : tm [x] r s = io [] r * io [x] s + io [x] r * io [] s := by
  unfold tm io
  rcases r with ⟨u, a⟩
  rcases s with ⟨v, b⟩
  match u, v with
  | [], [] => simp [mif, imf]
  | [], [_] => simp [mif, imf]
  | [], _ :: _ :: _ => simp [mif, imf]
  | [_], [] => simp [mif, imf]
  | [_], _ :: _ => simp [mif, imf]
  | _ :: _ :: _, _ => simp [mif, imf]
theorem tm2 (x y : Int) (r s : Row) : tm [x, y] r s = io [] r * io [x, y] s + (io [x] r * io [y] s + io [x, y] r * io [] s) := by
  unfold tm io
  rcases r with ⟨u, a⟩
  rcases s with ⟨v, b⟩
  match u, v with
  | [], [] => simp [mif, imf]
  | [], [_] => simp [mif, imf]
  | [], [_, _] => simp [mif, imf]
  | [], _ :: _ :: _ :: _ => simp [mif, imf]
  | [_], [] => simp [mif, imf]
  | [p], [q] =>
    by_cases h1 : x = p <;> by_cases h2 : y = q <;> simp [h1, h2]
  | [_], _ :: _ :: _ => simp [mif, imf]
  | [_, _], [] => simp [mif, imf]
  | [_, _], _ :: _ => simp [mif, imf]
  | _ :: _ :: _ :: _, _ => simp [mif, imf]
theorem tm3 (x y z : Int) (r s : Row) : tm [x, y, z] r s = io [] r * io [x, y, z] s + (io [x] r * io [y, z] s + (io [x, y] r * io [z] s + io [x, y, z] r * io [] s)) := by
  unfold tm io
  rcases r with ⟨u, a⟩
  rcases s with ⟨v, b⟩
  match u, v with
  | [], [] => simp [mif, imf]
  | [], [_] => simp [mif, imf]
  | [], [_, _] => simp [mif, imf]
  | [], [_, _, _] => simp [mif, imf]
  | [], _ :: _ :: _ :: _ :: _ => simp [mif, imf]
  | [_], [] => simp [mif, imf]
  | [_], [_] => simp [mif, imf]
  | [p], [q, t] =>
    by_cases h1 : x = p <;> by_cases h2 : y = q <;> by_cases h3 : z = t <;> simp [h1, h2, h3]
  | [_], _ :: _ :: _ :: _ => simp [mif, imf]
  | [_, _], [] => simp [mif, imf]
  | [p, q], [t] =>
    by_cases h1 : x = p <;> by_cases h2 : y = q <;> by_cases h3 : z = t <;> simp [h1, h2, h3]
  | [_, _], _ :: _ :: _ => simp [mif, imf]
  | [_, _, _], [] => simp [mif, imf]
  | [_, _, _], _ :: _ => simp [mif, imf]
  | _ :: _ :: _ :: _ :: _, _ => simp [mif, imf]
theorem tm4 {w : W} (h : 3 < w.length) (r s : Row) : tm w r s = 0 := by
  unfold tm
  split
  · rename_i l
    rw [if_neg]
    intro e
    rw [e, List.length_append] at h
    omega
  · rfl
theorem get0_mul {p q : A} (hp : Nd p) (hq : Nd q) : get0 (mulA p q) = conv (get0 p) (get0 q) := by
  funext w
  have e := get0_rows w q p []
  rw [show get0 ([] : A) w = 0 from rfl, Int.zero_add] at e
  show get0 (p.foldl (row q) []) w = _
  rw [e]
  have P := fun u => get0_self hp u
  have Q := fun u => get0_self hq u
  match w with
  | [] =>
    have t : ∀ r : Row, (q.map (tm [] r)).sum = io [] r * at' q [] := fun r => by
      rw [show tm [] r = fun s => io [] r * io [] s from funext (tm0 r)]; exact sum_c _ _ q
    simp only [conv, P, Q, t]
    exact sum_d _ _ p
  | [x] =>
    have t : ∀ r : Row, (q.map (tm [x] r)).sum = io [] r * at' q [x] + io [x] r * at' q [] := fun r => by
      rw [show tm [x] r = _ from funext (tm1 x r)]
      simp only [sum_add, sum_c]; rfl
    simp only [conv, P, Q, t, sum_add, sum_d]
    rfl
  | [x, y] =>
    have t : ∀ r : Row, (q.map (tm [x, y] r)).sum = io [] r * at' q [x, y] + (io [x] r * at' q [y] + io [x, y] r * at' q []) := fun r => by
      rw [show tm [x, y] r = _ from funext (tm2 x y r)]
      simp only [sum_add, sum_c]; rfl
    simp only [conv, P, Q, t, sum_add, sum_d]
    rfl
  | [x, y, z] =>
    have t : ∀ r : Row, (q.map (tm [x, y, z] r)).sum = io [] r * at' q [x, y, z] + (io [x] r * at' q [y, z] + (io [x, y] r * at' q [z] + io [x, y, z] r * at' q [])) := fun r => by
      rw [show tm [x, y, z] r = _ from funext (tm3 x y z r)]
      simp only [sum_add, sum_c]; rfl
    simp only [conv, P, Q, t, sum_add, sum_d]
    rfl
  | a :: b :: c :: d :: w =>
    have : ∀ r : Row, (q.map (tm (a :: b :: c :: d :: w) r)).sum = 0 := fun r => by
      have : tm (a :: b :: c :: d :: w) r = fun _ => 0 := by funext s; exact tm4 (by simp) r s
      rw [this]; exact sum_z q
    simp only [this]
    exact sum_z p
theorem get0_flt (a : A) (h : Nd a) : get0 (flt a) = get0 a := by
  funext w
  rw [get0_self h]
  have nd : Nd (flt a) := h.sublist (List.Sublist.map _ List.filter_sublist)
  rw [get0_self nd]
  clear h nd
  unfold at' flt
  induction a with
  | nil => rfl
  | cons r a ih =>
    by_cases q : r.2 = 0
    · rw [List.filter_cons_of_neg (by simpa using q), ih, List.map_cons, List.sum_cons]
      have : io w r = 0 := by unfold io; rw [q]; split <;> rfl
      omega
    · rw [List.filter_cons_of_pos (by simpa using q), List.map_cons, List.sum_cons, ih, List.map_cons, List.sum_cons]
/-! ### letters -/
def L (l : Int) : F := get0 (mem l)
def Lp (k : Int) : F
  | [] => 1
  | [x] => if x = k then 1 else 0
  | _ => 0
def Ln (k : Int) : F
  | [] => 1
  | [x] => if x = k then -1 else 0
  | [x, y] => if x = k ∧ y = k then 1 else 0
  | [x, y, z] => if x = k ∧ y = k ∧ z = k then -1 else 0
  | _ => 0
theorem L_pos {l : Int} (h : 0 < l) : L l = Lp l.natAbs := by
  funext w
  unfold L mem
  rw [if_pos h]
  match w with
  | [] => simp [get0, aget, Lp]
  | [x] =>
    by_cases e : (l.natAbs : Int) = x
    · simp [get0, aget, Lp, e]
    · have e' : ¬ x = (l.natAbs : Int) := fun z => e z.symm
      simp only [get0, aget, Lp, List.find?_cons, List.find?_nil]
      simp [e, e']
  | _ :: _ :: _ => simp [get0, aget, Lp]
theorem L_neg {l : Int} (h : ¬ 0 < l) : L l = Ln l.natAbs := by
  funext w
  unfold L mem
  rw [if_neg h]
  generalize (l.natAbs : Int) = k
  match w with
  | [] => simp [get0, aget, Ln]
  | [x] =>
    by_cases e : k = x
    · simp [get0, aget, Ln, e]
    · have e' : ¬ x = k := fun z => e z.symm
      simp [get0, aget, Ln, e, e']
  | [x, y] =>
    by_cases e : k = x <;> by_cases e2 : k = y
    · subst e; subst e2; simp [get0, aget, Ln]
    · subst e
      have e' : ¬ y = k := fun z => e2 z.symm
      simp [get0, aget, Ln, e2, e']
    · have e' : ¬ x = k := fun z => e z.symm
      simp [get0, aget, Ln, e, e']
    · have e' : ¬ x = k := fun z => e z.symm
      simp [get0, aget, Ln, e, e']
  | [x, y, z] =>
    by_cases e : k = x
    · subst e
      by_cases e2 : k = y
      · subst e2
        by_cases e3 : k = z
        · subst e3; simp [get0, aget, Ln]
        · have e' : ¬ z = k := fun q => e3 q.symm
          simp [get0, aget, Ln, e3, e']
      · have e' : ¬ y = k := fun q => e2 q.symm
        simp [get0, aget, Ln, e2, e']
    · have e' : ¬ x = k := fun q => e q.symm
      simp [get0, aget, Ln, e, e']
  | _ :: _ :: _ :: _ :: _ => simp [get0, aget, Ln]
theorem z_L (l : Int) : Z (L l) := fun w h => by
  by_cases q : 0 < l
  · rw [L_pos q]
    match w, h with
    | [], h => simp at h
    | [_], h => simp at h
    | _ :: _ :: _, _ => rfl
  · rw [L_neg q]
    match w, h with
    | [], h => simp at h
    | [_], h => simp at h
    | [_, _], h => simp at h
    | [_, _, _], h => simp at h
    | _ :: _ :: _ :: _ :: _, _ => rfl
theorem pn (k : Int) : conv (Lp k) (Ln k) = dl := by
  funext w
  match w with
  | [] => simp [conv, Lp, Ln, dl]
  | [x] => by_cases a : x = k <;> simp [conv, Lp, Ln, dl, a]
  | [x, y] => by_cases a : x = k <;> by_cases b : y = k <;> simp [conv, Lp, Ln, dl, a, b]
  | [x, y, z] => by_cases a : x = k <;> by_cases b : y = k <;> by_cases c : z = k <;> simp [conv, Lp, Ln, dl, a, b, c]
  | _ :: _ :: _ :: _ :: _ => rfl
theorem np (k : Int) : conv (Ln k) (Lp k) = dl := by
  funext w
  match w with
  | [] => simp [conv, Lp, Ln, dl]
  | [x] => by_cases a : x = k <;> simp [conv, Lp, Ln, dl, a]
  | [x, y] => by_cases a : x = k <;> by_cases b : y = k <;> simp [conv, Lp, Ln, dl, a, b]
  | [x, y, z] => by_cases a : x = k <;> by_cases b : y = k <;> by_cases c : z = k <;> simp [conv, Lp, Ln, dl, a, b, c]
  | _ :: _ :: _ :: _ :: _ => rfl
theorem L_inv {l : Int} (h : l ≠ 0) : conv (L l) (L (-l)) = dl := by
  by_cases q : 0 < l
  · rw [L_pos q, L_neg (by omega), Int.natAbs_neg]; exact pn _
  · rw [L_neg q, L_pos (by omega), Int.natAbs_neg]; exact np _
/-- the expansion of letters -/
def X : W → F
  | [] => dl
  | l :: ls => conv (L l) (X ls)
theorem z_X : ∀ l, Z (X l)
  | [] => z_dl
  | _ :: _ => z_conv _ _
theorem X_one (l : Int) : X [l] = L l := one_conv _ (z_L l)
theorem X_app : ∀ a b : W, X (a ++ b) = conv (X a) (X b)
  | [], b => (conv_one _ (z_X b)).symm
  | l :: a, b => by
    show conv (L l) (X (a ++ b)) = conv (conv (L l) (X a)) (X b)
    rw [X_app a b, conv_assoc]
theorem X_negs : ∀ l : W, (∀ x ∈ l, x ≠ 0) → conv (X l) (X (negs l)) = dl
  | [], _ => conv_one _ z_dl
  | x :: l, h => by
    have e : negs (x :: l) = negs l ++ [-x] := by unfold negs; rw [List.reverse_cons, List.map_append]; rfl
    rw [e, X_app, X_one]
    show conv (conv (L x) (X l)) (conv (X (negs l)) (L (-x))) = dl
    rw [conv_assoc, ← conv_assoc (X l), X_negs l (fun y m => h y (List.mem_cons_of_mem _ m)), conv_one _ (z_L _), L_inv (h x List.mem_cons_self)]
theorem X_put1 (st : W) (x : Int) (hx : x ≠ 0) : X (put1 st x) = conv (X st) (L x) := by
  unfold put1
  split
  · rename_i e
    obtain ⟨s, rfl⟩ : ∃ s, st = s ++ [-x] := by
      rcases List.eq_nil_or_concat st with q | ⟨s, y, q⟩
      · subst q; cases e
      · rw [List.concat_eq_append] at q
        subst q
        rw [List.getLast?_append] at e
        simp at e
        exact ⟨s, by rw [e]⟩
    have inv := L_inv (l := -x) (by omega)
    rw [Int.neg_neg] at inv
    rw [List.dropLast_concat, X_app, X_one, conv_assoc, inv, one_conv _ (z_X s)]
  · rw [X_app, X_one]
theorem X_plain : ∀ (w st : W), (∀ x ∈ w, x ≠ 0) → X (w.foldl put1 st) = conv (X st) (X w)
  | [], st, _ => (one_conv _ (z_X st)).symm
  | x :: w, st, h => by
    rw [List.foldl_cons, X_plain w _ fun y m => h y (List.mem_cons_of_mem _ m), X_put1 st x (h x List.mem_cons_self), conv_assoc]; rfl
theorem X_plainW {w : W} (h : ∀ x ∈ w, x ≠ 0) : X (plainW w) = X w := by
  unfold plainW
  rw [X_plain w [] h]
  exact conv_one _ (z_X w)
/-! ### bounds -/
theorem L_le (l : Int) (w : W) : (L l w).natAbs ≤ 1 := by
  unfold L get0 aget
  cases e : (mem l).find? fun p => decide (p.1 = w) with
  | none => exact Nat.zero_le _
  | some r => exact mem_sm r (List.mem_of_find?_eq_some e)
theorem L_nil (l : Int) : L l [] = 1 := by
  by_cases q : 0 < l
  · rw [L_pos q]; rfl
  · rw [L_neg q]; rfl
theorem X_nil : ∀ l, X l [] = 1
  | [] => rfl
  | l :: ls => by
    show L l [] * X ls [] = 1
    rw [L_nil, X_nil ls]; rfl
theorem mul_le1 {a b : Int} {n : Nat} (ha : a.natAbs ≤ 1) (hb : b.natAbs ≤ n) : (a * b).natAbs ≤ n := by
  rw [Int.natAbs_mul]
  have := Nat.mul_le_mul ha hb
  omega
theorem X_le : ∀ l : W, (∀ x, (X l [x]).natAbs ≤ l.length) ∧ (∀ x y, (X l [x, y]).natAbs ≤ l.length ^ 2) ∧ ∀ x y z, (X l [x, y, z]).natAbs ≤ l.length ^ 3
  | [] => ⟨fun _ => Nat.zero_le _, fun _ _ => Nat.zero_le _, fun _ _ _ => Nat.zero_le _⟩
  | l :: ls => by
    obtain ⟨h1, h2, h3⟩ := X_le ls
    have l0 := L_nil l
    have x0 := X_nil ls
    refine ⟨fun x => ?_, fun x y => ?_, fun x y z => ?_⟩
    · have a := L_le l [x]
      have b := h1 x
      show (L l [] * X ls [x] + L l [x] * X ls []).natAbs ≤ _
      rw [l0, x0, List.length_cons]; omega
    · have a := h2 x y
      have b := mul_le1 (L_le l [x]) (h1 y)
      have c := L_le l [x, y]
      show (L l [] * X ls [x, y] + (L l [x] * X ls [y] + L l [x, y] * X ls [])).natAbs ≤ _
      rw [l0, x0, List.length_cons]
      have e : (ls.length + 1) ^ 2 = ls.length ^ 2 + 2 * ls.length + 1 := by
        rw [Nat.pow_two, Nat.pow_two, Nat.add_mul, Nat.mul_add]; omega
      rw [e]; omega
    · have a := h3 x y z
      have b := mul_le1 (L_le l [x]) (h2 y z)
      have c := mul_le1 (L_le l [x, y]) (h1 z)
      have d := L_le l [x, y, z]
      show (L l [] * X ls [x, y, z] + (L l [x] * X ls [y, z] + (L l [x, y] * X ls [z] + L l [x, y, z] * X ls []))).natAbs ≤ _
      rw [l0, x0, List.length_cons]
      have e : ls.length ^ 3 + ls.length ^ 2 + ls.length + 1 ≤ (ls.length + 1) ^ 3 := by
        have e2 : (ls.length + 1) ^ 3 = (ls.length + 1) ^ 2 * (ls.length + 1) := Nat.pow_succ _ _
        have e3 : (ls.length + 1) ^ 2 = ls.length ^ 2 + 2 * ls.length + 1 := by
          rw [Nat.pow_two, Nat.pow_two, Nat.add_mul, Nat.mul_add]; omega
        have e4 : ls.length ^ 3 = ls.length ^ 2 * ls.length := Nat.pow_succ _ _
        rw [e2, e3, e4, Nat.mul_add, Nat.add_mul, Nat.add_mul]
        omega
      omega
theorem X_bd {l : W} (h : l.length ≤ 1000) (w : W) : (X l w).natAbs ≤ 1000000000 := by
  obtain ⟨h1, h2, h3⟩ := X_le l
  have p2 : l.length ^ 2 ≤ 1000 ^ 2 := Nat.pow_le_pow_left h 2
  have p3 : l.length ^ 3 ≤ 1000 ^ 3 := Nat.pow_le_pow_left h 3
  match w with
  | [] => rw [X_nil]; decide
  | [x] => have := h1 x; omega
  | [x, y] => have := h2 x y; omega
  | [x, y, z] => have := h3 x y z; omega
  | a :: b :: c :: d :: w =>
    rw [z_X l _ (by simp)]; decide
end Lk69
end

section
/-! k69: expanded, products, the law's expansion by halves (own work). -/
namespace Lk69
open Mini
def unit : A := [([], 1)]
theorem unit_ok : Ok unit := ⟨by simp [Nd, unit], fun r hr => by
  simp only [unit, List.mem_cons, List.not_mem_nil, or_false] at hr
  subst hr
  exact ⟨by simp, fun _ h => nomatch h⟩⟩
theorem unit_get : get0 unit = dl := by
  funext w
  cases w <;> simp [get0, aget, unit, dl]
theorem unit_ev {call : Caller} {env : Env} {h : List O} : ev call (.dsp true (.kv (.tup .nil) (.int 1) .nil)) env h = some (.ok (.ref h.length) (h ++ [dct unit])) := by
  obtain ⟨l0, _⟩ := lims
  simp [ev, evk, evs, l0, okK, dPut, Mini.alloc, dct, encA, unit, kw]
theorem ok_tl {a : A} {l : Int} (ha : Ok a) (hl : l ≠ 0 ∧ l.natAbs ≤ 7) : Ok (tl a l) := ok_flt (ok_mul ha (mem_ok hl))
theorem tl_get {a : A} {l : Int} (ha : Ok a) (hl : l ≠ 0 ∧ l.natAbs ≤ 7) : get0 (tl a l) = conv (get0 a) (L l) := by
  unfold tl
  rw [get0_flt _ (ok_mul ha (mem_ok hl)).1, get0_mul ha.1 (mem_ok hl).1]; rfl
def expd (l : W) : A := l.foldl tl unit
theorem ok_expd : ∀ (l : W) {a : A}, Ok a → (∀ x ∈ l, x ≠ 0 ∧ x.natAbs ≤ 7) → Ok (l.foldl tl a)
  | [], _, h, _ => h
  | x :: l, _, h, hl => ok_expd l (ok_tl h (hl x List.mem_cons_self)) fun y m => hl y (List.mem_cons_of_mem _ m)
theorem expd_go : ∀ (l : W) {a : A}, Ok a → (∀ x ∈ l, x ≠ 0 ∧ x.natAbs ≤ 7) → get0 (l.foldl tl a) = conv (get0 a) (X l)
  | [], a, h, _ => (one_conv _ (fun w hw => get0_out fun m => by
    obtain ⟨r, hr, e⟩ := List.mem_map.mp m
    have := (h.2 r hr).1
    rw [e] at this
    omega)).symm
  | x :: l, a, h, hl => by
    have hx := hl x List.mem_cons_self
    rw [List.foldl_cons, expd_go l (ok_tl h hx) fun y m => hl y (List.mem_cons_of_mem _ m), tl_get h hx, conv_assoc]; rfl
theorem expd_get {l : W} (h : Lt l) : get0 (expd l) = X l := by
  unfold expd
  rw [expd_go l unit_ok h.ne, unit_get]
  exact conv_one _ (z_X l)
/-- rows without 0 -/
def Nz (a : A) : Prop := ∀ r ∈ a, r.2 ≠ 0
theorem nz_flt (a : A) : Nz (flt a) := fun r hr => by simpa using (List.mem_filter.mp hr).2
theorem nz_expd : ∀ (l : W) {a : A}, Nz a → Nz (l.foldl tl a)
  | [], _, h => h
  | x :: l, _, h => nz_expd l (nz_flt _)
theorem expanded_call {n : Nat} {h : List O} {l : W} (v : Lt l) : cf (n + 3) 16 [kw l] h = some (.ok (.ref h.length) (h ++ [dct (expd l)])) := by
  obtain ⟨e, g, e1, k, b, rfl, gk⟩ := for_ind (src := []) (f := turn (cf (n + 2)) pC (.slot 2) (.seq (.asg (.slot 1) (.call 23 (.cons (.slot 1) (.cons (.slot 2) (.nil))) [])) (.nil))) (xs := l.map D.int)
    (fun i env g => ∃ (k : Nat) (b : Option D), env = [some (kw l), some (.ref k), b] ∧ g[k]? = some (dct ((l.take i).foldl tl unit))) (fun _ _ _ _ => rfl) (by
      rintro i x env g hx ⟨k, b, rfl, gk⟩
      rw [List.getElem?_map] at hx
      obtain ⟨r, hr, rfl⟩ := Option.map_eq_some_iff.mp hx
      have rm := List.mem_of_getElem? hr
      have oi : Ok ((l.take i).foldl tl unit) := ok_expd _ unit_ok fun y m => v.ne y (List.mem_of_mem_take m)
      obtain ⟨k', h', e, ek⟩ := times_letter_call (n := n) gk oi (v.ne r rm)
      refine ⟨[some (kw l), some (.ref k'), some (.int r)], h', ?_, k', _, rfl, ?_⟩
      · show exec (cf (n + 2)) pC (.seq (.asg (.slot 1) (.call 23 (.cons (.slot 1) (.cons (.slot 2) (.nil))) [])) (.nil)) [some (kw l), some (.ref k), some (.int r)] g = _
        rw [seq_nx (asg_ok (e_call (s_two (e_slot rfl) (e_slot rfl)) e) (show 1 < 3 by decide))]; rfl
      · rw [List.take_add_one, hr, List.foldl_append]; exact ek) (env := [some (kw l), some (.ref 0), none]) (h := [dct unit]) ⟨0, none, rfl, rfl⟩
  rw [List.length_map, List.take_length] at gk
  refine pobj (fn := ⟨1, 3, p_expanded⟩) rfl rfl (by simp [D.pureL, kw_pure]) (g := g) (m := k) (ret_ret ?_) gk (enc_pure _)
  show exec (cf (n + 2)) pC (.seq (.asg (.slot 1) (.dsp true (.kv (.tup .nil) (.int 1) .nil))) (.seq (.for (.slot 2) (.itr (.slot 0)) (.seq (.asg (.slot 1) (.call 23 (.cons (.slot 1) (.cons (.slot 2) (.nil))) [])) (.nil))) (.seq (.ret (.slot 1)) (.nil)))) [some (kw l), none, none] [] = _
  rw [seq_nx (e := [some (kw l), some (.ref 0), none]) (h' := [dct unit]) (asg_ok unit_ev (show 1 < 3 by decide))]
  rw [seq_nx (by rw [for_is (p := (l.map D.int, [])) (by simp [evi, ev, kw, itemsOf]; rfl)]; exact e1)]
  exact seq_rt (ret_ok (e_slot rfl))
/-! ### the program's product -/
theorem product_call {n : Nat} {h : List O} {f g : Nat} {a b : A} (hf : h[f]? = some (dct a)) (hg : h[g]? = some (dct b)) (fg : f ≠ g) (ha : Ok a) (hb : Ok b) (sa : Sm a) : ∃ (k : Nat) (h' : List O), cf (n + 1) 20 [.ref f, .ref g] h = some (.ok (.ref k) h') ∧ h'[k]? = some (dct (flt (mulA a b))) ∧ ∃ t, h' = h ++ t := by
  have lf := (List.getElem?_eq_some_iff.mp hf).1
  have lg := (List.getElem?_eq_some_iff.mp hg).1
  obtain ⟨m, hm0⟩ : ∃ m, m = h.length := ⟨_, rfl⟩
  have fm : f ≠ m := by omega
  have gm : g ≠ m := by omega
  have run : ∃ (k : Nat) (h' : List O), exec (cf n) pC p_product_of [some (.ref f), some (.ref g), none, none, none, none, none] h = some (.fl (.rt (.ref k)) h') ∧ h'[k]? = some (dct (flt (mulA a b))) ∧ ∃ t, h' = h ++ t := by
    obtain ⟨e, k, e1, x3, x4, x5, x6, rfl, kf, kg, km, kr⟩ := for_ind (src := []) (f := turn (cf n) pC (.tup (.cons (.slot 3) (.cons (.slot 4) (.nil)))) (.seq (.lock 1 (.for (.tup (.cons (.slot 5) (.cons (.slot 6) (.nil)))) (.dit (.slot 1)) bMul)) (.nil))) (xs := a.map fun r => D.tup [kw r.1, .int r.2])
      (fun i env k => ∃ x3 x4 x5 x6 : Option D, env = [some (.ref f), some (.ref g), some (.ref m), x3, x4, x5, x6] ∧ k[f]? = some (dctL a) ∧ k[g]? = some (dct b) ∧ k[m]? = some (dct ((a.take i).foldl (row b) [])) ∧ ∀ j, j < h.length → j ≠ f → k[j]? = h[j]?) (fun _ _ _ _ => rfl) (by
        rintro i x env k hx ⟨x3, x4, x5, x6, rfl, kf, kg, km, kr⟩
        rw [List.getElem?_map] at hx
        obtain ⟨r, hr, rfl⟩ := Option.map_eq_some_iff.mp hx
        have rm := List.mem_of_getElem? hr
        have oi : Ok ((a.take i).foldl (row b) []) := ok_rows _ hb.2 _ ok_nil fun s m => ha.2 s (List.mem_of_mem_take m)
        have km' : (k.set g (dctL b))[m]? = some (dct ((a.take i).foldl (row b) [])) := by rw [List.getElem?_set_ne gm]; exact km
        obtain ⟨env', ⟨y5, y6, rfl⟩, e⟩ := inner (call := cf n) (f := fun e _ => e) (src := []) (tg := .tup (.cons (.slot 5) (.cons (.slot 6) (.nil)))) (bd := bMul) (env := [some (.ref f), some (.ref g), some (.ref m), some (kw r.1), some (.int r.2), x5, x6]) (q := b) (r := r) (enc := fun r => .tup [kw r.1, .int r.2])
          (fun env => ∃ y5 y6 : Option D, env = [some (.ref f), some (.ref g), some (.ref m), some (kw r.1), some (.int r.2), y5, y6]) ⟨x5, x6, rfl⟩ km' oi (ha.2 r rm) hb.2 (fun a' => rfl) (by
            rintro env a' s ⟨y5, y6, rfl⟩ sm oa'
            refine ⟨[some (.ref f), some (.ref g), some (.ref m), some (kw r.1), some (.int r.2), some (kw s.1), some (.int s.2)], ⟨_, _, rfl⟩, ?_⟩
            exact mul_exec rfl rfl rfl rfl rfl (get_set km') oa' (ha.2 r rm) (hb.2 s sm) (mo1 (sa r rm)))
        have gL : ((k.set g (dctL b)).set m (dct (row b ((a.take i).foldl (row b) []) r)))[g]? = some (dctL b) := by
          rw [List.getElem?_set_ne (Ne.symm gm)]; exact get_set kg
        refine ⟨_, ((k.set g (dctL b)).set m (dct (row b ((a.take i).foldl (row b) []) r))).set g (dct b), ?_, some (kw r.1), some (.int r.2), y5, y6, rfl, ?_, ?_, ?_, fun j hj jf => ?_⟩
        · show exec (cf n) pC (.seq (.lock 1 (.for (.tup (.cons (.slot 5) (.cons (.slot 6) (.nil)))) (.dit (.slot 1)) bMul)) (.nil)) [some (.ref f), some (.ref g), some (.ref m), some (kw r.1), some (.int r.2), x5, x6] k = _
          have it : evi (cf n) (.dit (.slot 1)) [some (.ref f), some (.ref g), some (.ref m), some (kw r.1), some (.int r.2), x5, x6] (k.set g (dctL b)) = some (.ok (b.map (fun r => .tup [kw r.1, .int r.2]), []) (k.set g (dctL b))) := dit_evi rfl (get_set kg)
          rw [seq_nx (lock_ok (n := g) (t := true) (t' := true) (kvs := encA kw b) (kvs' := encA kw b) rfl kg ((for_is it).trans e) gL)]
          rfl
        · rw [List.getElem?_set_ne (Ne.symm fg), List.getElem?_set_ne (Ne.symm fm), List.getElem?_set_ne (Ne.symm fg)]; exact kf
        · exact get_set gL
        · rw [List.getElem?_set_ne gm, get_set km', List.take_add_one, hr, List.foldl_append]; rfl
        · by_cases jg : j = g
          · rw [jg, get_set gL, hg]
          · rw [List.getElem?_set_ne (fun z => jg z.symm), List.getElem?_set_ne (by omega), List.getElem?_set_ne (fun z => jg z.symm)]; exact kr j hj jf)
      (env := [some (.ref f), some (.ref g), some (.ref m), none, none, none, none]) (h := (h ++ [dct []]).set f (dctL a)) ⟨none, none, none, none, rfl, get_set (o := dct a) (by rw [List.getElem?_append_left lf]; exact hf), by rw [List.getElem?_set_ne fg, List.getElem?_append_left lg]; exact hg, by rw [List.getElem?_set_ne fm, hm0, get_end]; rfl, fun j hj jf => by rw [List.getElem?_set_ne (fun z => jf z.symm), List.getElem?_append_left hj]⟩
    rw [List.length_map, List.take_length] at km
    have km2 : (k.set f (dct a))[m]? = some (dct (mulA a b)) := by rw [List.getElem?_set_ne fm]; exact km
    have kx : ∀ j, j < h.length → (k.set f (dct a))[j]? = h[j]? := fun j hj => by
      by_cases jf : j = f
      · rw [jf, get_set kf, hf]
      · rw [List.getElem?_set_ne (fun z => jf z.symm)]; exact kr j hj jf
    obtain ⟨z, h', er, ek, t, et⟩ := flt_ret (call := cf n) (env := [some (.ref f), some (.ref g), some (.ref m), x3, x4, x5, x6]) (h := k.set f (dct a)) (m := m) (a := mulA a b) (show 4 < 7 by decide) rfl km2 (ok_mul ha hb)
    refine ⟨z, h', ?_, ek, ext_of fun j hj => by
      have l : j < (k.set f (dct a)).length := by
        have := kx j hj
        rw [List.getElem?_eq_getElem hj] at this
        exact (List.getElem?_eq_some_iff.mp this).1
      rw [et, List.getElem?_append_left l]; exact kx j hj⟩
    show exec (cf n) pC (.seq (.asg (.slot 2) (.dnew true)) (.seq (.lock 0 (.for (.tup (.cons (.slot 3) (.cons (.slot 4) (.nil)))) (.dit (.slot 0)) (.seq (.lock 1 (.for (.tup (.cons (.slot 5) (.cons (.slot 6) (.nil)))) (.dit (.slot 1)) bMul)) (.nil)))) (.seq (.lock 2 (.ret (.dc [3, 4] true (.tup (.cons (.slot 3) (.cons (.slot 4) (.nil)))) (.dit (.slot 2)) (.tru (.cmp .NotEq (.slot 4) (.int 0))) (.slot 3) (.slot 4)))) (.nil)))) [some (.ref f), some (.ref g), none, none, none, none, none] h = _
    rw [seq_nx (e := [some (.ref f), some (.ref g), some (.ref m), none, none, none, none]) (h' := h ++ [dct []]) (by rw [hm0]; simp [exec, asgS, ev, Mini.alloc, dct, encA])]
    have it : evi (cf n) (.dit (.slot 0)) [some (.ref f), some (.ref g), some (.ref m), none, none, none, none] ((h ++ [dct []]).set f (dctL a)) = some (.ok (a.map (fun r => .tup [kw r.1, .int r.2]), []) ((h ++ [dct []]).set f (dctL a))) := dit_evi rfl (get_set (o := dct a) (by rw [List.getElem?_append_left lf]; exact hf))
    rw [seq_nx (lock_ok (n := f) (t := true) (t' := true) (kvs := encA kw a) (kvs' := encA kw a) rfl (by rw [List.getElem?_append_left lf]; exact hf) ((for_is it).trans e1) kf)]
    exact seq_rt er
  obtain ⟨k, h', e, ek, et⟩ := run
  exact ⟨k, h', hobj (fn := ⟨2, 7, p_product_of⟩) rfl rfl rfl (ret_ret e), ek, et⟩
/-! ### the law's product -/
def bTi : S := .seq (.ite (.tru (.cmp .Lt (.bin .Add (.bi .len (.cons (.slot 3) (.nil))) (.bi .len (.cons (.slot 4) (.nil)))) (.int 4))) (.seq (.asg (.tsub (.slot 2) (.bin .Add (.slot 3) (.slot 4))) (.bin .Add (.mt .get (.slot 2) (.cons (.bin .Add (.slot 3) (.slot 4)) (.cons (.int 0) (.nil)))) (.bin .Mult (.ix (.slot 0) (.slot 3)) (.ix (.slot 1) (.slot 4))))) (.nil)) (.nil)) (.nil)
theorem aget_row {a : A} (h : Nd a) {r : Row} (hr : r ∈ a) : aget a r.1 = some r.2 := by
  induction a with
  | nil => cases hr
  | cons s a ih =>
    have nd : s.1 ∉ a.map (·.1) ∧ Nd a := List.nodup_cons.mp h
    rcases List.mem_cons.mp hr with e | m
    · subst e; simp [aget]
    · have : ¬ s.1 = r.1 := fun z => nd.1 (by rw [z]; exact List.mem_map.mpr ⟨r, m, rfl⟩)
      have := ih nd.2 m
      simpa [aget, *] using this
theorem ti_exec {call : Caller} {env : Env} {h : List O} {f g m : Nat} {A0 B0 : A} {la lb : Bool} {a : A} {r s : Row} (e0 : env[0]? = some (some (.ref f))) (e1 : env[1]? = some (some (.ref g))) (e2 : env[2]? = some (some (.ref m))) (e3 : env[3]? = some (some (kw r.1))) (e4 : env[4]? = some (some (kw s.1)))
    (hf : h[f]? = some (.dct la true (encA kw A0))) (hg : h[g]? = some (.dct lb true (encA kw B0))) (gr : aget A0 r.1 = some r.2) (gs : aget B0 s.1 = some s.2)
    (hm : h[m]? = some (dct a)) (ha : Ok a) (hr : Wk r.1) (hs : Wk s.1) (mo : mulOk r.2 s.2 = true) : exec call pC bTi env h = some (.fl (.nx env) (h.set m (dct (step r a s)))) := by
  have c : evt call (.tru (.cmp .Lt (.bin .Add (.bi .len (.cons (.slot 3) (.nil))) (.bi .len (.cons (.slot 4) (.nil)))) (.int 4))) env h = some (.ok (decide (r.1.length + s.1.length ≤ 3)) h) := by
    have q : cmpD .Lt (.int ((r.1.length : Int) + (s.1.length : Int))) (.int 4) h = some (decide (r.1.length + s.1.length ≤ 3)) := by
      show some (decide (((r.1.length : Int) + (s.1.length : Int)) < 4)) = _
      congr 1
      apply decide_eq_decide.mpr
      omega
    exact t_bl (e_cmp0 (e_bin (len_ev e3) (len_ev e4) rfl) (show ev call (.int 4) env h = some (.ok (.int 4) h) from rfl) q)
  unfold bTi step
  by_cases l : r.1.length + s.1.length ≤ 3
  · rw [if_pos l]
    rw [decide_eq_true l] at c
    have key : ∀ h : List O, ev call (.bin .Add (.slot 3) (.slot 4)) env h = some (.ok (kw (r.1 ++ s.1)) h) := fun h => e_bin (e_slot e3) (e_slot e4) (kw_add hr.1 hs.1 h)
    have gt : ev call (.mt .get (.slot 2) (.cons (.bin .Add (.slot 3) (.slot 4)) (.cons (.int 0) (.nil)))) env h = some (.ok (.int (get0 a (r.1 ++ s.1))) h) := by
      have g := get_at0 (f := kw) (h := h) (m := m) (t := true) (d := a) (k := r.1 ++ s.1) kw_inj (kw_ok _) (rd_at hm)
      show bnd (ev call (.slot 2) env h) _ = _
      have mp : mtPre .get (.ref m) h = true := by
        show (rdDct h m).isSome = true
        rw [rd_at hm]; rfl
      rw [e_slot e2, bnd_ok, mp, if_pos rfl, s_two (key h) (y := .int 0) rfl, bnd_ok]
      exact g
    have i1 : ev call (.ix (.slot 0) (.slot 3)) env h = some (.ok (.int r.2) h) := e_ix (e_slot e0) (e_slot e3) (ix_dct (rd_at hf) (kw_ok _) (by rw [dGet_encA kw_inj, gr]; rfl))
    have i2 : ev call (.ix (.slot 1) (.slot 4)) env h = some (.ok (.int s.2) h) := e_ix (e_slot e1) (e_slot e4) (ix_dct (rd_at hg) (kw_ok _) (by rw [dGet_encA kw_inj, gs]; rfl))
    have pr : ev call (.bin .Mult (.ix (.slot 0) (.slot 3)) (.ix (.slot 1) (.slot 4))) env h = some (.ok (.int (r.2 * s.2)) h) := e_bin i1 i2 (by
      show (if mulOk r.2 s.2 then okI (r.2 * s.2) h else none) = _
      rw [if_pos mo]; rfl)
    have pt := put_at (f := kw) (h := h) (m := m) (t := true) (d := a) (k := r.1 ++ s.1) kw_inj (kw_ok _) hm (lim4 ha) (get0 a (r.1 ++ s.1) + r.2 * s.2)
    have st : exec call pC (.asg (.tsub (.slot 2) (.bin .Add (.slot 3) (.slot 4))) (.bin .Add (.mt .get (.slot 2) (.cons (.bin .Add (.slot 3) (.slot 4)) (.cons (.int 0) (.nil)))) (.bin .Mult (.ix (.slot 0) (.slot 3)) (.ix (.slot 1) (.slot 4))))) env h = some (.fl (.nx env) (h.set m (dct (add1 a (r.1 ++ s.1) (r.2 * s.2))))) := by
      show bns (ev call _ env h) env _ = _
      rw [e_bin gt pr (show binD .Add (.int (get0 a (r.1 ++ s.1))) (.int (r.2 * s.2)) h = some (.ok (.int (get0 a (r.1 ++ s.1) + r.2 * s.2)) h) from rfl), bns_ok]
      simp only [asgS, onlyOk]
      rw [e_slot e2]
      dsimp only
      rw [key h]
      dsimp only
      rw [pt]
      rfl
    rw [seq_nx (e := env) (h' := h.set m (dct (add1 a (r.1 ++ s.1) (r.2 * s.2)))) (by rw [ite_t c, seq_nx st]; rfl)]
    rfl
  · rw [if_neg l]
    rw [decide_eq_false l] at c
    rw [set_self hm, seq_nx (e := env) (h' := h) (by rw [ite_f c]; rfl)]
    rfl
theorem keys_evi {call : Caller} {i k : Nat} {env : Env} {h : List O} {a : A} (e : env[i]? = some (some (.ref k))) (hk : h[k]? = some (dctL a)) : evi call (.itr (.slot i)) env h = some (.ok (a.map (fun r => kw r.1), []) h) := by
  have it := keys_at (f := kw) (t := true) (d := a) hk
  rw [evi, e_slot e, bnd_ok, it]
theorem times_call {n : Nat} {h : List O} {f g : Nat} {a b : A} (hf : h[f]? = some (dct a)) (hg : h[g]? = some (dct b)) (fg : f ≠ g) (ha : Ok a) (hb : Ok b) (sa : Sm a) : ∃ (k : Nat) (h' : List O), cf (n + 1) 5 [.ref f, .ref g] h = some (.ok (.ref k) h') ∧ h'[k]? = some (dct (mulA a b)) ∧ ∃ t, h' = h ++ t := by
  have lf := (List.getElem?_eq_some_iff.mp hf).1
  have lg := (List.getElem?_eq_some_iff.mp hg).1
  obtain ⟨m, hm0⟩ : ∃ m, m = h.length := ⟨_, rfl⟩
  have fm : f ≠ m := by omega
  have gm : g ≠ m := by omega
  have run : ∃ (k : Nat) (h' : List O), exec (cf n) pC p__law_times [some (.ref f), some (.ref g), none, none, none] h = some (.fl (.rt (.ref k)) h') ∧ h'[k]? = some (dct (mulA a b)) ∧ ∃ t, h' = h ++ t := by
    obtain ⟨e, k, e1, x3, x4, rfl, kf, kg, km, kr⟩ := for_ind (src := []) (f := turn (cf n) pC (.slot 3) (.seq (.lock 1 (.for (.slot 4) (.itr (.slot 1)) bTi)) (.nil))) (xs := a.map fun r => kw r.1)
      (fun i env k => ∃ x3 x4 : Option D, env = [some (.ref f), some (.ref g), some (.ref m), x3, x4] ∧ k[f]? = some (dctL a) ∧ k[g]? = some (dct b) ∧ k[m]? = some (dct ((a.take i).foldl (row b) [])) ∧ ∀ j, j < h.length → j ≠ f → k[j]? = h[j]?) (fun _ _ _ _ => rfl) (by
        rintro i x env k hx ⟨x3, x4, rfl, kf, kg, km, kr⟩
        rw [List.getElem?_map] at hx
        obtain ⟨r, hr, rfl⟩ := Option.map_eq_some_iff.mp hx
        have rm := List.mem_of_getElem? hr
        have oi : Ok ((a.take i).foldl (row b) []) := ok_rows _ hb.2 _ ok_nil fun s m => ha.2 s (List.mem_of_mem_take m)
        have km' : (k.set g (dctL b))[m]? = some (dct ((a.take i).foldl (row b) [])) := by rw [List.getElem?_set_ne gm]; exact km
        obtain ⟨env', ⟨y4, rfl⟩, e⟩ := inner (call := cf n) (f := fun e _ => e) (src := []) (tg := .slot 4) (bd := bTi) (env := [some (.ref f), some (.ref g), some (.ref m), some (kw r.1), x4]) (q := b) (r := r) (enc := fun r => kw r.1)
          (fun env => ∃ y4 : Option D, env = [some (.ref f), some (.ref g), some (.ref m), some (kw r.1), y4]) ⟨x4, rfl⟩ km' oi (ha.2 r rm) hb.2 (fun a' => rfl) (by
            rintro env a' s ⟨y4, rfl⟩ sm oa'
            refine ⟨[some (.ref f), some (.ref g), some (.ref m), some (kw r.1), some (kw s.1)], ⟨_, rfl⟩, ?_⟩
            have kf2 : ((k.set g (dctL b)).set m (dct a'))[f]? = some (dctL a) := by
              rw [List.getElem?_set_ne (Ne.symm fm), List.getElem?_set_ne (Ne.symm fg)]; exact kf
            have kg2 : ((k.set g (dctL b)).set m (dct a'))[g]? = some (dctL b) := by
              rw [List.getElem?_set_ne (Ne.symm gm)]; exact get_set kg
            exact ti_exec rfl rfl rfl rfl rfl kf2 kg2 (aget_row ha.1 rm) (aget_row hb.1 sm) (get_set km') oa' (ha.2 r rm) (hb.2 s sm) (mo1 (sa r rm)))
        have gL : ((k.set g (dctL b)).set m (dct (row b ((a.take i).foldl (row b) []) r)))[g]? = some (dctL b) := by
          rw [List.getElem?_set_ne (Ne.symm gm)]; exact get_set kg
        refine ⟨_, ((k.set g (dctL b)).set m (dct (row b ((a.take i).foldl (row b) []) r))).set g (dct b), ?_, some (kw r.1), y4, rfl, ?_, ?_, ?_, fun j hj jf => ?_⟩
        · show exec (cf n) pC (.seq (.lock 1 (.for (.slot 4) (.itr (.slot 1)) bTi)) (.nil)) [some (.ref f), some (.ref g), some (.ref m), some (kw r.1), x4] k = _
          have it := keys_evi (call := cf n) (i := 1) (env := [some (.ref f), some (.ref g), some (.ref m), some (kw r.1), x4]) (h := k.set g (dctL b)) (a := b) rfl (get_set kg)
          rw [seq_nx (lock_ok (n := g) (t := true) (t' := true) (kvs := encA kw b) (kvs' := encA kw b) rfl kg ((for_is it).trans e) gL)]
          rfl
        · rw [List.getElem?_set_ne (Ne.symm fg), List.getElem?_set_ne (Ne.symm fm), List.getElem?_set_ne (Ne.symm fg)]; exact kf
        · exact get_set gL
        · rw [List.getElem?_set_ne gm, get_set km', List.take_add_one, hr, List.foldl_append]; rfl
        · by_cases jg : j = g
          · rw [jg, get_set gL, hg]
          · rw [List.getElem?_set_ne (fun z => jg z.symm), List.getElem?_set_ne (by omega), List.getElem?_set_ne (fun z => jg z.symm)]; exact kr j hj jf)
      (env := [some (.ref f), some (.ref g), some (.ref m), none, none]) (h := (h ++ [dct []]).set f (dctL a)) ⟨none, none, rfl, get_set (o := dct a) (by rw [List.getElem?_append_left lf]; exact hf), by rw [List.getElem?_set_ne fg, List.getElem?_append_left lg]; exact hg, by rw [List.getElem?_set_ne fm, hm0, get_end]; rfl, fun j hj jf => by rw [List.getElem?_set_ne (fun z => jf z.symm), List.getElem?_append_left hj]⟩
    rw [List.length_map, List.take_length] at km
    have km2 : (k.set f (dct a))[m]? = some (dct (mulA a b)) := by rw [List.getElem?_set_ne fm]; exact km
    have kx : ∀ j, j < h.length → (k.set f (dct a))[j]? = h[j]? := fun j hj => by
      by_cases jf : j = f
      · rw [jf, get_set kf, hf]
      · rw [List.getElem?_set_ne (fun z => jf z.symm)]; exact kr j hj jf
    refine ⟨m, k.set f (dct a), ?_, km2, ext_of kx⟩
    show exec (cf n) pC (.seq (.asg (.slot 2) (.dnew true)) (.seq (.lock 0 (.for (.slot 3) (.itr (.slot 0)) (.seq (.lock 1 (.for (.slot 4) (.itr (.slot 1)) bTi)) (.nil)))) (.seq (.ret (.slot 2)) (.nil)))) [some (.ref f), some (.ref g), none, none, none] h = _
    rw [seq_nx (e := [some (.ref f), some (.ref g), some (.ref m), none, none]) (h' := h ++ [dct []]) (by rw [hm0]; simp [exec, asgS, ev, Mini.alloc, dct, encA])]
    have it := keys_evi (call := cf n) (i := 0) (env := [some (.ref f), some (.ref g), some (.ref m), none, none]) (h := (h ++ [dct []]).set f (dctL a)) (a := a) rfl (get_set (o := dct a) (by rw [List.getElem?_append_left lf]; exact hf))
    rw [seq_nx (lock_ok (n := f) (t := true) (t' := true) (kvs := encA kw a) (kvs' := encA kw a) rfl (by rw [List.getElem?_append_left lf]; exact hf) ((for_is it).trans e1) kf)]
    exact seq_rt (ret_ok (e_slot rfl))
  obtain ⟨k, h', e, ek, et⟩ := run
  exact ⟨k, h', hobj (fn := ⟨2, 5, p__law_times⟩) rfl rfl rfl (ret_ret e), ek, et⟩
/-! ### the law's expansion -/
theorem sm_of {a : A} (h : Nd a) {l : W} (e : get0 a = X l) (hl : l.length ≤ 1000) : Sm a := fun r hr => by
  have g : get0 a r.1 = r.2 := by unfold get0; rw [aget_row h hr]; rfl
  rw [← g, e]
  exact Nat.lt_of_le_of_lt (X_bd hl _) (by decide)
theorem law_expanded_call : ∀ (k n : Nat) (l : W), Lt l → l.length ≤ 2 ^ k → ∀ h : List O, ∃ a : A, Ok a ∧ get0 a = X l ∧ cf (n + k + 2) 7 [kw l] h = some (.ok (.ref h.length) (h ++ [dct a])) := by
  intro k
  induction k with
  | zero =>
    intro n l v hl h
    match l, hl with
    | [], _ =>
      refine ⟨unit, unit_ok, unit_get, pobj (n := n + 1) (fn := ⟨1, 2, p__law_expanded⟩) rfl rfl rfl (g := [dct unit]) (m := 0) (ret_ret ?_) rfl (enc_pure _)⟩
      show exec (cf (n + 1)) pC p__law_expanded [some (kw []), none] [] = _
      unfold p__law_expanded
      refine seq_rt ?_
      rw [ite_t (h' := []) (t_bl (b := true) (e_cmp0 (len_ev (i := 0) (w := []) rfl) (y := .int 0) rfl (cmp_eqi _ _ _)))]
      exact seq_rt (ret_ok unit_ev)
    | [x], _ =>
      have hx := v.ne x (by simp)
      refine ⟨mem x, mem_ok hx, (X_one x).symm, pobj (n := n + 1) (fn := ⟨1, 2, p__law_expanded⟩) rfl rfl rfl (g := [dct (mem x)]) (m := 0) (ret_ret ?_) rfl (enc_pure _)⟩
      show exec (cf (n + 1)) pC p__law_expanded [some (kw [x]), none] [] = _
      unfold p__law_expanded
      rw [seq_nx (e := [some (kw [x]), none]) (h' := []) (by rw [ite_f (h' := []) (t_bl (b := false) (e_cmp0 (len_ev (i := 0) (w := [x]) rfl) (y := .int 0) rfl (cmp_eqi _ _ _)))]; rfl)]
      refine seq_rt ?_
      rw [ite_t (h' := []) (t_bl (b := true) (e_cmp0 (len_ev (i := 0) (w := [x]) rfl) (y := .int 1) rfl (cmp_eqi _ _ _)))]
      exact seq_rt (ret_ok (e_call (s_one (e_ix (e_slot (d := kw [x]) rfl) (y := .int 0) rfl rfl)) (letter_call (n := n) (h := []) x)))
    | _ :: _ :: _, hl => simp at hl
  | succ k ih =>
    intro n l v hl h
    by_cases small : l.length ≤ 2 ^ k
    · have := ih (n + 1) l v small h
      rw [show n + 1 + k + 2 = n + (k + 1) + 2 by omega] at this
      exact this
    · have two : 2 ≤ l.length := by
        have := Nat.one_le_two_pow (n := k)
        omega
      have hp : 2 ^ (k + 1) = 2 ^ k * 2 := Nat.pow_succ _ _
      have va : Lt (l.take (l.length / 2)) := ⟨by rw [List.length_take]; have := v.len; omega, fun x hx => v.ne x (List.mem_of_mem_take hx)⟩
      have vb : Lt (l.drop (l.length / 2)) := ⟨by rw [List.length_drop]; have := v.len; omega, fun x hx => v.ne x (List.mem_of_mem_drop hx)⟩
      obtain ⟨a, oa, ga, ea⟩ := ih n (l.take (l.length / 2)) va (by rw [List.length_take]; omega) []
      obtain ⟨b, ob, gb, eb⟩ := ih n (l.drop (l.length / 2)) vb (by rw [List.length_drop]; omega) [dct a]
      obtain ⟨m, h', et, em, _⟩ := times_call (n := n + k + 1) (h := [dct a, dct b]) (f := 0) (g := 1) rfl rfl (by decide) oa ob (sm_of oa.1 ga va.len)
      refine ⟨mulA a b, ok_mul oa ob, ?_, pobj (n := n + k + 2) (fn := ⟨1, 2, p__law_expanded⟩) rfl rfl (by simp [D.pureL, kw_pure]) (g := h') (m := m) (ret_ret ?_) em (enc_pure _)⟩
      · rw [get0_mul oa.1 ob.1, ga, gb, ← X_app, List.take_append_drop]
      show exec (cf (n + k + 2)) pC p__law_expanded [some (kw l), none] [] = _
      unfold p__law_expanded
      have z0 : ((l.length : Int) == 0) = false := by simp; intro e; rw [e] at two; simp at two
      have z1 : ((l.length : Int) == 1) = false := by
        have : (l.length : Int) ≠ 1 := by omega
        simpa using this
      rw [seq_nx (e := [some (kw l), none]) (h' := []) (by rw [ite_f (h' := []) (t_bl (b := false) (e_cmp0 (len_ev (i := 0) (w := l) rfl) (y := .int 0) rfl ((cmp_eqi _ _ _).trans (by rw [z0]))))]; rfl)]
      rw [seq_nx (e := [some (kw l), none]) (h' := []) (by rw [ite_f (h' := []) (t_bl (b := false) (e_cmp0 (len_ev (i := 0) (w := l) rfl) (y := .int 1) rfl ((cmp_eqi _ _ _).trans (by rw [z1]))))]; rfl)]
      have lg : (2 : Nat).log2 < 9000 := by decide
      have fd : binD .FloorDiv (.int (l.length : Int)) (.int 2) [] = some (.ok (.int ((l.length / 2 : Nat) : Int)) []) := by simp [binD, lg, okI]
      rw [seq_nx (e := [some (kw l), some (.int ((l.length / 2 : Nat) : Int))]) (h' := []) (asg_ok (e_bin (len_ev (i := 0) (w := l) rfl) (y := .int 2) rfl fd) (show 1 < 2 by decide))]
      have c1 : slG (kw l) none (some ((l.length / 2 : Nat) : Int)) [] = some (.ok (kw (l.take (l.length / 2))) []) := by
        show some (R.ok (D.tup (cutD (l.map D.int) none (some ((l.length / 2 : Nat) : Int)))) []) = _
        congr 2
        unfold cutD sIxD kw
        dsimp only
        rw [List.length_map, if_neg (by omega), Int.toNat_natCast, Nat.min_eq_left (by omega), Nat.sub_zero, List.drop_zero, List.map_take]
      have c2 : ∀ g : List O, slG (kw l) (some ((l.length / 2 : Nat) : Int)) none g = some (.ok (kw (l.drop (l.length / 2))) g) := fun g => by
        show some (R.ok (D.tup (cutD (l.map D.int) (some ((l.length / 2 : Nat) : Int)) none)) g) = _
        congr 2
        unfold cutD sIxD kw
        dsimp only
        rw [List.length_map, if_neg (by omega), Int.toNat_natCast, Nat.min_eq_left (by omega), List.map_drop, List.take_of_length_le (by rw [List.length_drop, List.length_map]; omega)]
      refine seq_rt (ret_ok ?_)
      simp only [List.nil_append, List.length_nil] at ea
      simp only [List.cons_append, List.nil_append, List.length_cons, List.length_nil, Nat.zero_add] at eb
      have a1 : ev (cf (n + k + 2)) (.call 7 (.cons (.sl (.slot 0) (.omit) (.cons (.slot 1) .nil)) (.nil)) []) [some (kw l), some (.int ((l.length / 2 : Nat) : Int))] [] = some (.ok (.ref 0) [dct a]) := by
        have s : ev (cf (n + k + 2)) (.sl (.slot 0) (.omit) (.cons (.slot 1) .nil)) [some (kw l), some (.int ((l.length / 2 : Nat) : Int))] [] = some (.ok (kw (l.take (l.length / 2))) []) := by
          simp only [ev, evo, bnd_ok]
          dsimp only [List.getElem?_cons_zero, List.getElem?_cons_succ]
          simp only [bnd_ok]
          exact c1
        exact e_call (s_one s) ea
      have a2 : ev (cf (n + k + 2)) (.call 7 (.cons (.sl (.slot 0) (.cons (.slot 1) .nil) (.omit)) (.nil)) []) [some (kw l), some (.int ((l.length / 2 : Nat) : Int))] [dct a] = some (.ok (.ref 1) [dct a, dct b]) := by
        have s : ev (cf (n + k + 2)) (.sl (.slot 0) (.cons (.slot 1) .nil) (.omit)) [some (kw l), some (.int ((l.length / 2 : Nat) : Int))] [dct a] = some (.ok (kw (l.drop (l.length / 2))) [dct a]) := by
          simp only [ev, evo, bnd_ok]
          dsimp only [List.getElem?_cons_zero, List.getElem?_cons_succ]
          simp only [bnd_ok]
          exact c2 _
        exact e_call (s_one s) eb
      exact e_call (s_two a1 a2) et
end Lk69
end

section
/-! k69: expansions as rows in order (own work). -/
namespace Lk69
open Mini
def k2 (w : W) : D := .tup [.int w.length, kw w]
def k3 (r : Row) : D := .tup [.int r.1.length, kw r.1, .int r.2]
def leW (a b : W) : Bool := leD (k2 a) (k2 b)
def leR (r s : Row) : Bool := leD (k3 r) (k3 s)
def sortW (l : List W) : List W := sortB leW l
theorem alike_ints : ∀ a b : W, PySem.W.alikeAll (pyPL (a.map D.int)) (pyPL (b.map D.int)) = true
  | [], _ => by simp [pyPL, PySem.W.alikeAll]
  | _ :: _, [] => by simp [pyPL, PySem.W.alikeAll]
  | x :: a, y :: b => by
    have ih := alike_ints a b
    simp [pyPL, pyP, PySem.W.alikeAll, PySem.W.alike, ih]
theorem alike_kw (a b : W) : PySem.W.alike (pyP (kw a)) (pyP (kw b)) = true := by
  have := alike_ints a b
  simpa [kw, pyP, PySem.W.alike] using this
theorem alike_i (a b : Int) : PySem.W.alike (.int a) (.int b) = true := by simp [PySem.W.alike]
theorem alike_k2 (a b : W) : PySem.W.alike (pyP (k2 a)) (pyP (k2 b)) = true := by
  have h := alike_kw a b
  simp [k2, pyP, pyPL, PySem.W.alike, PySem.W.alikeAll, h]
theorem alike_k3 (r s : Row) : PySem.W.alike (pyP (k3 r)) (pyP (k3 s)) = true := by
  have h := alike_kw r.1 s.1
  simp [k3, pyP, pyPL, PySem.W.alike, PySem.W.alikeAll, h]
theorem k2_pure (w : W) : (k2 w).pure = true := by show D.pureL [.int w.length, kw w] = true; simp [D.pureL, int_pure, kw_pure]
theorem k3_pure (r : Row) : (k3 r).pure = true := by show D.pureL [.int r.1.length, kw r.1, .int r.2] = true; simp [D.pureL, int_pure, kw_pure]
theorem k2_inj {a b : W} (e : k2 a = k2 b) : a = b := by
  simp only [k2, D.tup.injEq, List.cons.injEq] at e
  exact kw_inj _ _ e.2.1
theorem leW_trans (a b c : W) (h1 : leW a b = true) (h2 : leW b c = true) : leW a c = true := leD_trans _ _ _ h1 h2
theorem leW_total (a b : W) : leW a b = true ∨ leW b a = true := leD_total _ _
theorem leW_anti (a b : W) (h1 : leW a b = true) (h2 : leW b a = true) : a = b := k2_inj (leD_anti (k2_pure a) (k2_pure b) (alike_k2 a b) h1 h2)
theorem leR_leW {r s : Row} (h : leR r s = true) : leW r.1 s.1 = true := by
  unfold leR leD at h
  unfold leW leD
  simp only [Bool.not_eq_true'] at h ⊢
  have e2 : PySem.W.dataLt (pyP (k2 s.1)) (pyP (k2 r.1)) = PyProof.Rows.lexLt PyProof.Rows.itemOrd (PySem.W.keyToksAll [.int s.1.length, pyP (kw s.1)]) (PySem.W.keyToksAll [.int r.1.length, pyP (kw r.1)]) := PySem.W.dataLt_tuple _ _
  have e3 : PySem.W.dataLt (pyP (k3 s)) (pyP (k3 r)) = PyProof.Rows.lexLt PyProof.Rows.itemOrd (PySem.W.keyToksAll [.int s.1.length, pyP (kw s.1), .int s.2]) (PySem.W.keyToksAll [.int r.1.length, pyP (kw r.1), .int r.2]) := PySem.W.dataLt_tuple _ _
  rw [e3, PySem.W.dataLt_cons (alike_i _ _), PySem.W.dataLt_cons (alike_kw _ _)] at h
  rw [e2, PySem.W.dataLt_cons (alike_i _ _), PySem.W.dataLt_cons (alike_kw _ _)]
  split
  · rename_i q
    rw [if_pos q] at h
    split
    · rename_i q2
      first
        | rfl
        | (exact PyProof.Rows.lex_irrefl _)
        | (simp [PySem.W.keyToksAll]; done)
    · rename_i q2
      rw [if_neg q2] at h
      exact h
  · rename_i q
    rw [if_neg q] at h
    exact h
theorem lt_of_le {a b : W} (h : leW a b = true) (ne : a ≠ b) : PySem.W.dataLt (pyP (k2 a)) (pyP (k2 b)) = true := by
  cases q : PySem.W.dataLt (pyP (k2 a)) (pyP (k2 b)) with
  | true => rfl
  | false =>
    have : leW b a = true := by unfold leW leD; rw [q]; rfl
    exact absurd (leW_anti a b h this) ne
/-! ### the rows -/
def keys (a : A) : List W := (flt a).map fun r => r.1
def rowsW (a : A) : List Row := (sortW (keys a)).map fun w => (w, get0 a w)
def pl (p : List Row) : D := .tup (p.map rwD)
theorem pl_pure (p : List Row) : (pl p).pure = true := rows_pure p
theorem get_row {a : A} (h : Nd a) {r : Row} (hr : r ∈ a) : get0 a r.1 = r.2 := by unfold get0; rw [aget_row h hr]; rfl
theorem keys_mem {a : A} (h : Nd a) (w : W) : w ∈ keys a ↔ get0 a w ≠ 0 := by
  unfold keys
  rw [List.mem_map]
  constructor
  · rintro ⟨r, hr, rfl⟩
    obtain ⟨m, z⟩ := List.mem_filter.mp hr
    rw [get_row h m]; simpa using z
  · intro z
    have m : w ∈ a.map (·.1) := by
      by_cases m : w ∈ a.map (·.1)
      · exact m
      · exact absurd (get0_out m) z
    obtain ⟨r, hr, rfl⟩ := List.mem_map.mp m
    rw [get_row h hr] at z
    exact ⟨r, List.mem_filter.mpr ⟨hr, by simpa using z⟩, rfl⟩
theorem keys_nd {a : A} (h : Nd a) : (keys a).Nodup := h.sublist (List.Sublist.map _ List.filter_sublist)
theorem sortW_perm (l : List W) : (sortW l).Perm l := sortB_perm leW l
theorem sortW_sorted (l : List W) : (sortW l).Pairwise fun a b => leW a b = true := sortB_sorted leW_trans leW_total l
theorem rows_ext {a b : A} (ha : Nd a) (hb : Nd b) (h : get0 a = get0 b) : rowsW a = rowsW b := by
  have k : sortW (keys a) = sortW (keys b) := sorted_ext leW_anti ((sortW_perm _).nodup_iff.mpr (keys_nd ha)) ((sortW_perm _).nodup_iff.mpr (keys_nd hb)) (sortW_sorted _) (sortW_sorted _) fun w => by
    rw [(sortW_perm _).mem_iff, (sortW_perm _).mem_iff, keys_mem ha, keys_mem hb, h]
  unfold rowsW
  rw [k, h]
/-- rows sorted as rows are sorted by their words -/
theorem sortR_eq {a : A} (h : Nd a) (nz : Nz a) : sortB leR a = rowsW a := by
  have fa : flt a = a := List.filter_eq_self.mpr fun r hr => by simpa using nz r hr
  have p := sortB_perm leR a
  have nd : ((sortB leR a).map fun r => r.1).Nodup := ((p.map fun r : Row => r.1).nodup_iff).mpr h
  have so : (sortB leR a).Pairwise fun r s => leR r s = true := sortB_sorted (fun r s t h1 h2 => leD_trans (k3 r) (k3 s) (k3 t) h1 h2) (fun r s => leD_total (k3 r) (k3 s)) a
  have sk : ((sortB leR a).map fun r => r.1).Pairwise fun u v => leW u v = true := List.pairwise_map.mpr (so.imp fun q => leR_leW q)
  have k : (sortB leR a).map (fun r => r.1) = sortW (keys a) := sorted_ext leW_anti nd ((sortW_perm _).nodup_iff.mpr (keys_nd h)) sk (sortW_sorted _) fun w => by
    rw [(p.map fun r => r.1).mem_iff, (sortW_perm _).mem_iff]
    unfold keys
    rw [fa]
  unfold rowsW
  rw [← k, List.map_map]
  symm
  refine (List.map_congr_left fun r hr => ?_).trans (List.map_id _)
  show (r.1, get0 a r.1) = r
  rw [get_row h (p.mem_iff.mp hr)]
theorem sortD_k3 (a : A) : sortD (a.map k3) = (sortB leR a).map k3 := by
  rw [sortD_sortB]
  exact sortB_map (fun _ _ => rfl) a
theorem sortD_k2 (l : List W) : sortD (l.map k2) = (sortW l).map k2 := by
  rw [sortD_sortB]
  exact sortB_map (fun _ _ => rfl) l
/-- sorted of data in a list -/
theorem sorted_lst {α : Type} {h : List O} {m : Nat} {f : α → D} {l : List α} (e : rdLst h m = some (l.map f)) (hl : l.length ≤ lim) (fp : ∀ x, (f x).pure = true) (fd : ∀ x, (pyP (f x)).depth ≤ 8) (fa : ∀ x y, PySem.W.alike (pyP (f x)) (pyP (f y)) = true) (ft : ∀ x, ∃ y ys, f x = .tup (y :: ys)) :
    sorted1 [.ref m] h = some (.ok (.ref h.length) (h ++ [.lst (sortD (l.map f))])) := by
  cases l with
  | nil =>
    unfold sorted1 ints1
    dsimp only
    rw [e]
    rfl
  | cons x l =>
    have i1 : ints1 [.ref m] h = none := by
      unfold ints1
      dsimp only
      rw [e]
      obtain ⟨y, ys, e2⟩ := ft x
      show intsOf (f x :: l.map f) = none
      rw [e2]; rfl
    have s1 : okS ((x :: l).map f) = true := by
      unfold okS
      simp only [List.all_map, List.all_eq_true, Function.comp, Bool.and_eq_true, decide_eq_true_eq]
      exact fun a _ => ⟨⟨fp a, fd a⟩, fun b _ => fa a b⟩
    have s2 : okF ((x :: l).map f) = true := by
      unfold okF
      rw [Bool.or_eq_true]
      left
      simp only [List.all_map, List.all_eq_true, Function.comp]
      intro a _
      obtain ⟨y, ys, e2⟩ := ft a
      rw [e2]
    unfold sorted1
    rw [i1]
    dsimp only
    unfold sortedD itemsS seqOf
    dsimp only
    rw [e]
    dsimp only
    rw [s1, s2, List.length_map, decide_eq_true hl]
    rfl
theorem depth_ints : ∀ w : W, PySem.PyData.depthAll (pyPL (w.map D.int)) = 0
  | [] => rfl
  | x :: w => by simp [pyPL, pyP, PySem.PyData.depthAll, PySem.PyData.depth, depth_ints w]
theorem depth_k2 (w : W) : (pyP (k2 w)).depth ≤ 8 := by
  simp [k2, kw, pyP, pyPL, PySem.PyData.depth, PySem.PyData.depthAll, depth_ints]
theorem depth_k3 (r : Row) : (pyP (k3 r)).depth ≤ 8 := by
  simp [k3, kw, pyP, pyPL, PySem.PyData.depth, PySem.PyData.depthAll, depth_ints]
theorem set_back {h t : List O} {f : Nat} {o o' : O} (e : h[f]? = some o) : (h.set f o' ++ t).set f o = h ++ t := by
  have l := (List.getElem?_eq_some_iff.mp e).1
  rw [List.set_append, if_pos (by rw [List.length_set]; exact l), List.set_set, set_self e]
/-- told -/
theorem told_call {n : Nat} {h : List O} {f : Nat} {a : A} (hf : h[f]? = some (dct a)) (ha : Ok a) (nz : Nz a) : cf (n + 1) 15 [.ref f] h = some (.ok (pl (rowsW a)) h) := by
  obtain ⟨l0, l1, l2, l3, l4⟩ := lims
  have lf := (List.getElem?_eq_some_iff.mp hf).1
  have hL : (h.set f (dctL a))[f]? = some (dctL a) := get_set hf
  have la : a.length ≤ lim := Nat.le_of_lt (lim4 ha)
  have it : evi (cf n) (.dit (.slot 0)) [some (.ref f), none, none, none, none] (h.set f (dctL a)) = some (.ok (a.map (fun r => .tup [kw r.1, .int r.2]), []) (h.set f (dctL a))) := dit_evi rfl hL
  have go := lc_fmE (f := lcT (cf n) [2, 3] (.tup (.cons (.slot 2) (.cons (.slot 3) (.nil)))) .omit (.tup (.cons (.bi .len (.cons (.slot 2) (.nil))) (.cons (.slot 2) (.cons (.slot 3) (.nil))))) [some (.ref f), none, none, none, none]) (h := h.set f (dctL a)) (src := [])
    (fun r : Row => .tup [kw r.1, .int r.2]) (fun r => some (k3 r)) rfl a [] (by simpa using la) (fun r _ => by
      have le := len_ev (call := cf n) (i := 2) (env := [some (.ref f), none, some (kw r.1), some (.int r.2), none]) (h := h.set f (dctL a)) (w := r.1) rfl
      have e0 : lcT (cf n) [2, 3] (.tup (.cons (.slot 2) (.cons (.slot 3) (.nil)))) .omit (.tup (.cons (.bi .len (.cons (.slot 2) (.nil))) (.cons (.slot 2) (.cons (.slot 3) (.nil))))) [some (.ref f), none, none, none, none] (.tup [kw r.1, .int r.2]) (h.set f (dctL a)) = bnd (ev (cf n) (.tup (.cons (.bi .len (.cons (.slot 2) (.nil))) (.cons (.slot 2) (.cons (.slot 3) (.nil))))) [some (.ref f), none, some (kw r.1), some (.int r.2), none] (h.set f (dctL a))) (fun y h3 => some (.ok (some y) h3)) := rfl
      rw [e0, e_tup (s_cons le (s_two (e_slot rfl) (e_slot rfl))) l3, bnd_ok]; rfl)
  have fm : a.filterMap (fun r => some (k3 r)) = a.map k3 := by
    clear go it hL hf la ha nz
    induction a with
    | nil => rfl
    | cons r a ih => simp
  rw [List.nil_append, fm] at go
  have lc := lc_ev it go
  have so := sorted_lst (h := h.set f (dctL a) ++ [O.lst (a.map k3)]) (m := (h.set f (dctL a)).length) (f := k3) (l := a) rd_end la k3_pure depth_k3 alike_k3 fun r => ⟨_, _, rfl⟩
  rw [sortD_k3, sortR_eq ha.1 nz] at so
  have sv : ev (cf n) (.bi .sorted (.cons (.lc [2, 3] (.tup (.cons (.slot 2) (.cons (.slot 3) (.nil)))) (.dit (.slot 0)) (.omit) (.tup (.cons (.bi .len (.cons (.slot 2) (.nil))) (.cons (.slot 2) (.cons (.slot 3) (.nil)))))) (.nil))) [some (.ref f), none, none, none, none] (h.set f (dctL a)) = some (.ok (.ref (h.length + 1)) (h.set f (dctL a) ++ [O.lst (a.map k3), O.lst ((rowsW a).map k3)])) := by
    show bnd (evs (cf n) _ _ _) _ = _
    rw [s_one lc, bnd_ok]
    show bnd (sorted1 _ _) _ = _
    rw [so, bnd_ok, gc_ref, List.length_append, List.length_set, List.append_assoc]
    rfl
  have st := lock_ok (call := cf n) (C := pC) (i := 0) (n := f) (t := true) (t' := true) (kvs := encA kw a) (kvs' := encA kw a) (env := [some (.ref f), none, none, none, none]) (h := h) rfl hf (asg_ok (C := pC) sv (show 1 < 5 by decide)) (by
    rw [List.getElem?_append_left (by rw [List.length_set]; exact lf)]; exact hL)
  have sb := set_back (o := dct a) (o' := dctL a) (t := [O.lst (a.map k3), O.lst ((rowsW a).map k3)]) hf
  have rd1 : rdLst (h ++ [O.lst (a.map k3), O.lst ((rowsW a).map k3)]) (h.length + 1) = some ((rowsW a).map k3) := by
    unfold rdLst
    rw [List.getElem?_append_right (by omega), Nat.add_sub_cancel_left]; rfl
  refine hcall (fn := ⟨1, 5, p_told⟩) (t := [O.lst (a.map k3), O.lst ((rowsW a).map k3)]) rfl rfl rfl (ret_ret ?_) (pl_pure _)
  show exec (cf n) pC p_told [some (.ref f), none, none, none, none] h = _
  unfold p_told
  rw [seq_nx st]
  show exec (cf n) pC (.seq (.ret _) .nil) [some (.ref f), some (.ref (h.length + 1)), none, none, none] ((h.set f (dctL a) ++ [O.lst (a.map k3), O.lst ((rowsW a).map k3)]).set f (dct a)) = _
  rw [sb]
  refine seq_rt (ret_ok ?_)
  have lr : (rowsW a).length ≤ lim := by
    unfold rowsW keys
    rw [List.length_map, (sortW_perm _).length_eq, List.length_map]
    exact Nat.le_trans (List.length_filter_le _ _) la
  have it2 : evi (cf n) (.itr (.slot 1)) [some (.ref f), some (.ref (h.length + 1)), none, none, none] (h ++ [O.lst (a.map k3), O.lst ((rowsW a).map k3)]) = some (.ok ((rowsW a).map k3, [(h.length + 1, (rowsW a).map k3)]) (h ++ [O.lst (a.map k3), O.lst ((rowsW a).map k3)])) := by
    rw [evi, e_slot (d := .ref (h.length + 1)) rfl, bnd_ok]
    unfold itemsOf
    dsimp only
    rw [rd1]
  have go2 := lc_fmE (f := lcT (cf n) [4, 2, 3] (.tup (.cons (.slot 4) (.cons (.slot 2) (.cons (.slot 3) (.nil))))) .omit (.tup (.cons (.slot 2) (.cons (.slot 3) (.nil)))) [some (.ref f), some (.ref (h.length + 1)), none, none, none]) (h := h ++ [O.lst (a.map k3), O.lst ((rowsW a).map k3)]) (src := [(h.length + 1, (rowsW a).map k3)])
    k3 (fun r => some (rwD r)) (by simp [chk, rd1, D.beqL_refl]) (rowsW a) [] (by simpa using lr) (fun r _ => by
      have e0 : lcT (cf n) [4, 2, 3] (.tup (.cons (.slot 4) (.cons (.slot 2) (.cons (.slot 3) (.nil))))) .omit (.tup (.cons (.slot 2) (.cons (.slot 3) (.nil)))) [some (.ref f), some (.ref (h.length + 1)), none, none, none] (k3 r) (h ++ [O.lst (a.map k3), O.lst ((rowsW a).map k3)]) = bnd (ev (cf n) (.tup (.cons (.slot 2) (.cons (.slot 3) (.nil)))) [some (.ref f), some (.ref (h.length + 1)), some (kw r.1), some (.int r.2), some (.int r.1.length)] (h ++ [O.lst (a.map k3), O.lst ((rowsW a).map k3)])) (fun y h3 => some (.ok (some y) h3)) := rfl
      rw [e0, e_tup (s_two (e_slot rfl) (e_slot rfl)) l2, bnd_ok]; rfl)
  have fm2 : (rowsW a).filterMap (fun r => some (rwD r)) = (rowsW a).map rwD := by
    induction rowsW a with
    | nil => rfl
    | cons r a ih => simp
  rw [List.nil_append, fm2] at go2
  have lc2 := lc_ev it2 go2
  exact bi_tup lc2 rd_end (rows_pure _)
theorem expansion_call {n : Nat} {h : List O} {l : W} (v : Lt l) : cf (n + 4) 10 [kw l] h = some (.ok (pl (rowsW (expd l))) h) := by
  refine pcall (fn := ⟨1, 1, p_expansion⟩) rfl rfl (by simp [D.pureL, kw_pure]) (g := [dct (expd l)]) (ret_ret ?_) (pl_pure _)
  show exec (cf (n + 3)) pC p_expansion [some (kw l)] [] = _
  have d := demand_call (n := n) (h := []) v
  have e := expanded_call (n := n) (h := []) v
  have t := told_call (n := n + 2) (h := [dct (expd l)]) (f := 0) rfl (ok_expd l unit_ok v.ne) (nz_expd l (a := unit) fun r hr => by
    simp only [unit, List.mem_cons, List.not_mem_nil, or_false] at hr
    subst hr; decide)
  simp only [List.nil_append, List.length_nil] at e
  simp [p_expansion, exec, ev, evs, d, e, t]
end Lk69
end

section
/-! k69: the law's rows; what is an expansion (own work). -/
namespace Lk69
open Mini
theorem rows_len {a : A} (ha : Ok a) : (rowsW a).length ≤ 400 := by
  unfold rowsW keys
  rw [List.length_map, (sortW_perm _).length_eq, List.length_map]
  exact Nat.le_trans (List.length_filter_le _ _) (ok_len ha)
theorem keys_len {a : A} (ha : Ok a) : (keys a).length ≤ 400 := by
  unfold keys
  rw [List.length_map]
  exact Nat.le_trans (List.length_filter_le _ _) (ok_len ha)
/-- _law_rows: a tuple of its own; what was stays -/
theorem law_rows_call {n : Nat} {h : List O} {f : Nat} {a : A} (hf : h[f]? = some (dct a)) (ha : Ok a) : ∃ (t : List O) (k : Nat), cf (n + 1) 4 [.ref f] h = some (.ok (.ref k) (h ++ t)) ∧ h.length ≤ k ∧ (h ++ t)[k]? = some (.tpl ((rowsW a).map rwD)) := by
  obtain ⟨l0, l1, l2, l3, l4⟩ := lims
  have lf := (List.getElem?_eq_some_iff.mp hf).1
  have hL : (h.set f (dctL a))[f]? = some (dctL a) := get_set hf
  have la : a.length ≤ lim := Nat.le_of_lt (lim4 ha)
  have lk : (keys a).length ≤ lim := Nat.le_of_lt (small_lim (by have := keys_len ha; omega))
  have it := keys_evi (call := cf n) (i := 0) (env := [some (.ref f), none, none, none]) (h := h.set f (dctL a)) (a := a) rfl hL
  have go := lc_fmE (f := lcT (cf n) [2] (.slot 2) (.tru (.cmp .NotEq (.ix (.slot 0) (.slot 2)) (.int 0))) (.tup (.cons (.bi .len (.cons (.slot 2) (.nil))) (.cons (.slot 2) (.nil)))) [some (.ref f), none, none, none]) (h := h.set f (dctL a)) (src := [])
    (fun r : Row => kw r.1) (fun r => if r.2 = 0 then none else some (k2 r.1)) rfl a [] (by simpa using la) (fun r hr => by
      have le := len_ev (call := cf n) (i := 2) (env := [some (.ref f), none, some (kw r.1), none]) (h := h.set f (dctL a)) (w := r.1) rfl
      have ix : ev (cf n) (.ix (.slot 0) (.slot 2)) [some (.ref f), none, some (kw r.1), none] (h.set f (dctL a)) = some (.ok (.int r.2) (h.set f (dctL a))) := e_ix (e_slot (d := .ref f) rfl) (e_slot rfl) (ix_dct (rd_at hL) (kw_ok _) (by rw [dGet_encA kw_inj, aget_row ha.1 hr]; rfl))
      have c : evt (cf n) (.tru (.cmp .NotEq (.ix (.slot 0) (.slot 2)) (.int 0))) [some (.ref f), none, some (kw r.1), none] (h.set f (dctL a)) = some (.ok (!(r.2 == 0)) (h.set f (dctL a))) := t_bl (e_cmp0 ix (y := .int 0) rfl (cmp_nei _ _ _))
      have e0 : lcT (cf n) [2] (.slot 2) (.tru (.cmp .NotEq (.ix (.slot 0) (.slot 2)) (.int 0))) (.tup (.cons (.bi .len (.cons (.slot 2) (.nil))) (.cons (.slot 2) (.nil)))) [some (.ref f), none, none, none] (kw r.1) (h.set f (dctL a)) = bnd (evt (cf n) (.tru (.cmp .NotEq (.ix (.slot 0) (.slot 2)) (.int 0))) [some (.ref f), none, some (kw r.1), none] (h.set f (dctL a))) (fun b h2 => if b then bnd (ev (cf n) (.tup (.cons (.bi .len (.cons (.slot 2) (.nil))) (.cons (.slot 2) (.nil)))) [some (.ref f), none, some (kw r.1), none] h2) (fun y h3 => some (.ok (some y) h3)) else some (.ok none h2)) := rfl
      rw [e0, c, bnd_ok]
      by_cases z : r.2 = 0
      · rw [z]; rfl
      · have z' : (!(r.2 == 0)) = true := by simpa using z
        rw [z', if_pos rfl, e_tup (s_two le (e_slot rfl)) l2, bnd_ok, if_neg z]; rfl)
  have fm : ∀ l : A, l.filterMap (fun r => if r.2 = 0 then none else some (k2 r.1)) = ((flt l).map fun r => r.1).map k2 := by
    intro l
    induction l with
    | nil => rfl
    | cons r l ih =>
      by_cases z : r.2 = 0
      · rw [List.filterMap_cons_none (by simp [z]), ih]
        unfold flt
        rw [List.filter_cons_of_neg (by simpa using z)]
      · rw [List.filterMap_cons_some (b := k2 r.1) (by simp [z]), ih]
        unfold flt
        rw [List.filter_cons_of_pos (by simpa using z), List.map_cons, List.map_cons]
  rw [List.nil_append, fm] at go
  have lc := lc_ev it go
  have so := sorted_lst (h := h.set f (dctL a) ++ [O.lst ((keys a).map k2)]) (m := (h.set f (dctL a)).length) (f := k2) (l := keys a) rd_end lk k2_pure depth_k2 alike_k2 fun r => ⟨_, _, rfl⟩
  rw [sortD_k2] at so
  have sv : ev (cf n) (.bi .sorted (.cons (.lc [2] (.slot 2) (.itr (.slot 0)) (.tru (.cmp .NotEq (.ix (.slot 0) (.slot 2)) (.int 0))) (.tup (.cons (.bi .len (.cons (.slot 2) (.nil))) (.cons (.slot 2) (.nil))))) (.nil))) [some (.ref f), none, none, none] (h.set f (dctL a)) = some (.ok (.ref (h.length + 1)) (h.set f (dctL a) ++ [O.lst ((keys a).map k2), O.lst ((sortW (keys a)).map k2)])) := by
    show bnd (evs (cf n) _ _ _) _ = _
    rw [s_one lc, bnd_ok]
    show bnd (sorted1 _ _) _ = _
    rw [show (flt a).map (fun r => r.1) = keys a from rfl, so, bnd_ok, gc_ref, List.length_append, List.length_set, List.append_assoc]
    rfl
  have st := lock_ok (call := cf n) (C := pC) (i := 0) (n := f) (t := true) (t' := true) (kvs := encA kw a) (kvs' := encA kw a) (env := [some (.ref f), none, none, none]) (h := h) rfl hf (asg_ok (C := pC) sv (show 1 < 4 by decide)) (by
    rw [List.getElem?_append_left (by rw [List.length_set]; exact lf)]; exact hL)
  obtain ⟨g, hg⟩ : ∃ g, g = h ++ [O.lst ((keys a).map k2), O.lst ((sortW (keys a)).map k2)] := ⟨_, rfl⟩
  have sb : (h.set f (dctL a) ++ [O.lst ((keys a).map k2), O.lst ((sortW (keys a)).map k2)]).set f (dct a) = g := by rw [hg]; exact set_back hf
  have rd1 : rdLst g (h.length + 1) = some ((sortW (keys a)).map k2) := by
    rw [hg]
    unfold rdLst
    rw [List.getElem?_append_right (by omega), Nat.add_sub_cancel_left]; rfl
  have gf : g[f]? = some (dct a) := by rw [hg, List.getElem?_append_left lf]; exact hf
  have ls : (sortW (keys a)).length ≤ lim := by rw [(sortW_perm _).length_eq]; exact lk
  have it2 : evi (cf n) (.itr (.slot 1)) [some (.ref f), some (.ref (h.length + 1)), none, none] g = some (.ok ((sortW (keys a)).map k2, [(h.length + 1, (sortW (keys a)).map k2)]) g) := by
    rw [evi, e_slot (d := .ref (h.length + 1)) rfl, bnd_ok]
    unfold itemsOf
    dsimp only
    rw [rd1]
  have go2 := lc_fmE (f := lcT (cf n) [3, 2] (.tup (.cons (.slot 3) (.cons (.slot 2) (.nil)))) .omit (.tup (.cons (.slot 2) (.cons (.ix (.slot 0) (.slot 2)) (.nil)))) [some (.ref f), some (.ref (h.length + 1)), none, none]) (h := g) (src := [(h.length + 1, (sortW (keys a)).map k2)])
    k2 (fun w => some (rwD (w, get0 a w))) (by simp [chk, rd1, D.beqL_refl]) (sortW (keys a)) [] (by simpa using ls) (fun w hw => by
      have wm : w ∈ a.map (·.1) := by
        have := (sortW_perm _).mem_iff.mp hw
        obtain ⟨r, hr, e⟩ := List.mem_map.mp this
        exact List.mem_map.mpr ⟨r, (List.mem_filter.mp hr).1, e⟩
      have ix : ev (cf n) (.ix (.slot 0) (.slot 2)) [some (.ref f), some (.ref (h.length + 1)), some (kw w), some (.int w.length)] g = some (.ok (.int (get0 a w)) g) := e_ix (e_slot (d := .ref f) rfl) (e_slot rfl) (ix_dct (rd_at gf) (kw_ok _) (by rw [dGet_encA kw_inj, get0_at wm]; rfl))
      have e0 : lcT (cf n) [3, 2] (.tup (.cons (.slot 3) (.cons (.slot 2) (.nil)))) .omit (.tup (.cons (.slot 2) (.cons (.ix (.slot 0) (.slot 2)) (.nil)))) [some (.ref f), some (.ref (h.length + 1)), none, none] (k2 w) g = bnd (ev (cf n) (.tup (.cons (.slot 2) (.cons (.ix (.slot 0) (.slot 2)) (.nil)))) [some (.ref f), some (.ref (h.length + 1)), some (kw w), some (.int w.length)] g) (fun y h3 => some (.ok (some y) h3)) := rfl
      rw [e0, e_tup (s_two (e_slot rfl) ix) l2, bnd_ok]; rfl)
  have fm2 : (sortW (keys a)).filterMap (fun w => some (rwD (w, get0 a w))) = (rowsW a).map rwD := by
    unfold rowsW
    induction sortW (keys a) with
    | nil => rfl
    | cons r l ih => simp
  rw [List.nil_append, fm2] at go2
  have lc2 := lc_ev it2 go2
  have tv : ev (cf n) (.bi .tpl (.cons (.lc [3, 2] (.tup (.cons (.slot 3) (.cons (.slot 2) (.nil)))) (.itr (.slot 1)) (.omit) (.tup (.cons (.slot 2) (.cons (.ix (.slot 0) (.slot 2)) (.nil))))) (.nil))) [some (.ref f), some (.ref (h.length + 1)), none, none] g = some (.ok (.ref (g.length + 1)) (g ++ [O.lst ((rowsW a).map rwD), O.tpl ((rowsW a).map rwD)])) := by
    show bnd (evs (cf n) _ _ _) _ = _
    rw [s_one lc2, bnd_ok]
    have : tpl1 [.ref g.length] (g ++ [O.lst ((rowsW a).map rwD)]) = some (.ok (.ref (g.length + 1)) (g ++ [O.lst ((rowsW a).map rwD), O.tpl ((rowsW a).map rwD)])) := by
      unfold tpl1
      dsimp only
      rw [is_end]
      unfold Mini.alloc
      dsimp only
      rw [List.length_append, List.append_assoc]
      rfl
    have b : biD .tpl [D.ref g.length] (g ++ [O.lst ((rowsW a).map rwD)]) = tpl1 [.ref g.length] (g ++ [O.lst ((rowsW a).map rwD)]) := rfl
    rw [b, this, bnd_ok, gc_ref]
  have res : cf (n + 1) 4 [.ref f] h = some (.ok (.ref (g.length + 1)) (g ++ [O.lst ((rowsW a).map rwD), O.tpl ((rowsW a).map rwD)])) := by
    refine hobj (fn := ⟨1, 4, p__law_rows⟩) rfl rfl rfl (ret_ret ?_)
    show exec (cf n) pC p__law_rows [some (.ref f), none, none, none] h = _
    unfold p__law_rows
    rw [seq_nx st]
    show exec (cf n) pC (.seq (.ret _) .nil) [some (.ref f), some (.ref (h.length + 1)), none, none] ((h.set f (dctL a) ++ [O.lst ((keys a).map k2), O.lst ((sortW (keys a)).map k2)]).set f (dct a)) = _
    rw [sb]
    exact seq_rt (ret_ok tv)
  refine ⟨[O.lst ((keys a).map k2), O.lst ((sortW (keys a)).map k2), O.lst ((rowsW a).map rwD), O.tpl ((rowsW a).map rwD)], g.length + 1, ?_, by rw [hg, List.length_append]; omega, ?_⟩
  · rw [res, hg, List.append_assoc]; rfl
  · have e : h ++ [O.lst ((keys a).map k2), O.lst ((sortW (keys a)).map k2), O.lst ((rowsW a).map rwD), O.tpl ((rowsW a).map rwD)] = g ++ [O.lst ((rowsW a).map rwD), O.tpl ((rowsW a).map rwD)] := by rw [hg, List.append_assoc]; rfl
    rw [e, List.getElem?_append_right (by omega), Nat.add_sub_cancel_left]; rfl
/-! ### is_expansion -/
/-- the value's rows are p -/
structure Rw (v : D) (h : List O) (p : List Row) : Prop where
  it : itemsOf v h = some (p.map rwD, [])
  ty : isiD h .tuple v = some true
theorem rw_pl (p : List Row) (h : List O) : Rw (pl p) h p := ⟨rfl, rfl⟩
theorem rw_ref {h : List O} {k : Nat} {p : List Row} (e : h[k]? = some (.tpl (p.map rwD))) : Rw (.ref k) h p := by
  constructor
  · unfold itemsOf rdLst lkDct rdTpl
    dsimp only
    rw [e]
  · unfold isiD
    dsimp only
    rw [e]; rfl
theorem Rw.app {v : D} {h : List O} {p : List Row} (r : Rw v h p) (hv : (∃ k, v = .ref k ∧ h[k]? = some (.tpl (p.map rwD))) ∨ v = pl p) (t : List O) : Rw v (h ++ t) p := by
  rcases hv with ⟨k, rfl, e⟩ | rfl
  · exact rw_ref (by rw [List.getElem?_append_left (List.getElem?_eq_some_iff.mp e).1]; exact e)
  · exact rw_pl p _
structure Vx (p : List Row) : Prop where
  len : p.length ≤ 400
  ok : Ok p
  bd : ∀ r ∈ p, r.2 ≠ 0 ∧ r.2.natAbs ≤ 1000000000000
  so : ∀ (i : Nat) (a b : Row), p[i]? = some a → p[i + 1]? = some b → PySem.W.dataLt (pyP (k2 a.1)) (pyP (k2 b.1)) = true
theorem ok_rowsW {a : A} (h : Ok a) : Ok (rowsW a) := by
  refine ⟨?_, fun r hr => ?_⟩
  · have e : (rowsW a).map (fun r => r.1) = sortW (keys a) := by unfold rowsW; rw [List.map_map]; exact List.map_id _
    show ((rowsW a).map fun r => r.1).Nodup
    rw [e]
    exact (sortW_perm _).nodup_iff.mpr (keys_nd h.1)
  · obtain ⟨w, hw, rfl⟩ := List.mem_map.mp hr
    obtain ⟨s, hs, e⟩ := List.mem_map.mp ((sortW_perm _).mem_iff.mp hw)
    show Wk w
    rw [← e]
    exact h.2 s (List.mem_filter.mp hs).1
theorem row_is {a : A} (h : Ok a) {r : Row} (hr : r ∈ rowsW a) : r.2 = get0 a r.1 ∧ r.2 ≠ 0 := by
  obtain ⟨w, hw, rfl⟩ := List.mem_map.mp hr
  exact ⟨rfl, (keys_mem h.1 w).mp ((sortW_perm _).mem_iff.mp hw)⟩
theorem get0_rowsW {a : A} (h : Ok a) : get0 (rowsW a) = get0 a := by
  funext w
  by_cases z : get0 a w = 0
  · rw [z]
    refine get0_out fun m => ?_
    obtain ⟨r, hr, rfl⟩ := List.mem_map.mp m
    have := row_is h hr
    omega
  · have m : (w, get0 a w) ∈ rowsW a := List.mem_map.mpr ⟨w, (sortW_perm _).mem_iff.mpr ((keys_mem h.1 w).mpr z), rfl⟩
    exact get_row (ok_rowsW h).1 m
theorem vx_rowsW {a : A} (h : Ok a) (hb : ∀ w, (get0 a w).natAbs ≤ 1000000000000) : Vx (rowsW a) where
  len := rows_len h
  ok := ok_rowsW h
  bd := fun r hr => ⟨(row_is h hr).2, by rw [(row_is h hr).1]; exact hb _⟩
  so := fun i r s hr hs => by
    unfold rowsW at hr hs
    rw [List.getElem?_map] at hr hs
    obtain ⟨u, hu, rfl⟩ := Option.map_eq_some_iff.mp hr
    obtain ⟨v, hv, rfl⟩ := Option.map_eq_some_iff.mp hs
    obtain ⟨l1, e1⟩ := List.getElem?_eq_some_iff.mp hu
    obtain ⟨l2, e2⟩ := List.getElem?_eq_some_iff.mp hv
    have le := List.pairwise_iff_getElem.mp (sortW_sorted (keys a)) i (i + 1) l1 l2 (by omega)
    have ne := List.pairwise_iff_getElem.mp ((sortW_perm _).nodup_iff.mpr (keys_nd h.1)) i (i + 1) l1 l2 (by omega)
    rw [e1, e2] at le ne
    exact lt_of_le le ne
end Lk69
end

section
/-! k69: is_expansion, expansion_product, told (own work). -/
namespace Lk69
open Mini
def bIs : S := .seq (.ite (.or (.nt (.tru (.isi (.slot 2) .tuple))) (.or (.tru (.cmp .Gt (.bi .len (.cons (.slot 2) (.nil))) (.con (.int (3)) "DEGREE"))) (.nt (.tru (.call 24 (.cons (.slot 3) (.cons (.neg (.bin .Pow (.int 10) (.int 12))) (.cons (.bin .Pow (.int 10) (.int 12)) (.nil)))) []))))) (.seq (.ret (.bl false)) (.nil)) (.nil)) (.seq (.ite (.or (.tru (.cmp .Eq (.slot 3) (.int 0))) (.nt (.tru (.bi .all (.cons (.lc [7] (.slot 7) (.itr (.slot 2)) (.omit) (.call 24 (.cons (.slot 7) (.cons (.int 1) (.cons (.int 7) (.nil)))) [])) (.nil)))))) (.seq (.ret (.bl false)) (.nil)) (.nil)) (.nil))
theorem pow_ok (h : List O) {call : Caller} {env : Env} : ev call (.bin .Pow (.int 10) (.int 12)) env h = some (.ok (.int 1000000000000) h) := by
  have p : powOk 10 12 = true := by decide
  show (if powOk 10 12 then okI ((10 : Int) ^ (12 : Int).toNat) h else none) = _
  rw [if_pos p]; rfl
theorem is_turn {n : Nat} {v a b c d e f : Option D} {r : Row} {h : List O} (w : Wk r.1) (nz : r.2 ≠ 0) (bd : r.2.natAbs ≤ 1000000000000) : turn (cf (n + 2)) pC (.tup (.cons (.slot 2) (.cons (.slot 3) (.nil)))) bIs (rwD r) [v, a, b, c, d, e, f, none] h = some (.fl (.nx [v, a, some (kw r.1), some (.int r.2), d, e, f, none]) h) := by
  show exec (cf (n + 2)) pC bIs [v, a, some (kw r.1), some (.int r.2), d, e, f, none] h = _
  unfold bIs
  have le := len_ev (call := cf (n + 2)) (i := 2) (env := [v, a, some (kw r.1), some (.int r.2), d, e, f, none]) (h := h) (w := r.1) rfl
  have rc := in_range_call (n := n) (h := h) r.2 (-1000000000000) 1000000000000
  have q1 : (-1000000000000 : Int) ≤ r.2 := by omega
  have q2 : r.2 ≤ 1000000000000 := by omega
  simp only [q1, q2, decide_true, Bool.and_self] at rc
  have w3 := w.1
  have g3 : cmpD .Gt (.int r.1.length) (.int 3) h = some false := by
    show some (decide ((3 : Int) < (r.1.length : Int))) = _
    rw [decide_eq_false (by omega)]
  have c1 : evt (cf (n + 2)) (.or (.nt (.tru (.isi (.slot 2) .tuple))) (.or (.tru (.cmp .Gt (.bi .len (.cons (.slot 2) (.nil))) (.con (.int (3)) "DEGREE"))) (.nt (.tru (.call 24 (.cons (.slot 3) (.cons (.neg (.bin .Pow (.int 10) (.int 12))) (.cons (.bin .Pow (.int 10) (.int 12)) (.nil)))) []))))) [v, a, some (kw r.1), some (.int r.2), d, e, f, none] h = some (.ok false h) := by
    rw [t_or_f (t_nt (b := true) (t_bl (e_isi (e_slot (d := kw r.1) rfl) rfl))), t_or_f (t_bl (b := false) (e_cmp0 le (show ev (cf (n + 2)) (.con (.int 3) "DEGREE") [v, a, some (kw r.1), some (.int r.2), d, e, f, none] h = some (.ok (.int 3) h) from rfl) g3))]
    have ng : ev (cf (n + 2)) (.neg (.bin .Pow (.int 10) (.int 12))) [v, a, some (kw r.1), some (.int r.2), d, e, f, none] h = some (.ok (.int (-1000000000000)) h) := by
      rw [ev, pow_ok, bnd_ok]; rfl
    exact t_nt (b := true) (t_bl (e_call (s_cons (e_slot rfl) (s_two ng (pow_ok h))) rc))
  rw [seq_nx (e := [v, a, some (kw r.1), some (.int r.2), d, e, f, none]) (h' := h) (by rw [ite_f c1]; rfl)]
  have it : evi (cf (n + 2)) (.itr (.slot 2)) [v, a, some (kw r.1), some (.int r.2), d, e, f, none] h = some (.ok (r.1.map D.int, []) h) := by
    rw [evi, e_slot (d := kw r.1) rfl, bnd_ok]; rfl
  have go := lc_fmE (f := lcT (cf (n + 2)) [7] (.slot 7) .omit (.call 24 (.cons (.slot 7) (.cons (.int 1) (.cons (.int 7) (.nil)))) []) [v, a, some (kw r.1), some (.int r.2), d, e, f, none]) (h := h) (src := [])
    D.int (fun _ => some (.bl true)) rfl r.1 [] (by simpa using lim9 (by omega)) (fun x hx => by
      have c := in_range_call (n := n) (h := h) x 1 7
      have p := w.2 x hx
      simp only [p.1, p.2, decide_true, Bool.and_self] at c
      have e0 : lcT (cf (n + 2)) [7] (.slot 7) .omit (.call 24 (.cons (.slot 7) (.cons (.int 1) (.cons (.int 7) (.nil)))) []) [v, a, some (kw r.1), some (.int r.2), d, e, f, none] (.int x) h = bnd (ev (cf (n + 2)) (.call 24 (.cons (.slot 7) (.cons (.int 1) (.cons (.int 7) (.nil)))) []) [v, a, some (kw r.1), some (.int r.2), d, e, f, some (.int x)] h) (fun y h3 => some (.ok (some y) h3)) := rfl
      rw [e0, e_call (vs := [.int x, .int 1, .int 7]) (s_cons (e_slot rfl) (s_two (x := .int 1) rfl (y := .int 7) rfl)) c, bnd_ok])
  have lc := lc_ev it go
  have al : ev (cf (n + 2)) (.bi .all (.cons (.lc [7] (.slot 7) (.itr (.slot 2)) (.omit) (.call 24 (.cons (.slot 7) (.cons (.int 1) (.cons (.int 7) (.nil)))) [])) (.nil))) [v, a, some (kw r.1), some (.int r.2), d, e, f, none] h = some (.ok (.bl true) h) :=
    bi_list lc (all_true rd_end (fun y hy => by
      rw [List.nil_append] at hy
      obtain ⟨_, _, e⟩ := List.mem_filterMap.mp hy
      exact (Option.some.inj e).symm)) rfl
  have z : (r.2 == 0) = false := by simpa using nz
  rw [seq_nx (e := [v, a, some (kw r.1), some (.int r.2), d, e, f, none]) (h' := h) (by
    rw [ite_f (h' := h) (by
      rw [t_or_f (t_bl (b := false) (e_cmp0 (e_slot (d := .int r.2) rfl) (y := .int 0) rfl ((cmp_eqi _ _ _).trans (by rw [z]))))]
      exact t_nt (b := true) (t_bl al))]
    rfl)]
  rfl
theorem zip_enc {α : Type} (f : α → D) : ∀ (p q : List α), zipD (p.map f) (q.map f) = (p.zip q).map fun x => .tup [f x.1, f x.2]
  | [], q => by cases q <;> rfl
  | _ :: _, [] => rfl
  | a :: p, b :: q => by
    have := zip_enc f p q
    simp only [List.map_cons, zipD, List.zip_cons_cons, this]
theorem zip_adj {α : Type} (p : List α) (x : α × α) (h : x ∈ p.dropLast.zip p.tail) : ∃ i, p[i]? = some x.1 ∧ p[i + 1]? = some x.2 := by
  obtain ⟨i, hi, e⟩ := List.getElem_of_mem h
  have hz : (p.dropLast.zip p.tail)[i]? = some x := by rw [List.getElem?_eq_getElem hi, e]
  rw [List.getElem?_zip_eq_some] at hz
  refine ⟨i, ?_, ?_⟩
  · have := hz.1
    rw [List.dropLast_eq_take, List.getElem?_take] at this
    split at this
    · exact this
    · cases this
  · have := hz.2
    rw [List.getElem?_tail] at this
    exact this
theorem cut_last {α : Type} (f : α → D) (p : List α) : cutD (p.map f) none (some (-1)) = p.dropLast.map f := by
  unfold cutD sIxD
  simp only [List.length_map, Int.reduceNeg, Nat.sub_zero, List.drop_zero]
  have e : (-1 + (p.length : Int)).toNat = p.length - 1 := by omega
  simp [e, List.dropLast_eq_take, List.map_take]
theorem cut_tail {α : Type} (f : α → D) (p : List α) : cutD (p.map f) (some 1) none = p.tail.map f := by
  cases p with
  | nil => rfl
  | cons r p =>
    simp [cutD, sIxD]
    exact List.take_of_length_le (by simp)
theorem is_exec {n : Nat} {v : D} {h : List O} {p : List Row} (rw' : Rw v h p) (vx : Vx p) : ∃ t : List O, exec (cf (n + 2)) pC p_is_expansion [some v, none, none, none, none, none, none, none] h = some (.fl (.rt (.bl true)) (h ++ t)) := by
  obtain ⟨l0, l1, l2, l3, l4⟩ := lims
  have lp : p.length ≤ lim := lim9 (by have := vx.len; omega)
  have it : ∀ (i : Nat) (env : Env), env[i]? = some (some v) → evi (cf (n + 2)) (.itr (.slot i)) env h = some (.ok (p.map rwD, []) h) := fun i env e => by
    rw [evi, e_slot e, bnd_ok, rw'.it]
  -- all are pairs
  have go := lc_fmE (f := lcT (cf (n + 2)) [6] (.slot 6) .omit (.and (.isi (.slot 6) .tuple) (.cmp .Eq (.bi .len (.cons (.slot 6) (.nil))) (.int 2))) [some v, none, none, none, none, none, none, none]) (h := h) (src := [])
    rwD (fun _ => some (.bl true)) rfl p [] (by simpa using lp) (fun r _ => by
      have e0 : lcT (cf (n + 2)) [6] (.slot 6) .omit (.and (.isi (.slot 6) .tuple) (.cmp .Eq (.bi .len (.cons (.slot 6) (.nil))) (.int 2))) [some v, none, none, none, none, none, none, none] (rwD r) h = bnd (ev (cf (n + 2)) (.and (.isi (.slot 6) .tuple) (.cmp .Eq (.bi .len (.cons (.slot 6) (.nil))) (.int 2))) [some v, none, none, none, none, none, some (rwD r), none] h) (fun y h3 => some (.ok (some y) h3)) := rfl
      have le : ev (cf (n + 2)) (.bi .len (.cons (.slot 6) (.nil))) [some v, none, none, none, none, none, some (rwD r), none] h = some (.ok (.int 2) h) :=
        bi_one (t := []) (g := []) (x := rwD r) (by rw [List.append_nil]; exact e_slot rfl) (by rw [List.append_nil, List.append_nil]; rfl) rfl
      have an : ev (cf (n + 2)) (.and (.isi (.slot 6) .tuple) (.cmp .Eq (.bi .len (.cons (.slot 6) (.nil))) (.int 2))) [some v, none, none, none, none, none, some (rwD r), none] h = some (.ok (.bl true) h) := by
        show bnd (ev (cf (n + 2)) (.isi (.slot 6) .tuple) _ _) _ = _
        rw [e_isi (e_slot (d := rwD r) rfl) (b := true) rfl, bnd_ok]
        exact e_cmp0 le (y := .int 2) rfl (cmp_eqi _ _ _)
      rw [e0, an, bnd_ok])
  have lc := lc_ev (it 0 _ rfl) go
  have al : ev (cf (n + 2)) (.bi .all (.cons (.lc [6] (.slot 6) (.itr (.slot 0)) (.omit) (.and (.isi (.slot 6) .tuple) (.cmp .Eq (.bi .len (.cons (.slot 6) (.nil))) (.int 2)))) (.nil))) [some v, none, none, none, none, none, none, none] h = some (.ok (.bl true) h) :=
    bi_list lc (all_true rd_end (fun y hy => by
      rw [List.nil_append] at hy
      obtain ⟨_, _, e⟩ := List.mem_filterMap.mp hy
      exact (Option.some.inj e).symm)) rfl
  have c1 : evt (cf (n + 2)) (.or (.nt (.tru (.isi (.slot 0) .tuple))) (.nt (.tru (.bi .all (.cons (.lc [6] (.slot 6) (.itr (.slot 0)) (.omit) (.and (.isi (.slot 6) .tuple) (.cmp .Eq (.bi .len (.cons (.slot 6) (.nil))) (.int 2)))) (.nil)))))) [some v, none, none, none, none, none, none, none] h = some (.ok false h) := by
    rw [t_or_f (t_nt (b := true) (t_bl (e_isi (e_slot (d := v) rfl) rw'.ty)))]
    exact t_nt (b := true) (t_bl al)
  obtain ⟨e, g, e1, a2, a3, rfl, rfl⟩ := for_ind (src := []) (f := turn (cf (n + 2)) pC (.tup (.cons (.slot 2) (.cons (.slot 3) (.nil)))) bIs) (xs := p.map rwD)
    (fun i env g => ∃ a2 a3 : Option D, env = [some v, none, a2, a3, none, none, none, none] ∧ g = h) (fun _ _ _ _ => rfl) (by
      rintro i x env g hx ⟨a2, a3, rfl, rfl⟩
      rw [List.getElem?_map] at hx
      obtain ⟨r, hr, rfl⟩ := Option.map_eq_some_iff.mp hx
      have rm := List.mem_of_getElem? hr
      exact ⟨_, _, is_turn (vx.ok.2 r rm) (vx.bd r rm).1 (vx.bd r rm).2, _, _, rfl, rfl⟩) (env := [some v, none, none, none, none, none, none, none]) (h := h) ⟨none, none, rfl, rfl⟩
  -- rows
  have go3 := lc_fmE (f := lcT (cf (n + 2)) [2, 3] (.tup (.cons (.slot 2) (.cons (.slot 3) (.nil)))) .omit (.tup (.cons (.bi .len (.cons (.slot 2) (.nil))) (.cons (.slot 2) (.nil)))) [some v, none, a2, a3, none, none, none, none]) (h := g) (src := [])
    rwD (fun r => some (k2 r.1)) rfl p [] (by simpa using lp) (fun r _ => by
      have le := len_ev (call := cf (n + 2)) (i := 2) (env := [some v, none, some (kw r.1), some (.int r.2), none, none, none, none]) (h := g) (w := r.1) rfl
      have e0 : lcT (cf (n + 2)) [2, 3] (.tup (.cons (.slot 2) (.cons (.slot 3) (.nil)))) .omit (.tup (.cons (.bi .len (.cons (.slot 2) (.nil))) (.cons (.slot 2) (.nil)))) [some v, none, a2, a3, none, none, none, none] (rwD r) g = bnd (ev (cf (n + 2)) (.tup (.cons (.bi .len (.cons (.slot 2) (.nil))) (.cons (.slot 2) (.nil)))) [some v, none, some (kw r.1), some (.int r.2), none, none, none, none] g) (fun y h3 => some (.ok (some y) h3)) := rfl
      rw [e0, e_tup (s_two le (e_slot rfl)) l2, bnd_ok]; rfl)
  have fm3 : ∀ q : List Row, q.filterMap (fun r => some (k2 r.1)) = (q.map fun r => r.1).map k2 := fun q => by
    induction q with
    | nil => rfl
    | cons r q ih => simp
  rw [List.nil_append, fm3] at go3
  have lc3 := lc_ev (it 0 _ rfl) go3
  obtain ⟨ws, hws⟩ : ∃ ws, ws = p.map fun r => r.1 := ⟨_, rfl⟩
  rw [← hws] at lc3
  have lw : ws.length ≤ lim := by rw [hws, List.length_map]; exact lp
  have rd3 : rdLst (g ++ [O.lst (ws.map k2)]) g.length = some (ws.map k2) := rd_end
  have cl := cut_last k2 ws
  have ct := cut_tail k2 ws
  have s1 : ev (cf (n + 2)) (.sl (.slot 1) (.omit) (.cons (.neg (.int 1)) .nil)) [some v, some (.ref g.length), a2, a3, none, none, none, none] (g ++ [O.lst (ws.map k2)]) = some (.ok (.ref (g.length + 1)) (g ++ [O.lst (ws.map k2), O.lst (ws.dropLast.map k2)])) := by
    have : slG (.ref g.length) none (some (-1)) (g ++ [O.lst (ws.map k2)]) = some (.ok (.ref (g.length + 1)) (g ++ [O.lst (ws.map k2), O.lst (ws.dropLast.map k2)])) := by
      unfold slG
      dsimp only
      rw [rd3]
      dsimp only
      rw [cl]
      unfold Mini.alloc
      rw [List.length_append, List.append_assoc]; rfl
    rw [ev, e_slot (d := .ref g.length) rfl, bnd_ok]
    show slG (.ref g.length) none (some (-1)) _ = _
    exact this
  have rd4 : rdLst (g ++ [O.lst (ws.map k2), O.lst (ws.dropLast.map k2)]) g.length = some (ws.map k2) := by
    unfold rdLst
    rw [List.getElem?_append_right (Nat.le_refl _), Nat.sub_self]; rfl
  have s2 : ev (cf (n + 2)) (.sl (.slot 1) (.cons (.int 1) .nil) (.omit)) [some v, some (.ref g.length), a2, a3, none, none, none, none] (g ++ [O.lst (ws.map k2), O.lst (ws.dropLast.map k2)]) = some (.ok (.ref (g.length + 2)) (g ++ [O.lst (ws.map k2), O.lst (ws.dropLast.map k2), O.lst (ws.tail.map k2)])) := by
    have : slG (.ref g.length) (some 1) none (g ++ [O.lst (ws.map k2), O.lst (ws.dropLast.map k2)]) = some (.ok (.ref (g.length + 2)) (g ++ [O.lst (ws.map k2), O.lst (ws.dropLast.map k2), O.lst (ws.tail.map k2)])) := by
      unfold slG
      dsimp only
      rw [rd4]
      dsimp only
      rw [ct]
      unfold Mini.alloc
      rw [List.length_append, List.append_assoc]; rfl
    rw [ev, e_slot (d := .ref g.length) rfl, bnd_ok]
    show slG (.ref g.length) (some 1) none _ = _
    exact this
  obtain ⟨G, hG⟩ : ∃ G, G = g ++ [O.lst (ws.map k2), O.lst (ws.dropLast.map k2), O.lst (ws.tail.map k2)] := ⟨_, rfl⟩
  have r1 : rdLst G (g.length + 1) = some (ws.dropLast.map k2) := by
    rw [hG]; unfold rdLst
    rw [List.getElem?_append_right (by omega), Nat.add_sub_cancel_left]; rfl
  have r2 : rdLst G (g.length + 2) = some (ws.tail.map k2) := by
    rw [hG]; unfold rdLst
    rw [List.getElem?_append_right (by omega), Nat.add_sub_cancel_left]; rfl
  have itz : evi (cf (n + 2)) (.zip (.sl (.slot 1) (.omit) (.cons (.neg (.int 1)) .nil)) (.sl (.slot 1) (.cons (.int 1) .nil) (.omit))) [some v, some (.ref g.length), a2, a3, none, none, none, none] (g ++ [O.lst (ws.map k2)]) = some (.ok ((ws.dropLast.zip ws.tail).map (fun x => .tup [k2 x.1, k2 x.2]), [(g.length + 1, ws.dropLast.map k2), (g.length + 2, ws.tail.map k2)]) G) := by
    rw [evi, s1, bnd_ok, s2, bnd_ok, ← hG]
    unfold zipP
    dsimp only
    rw [r1, r2]
    dsimp only
    rw [zip_enc]
  have lz : (ws.dropLast.zip ws.tail).length ≤ lim := by
    rw [List.length_zip, List.length_tail]; omega
  have goz := lc_fmE (f := lcT (cf (n + 2)) [4, 5] (.tup (.cons (.slot 4) (.cons (.slot 5) (.nil)))) .omit (.cmp .Lt (.slot 4) (.slot 5)) [some v, some (.ref g.length), a2, a3, none, none, none, none]) (h := G) (src := [(g.length + 1, ws.dropLast.map k2), (g.length + 2, ws.tail.map k2)])
    (fun x : W × W => .tup [k2 x.1, k2 x.2]) (fun _ => some (.bl true)) (by simp [chk, r1, r2, D.beqL_refl]) (ws.dropLast.zip ws.tail) [] (by simpa using lz) (fun x hx => by
      obtain ⟨i, h1, h2⟩ := zip_adj ws x hx
      rw [hws, List.getElem?_map] at h1 h2
      obtain ⟨u, hu, e1⟩ := Option.map_eq_some_iff.mp h1
      obtain ⟨w, hw, e2⟩ := Option.map_eq_some_iff.mp h2
      have q := vx.so i u w hu hw
      rw [e1, e2] at q
      have lt : cmpD .Lt (k2 x.1) (k2 x.2) G = some true := by
        have e3 : cmpD .Lt (k2 x.1) (k2 x.2) G = ltD (k2 x.1) (k2 x.2) := rfl
        rw [e3]
        unfold ltD
        rw [k2_pure, k2_pure, alike_k2, decide_eq_true (depth_k2 x.1), q]; rfl
      have e0 : lcT (cf (n + 2)) [4, 5] (.tup (.cons (.slot 4) (.cons (.slot 5) (.nil)))) .omit (.cmp .Lt (.slot 4) (.slot 5)) [some v, some (.ref g.length), a2, a3, none, none, none, none] (.tup [k2 x.1, k2 x.2]) G = bnd (ev (cf (n + 2)) (.cmp .Lt (.slot 4) (.slot 5)) [some v, some (.ref g.length), a2, a3, some (k2 x.1), some (k2 x.2), none, none] G) (fun y h3 => some (.ok (some y) h3)) := rfl
      rw [e0, e_cmp0 (e_slot rfl) (e_slot rfl) lt, bnd_ok])
  have lcz := lc_ev itz goz
  have alz : ev (cf (n + 2)) (.bi .all (.cons (.lc [4, 5] (.tup (.cons (.slot 4) (.cons (.slot 5) (.nil)))) (.zip (.sl (.slot 1) (.omit) (.cons (.neg (.int 1)) .nil)) (.sl (.slot 1) (.cons (.int 1) .nil) (.omit))) (.omit) (.cmp .Lt (.slot 4) (.slot 5))) (.nil))) [some v, some (.ref g.length), a2, a3, none, none, none, none] (g ++ [O.lst (ws.map k2)]) = some (.ok (.bl true) (g ++ [O.lst (ws.map k2)])) := by
    have hG2 : G = g ++ [O.lst (ws.map k2)] ++ [O.lst (ws.dropLast.map k2), O.lst (ws.tail.map k2)] := by rw [hG, List.append_assoc]; rfl
    rw [hG2, List.append_assoc (g ++ [O.lst (ws.map k2)])] at lcz
    refine bi_list lcz (all_true (xs := [] ++ (ws.dropLast.zip ws.tail).filterMap fun _ => some (.bl true)) ?_ (fun y hy => by
      rw [List.nil_append] at hy
      obtain ⟨_, _, e⟩ := List.mem_filterMap.mp hy
      exact (Option.some.inj e).symm)) rfl
    rw [← List.append_assoc (g ++ [O.lst (ws.map k2)])]
    exact rd_end
  refine ⟨[O.lst (ws.map k2)], ?_⟩
  show exec (cf (n + 2)) pC (.seq (.ite (.or (.nt (.tru (.isi (.slot 0) .tuple))) (.nt (.tru (.bi .all (.cons (.lc [6] (.slot 6) (.itr (.slot 0)) (.omit) (.and (.isi (.slot 6) .tuple) (.cmp .Eq (.bi .len (.cons (.slot 6) (.nil))) (.int 2)))) (.nil)))))) (.seq (.ret (.bl false)) (.nil)) (.nil)) (.seq (.for (.tup (.cons (.slot 2) (.cons (.slot 3) (.nil)))) (.itr (.slot 0)) bIs) (.seq (.asg (.slot 1) (.lc [2, 3] (.tup (.cons (.slot 2) (.cons (.slot 3) (.nil)))) (.itr (.slot 0)) (.omit) (.tup (.cons (.bi .len (.cons (.slot 2) (.nil))) (.cons (.slot 2) (.nil)))))) (.seq (.ret (.bi .all (.cons (.lc [4, 5] (.tup (.cons (.slot 4) (.cons (.slot 5) (.nil)))) (.zip (.sl (.slot 1) (.omit) (.cons (.neg (.int 1)) .nil)) (.sl (.slot 1) (.cons (.int 1) .nil) (.omit))) (.omit) (.cmp .Lt (.slot 4) (.slot 5))) (.nil)))) (.nil))))) [some v, none, none, none, none, none, none, none] g = _
  rw [seq_nx (e := [some v, none, none, none, none, none, none, none]) (h' := g) (by rw [ite_f c1]; rfl)]
  rw [seq_nx (by rw [for_is (it 0 _ rfl)]; exact e1)]
  rw [seq_nx (e := [some v, some (.ref g.length), a2, a3, none, none, none, none]) (h' := g ++ [O.lst (ws.map k2)]) (asg_ok lc3 (show 1 < 8 by decide))]
  exact seq_rt (ret_ok alz)
/-- is_expansion of a value in the heap, or of a pure one -/
theorem is_call {n : Nat} {v : D} {h : List O} {p : List Row} (hv : (∃ k, v = .ref k ∧ h[k]? = some (.tpl (p.map rwD))) ∨ v = pl p) (vx : Vx p) : cf (n + 3) 21 [v] h = some (.ok (.bl true) h) := by
  rcases hv with ⟨k, rfl, e⟩ | rfl
  · obtain ⟨t, et⟩ := is_exec (n := n) (rw_ref e) vx
    exact hcall (fn := ⟨1, 8, p_is_expansion⟩) rfl rfl rfl (ret_ret et) rfl
  · obtain ⟨t, et⟩ := is_exec (n := n) (rw_pl p []) vx
    exact pcall (fn := ⟨1, 8, p_is_expansion⟩) rfl rfl (by simp [D.pureL, pl_pure]) (ret_ret et) rfl
end Lk69
end

section
/-! k69: expansion_product, _law_told (own work). -/
namespace Lk69
open Mini
/-- a value whose rows are p -/
def Va (h : List O) (v : D) (p : List Row) : Prop := (∃ k, v = .ref k ∧ h[k]? = some (.tpl (p.map rwD))) ∨ v = pl p
theorem Va.rw {h : List O} {v : D} {p : List Row} (a : Va h v p) : Rw v h p := by
  rcases a with ⟨k, rfl, e⟩ | rfl
  · exact rw_ref e
  · exact rw_pl p h
theorem Va.app {h : List O} {v : D} {p : List Row} (a : Va h v p) (t : List O) : Va (h ++ t) v p := by
  rcases a with ⟨k, rfl, e⟩ | rfl
  · exact .inl ⟨k, rfl, by rw [List.getElem?_append_left (List.getElem?_eq_some_iff.mp e).1]; exact e⟩
  · exact .inr rfl
theorem put_go : ∀ (l acc : A), Nd (acc ++ l) → l.foldl (fun a (x : Row) => if true = true then aput a x.1 x.2 else a) acc = acc ++ l
  | [], acc, _ => by simp
  | x :: l, acc, h => by
    have out : ¬ (acc.any fun p => decide (p.1 = x.1)) = true := fun z => by
      obtain ⟨p, hp, e⟩ := List.any_eq_true.mp z
      unfold Nd at h
      rw [List.map_append, List.map_cons] at h
      have := (List.nodup_append.mp h).2.2 p.1 (List.mem_map.mpr ⟨p, hp, rfl⟩) x.1 List.mem_cons_self
      exact this (by simpa using e)
    have e : aput acc x.1 x.2 = acc ++ [x] := by unfold aput; rw [if_neg out]
    rw [List.foldl_cons, if_pos rfl, e, put_go l _ (by simpa using h), List.append_assoc]; rfl
theorem dc_rows {call : Caller} {env : Env} {h : List O} {v : D} {p : List Row} {i : Nat} (a : Va h v p) (vx : Vx p) (e : env[i]? = some (some v)) (ll : 4 < env.length) : ev call (.dc [3, 4] true (.tup (.cons (.slot 3) (.cons (.slot 4) (.nil)))) (.itr (.slot i)) (.omit) (.slot 3) (.slot 4)) env h = some (.ok (.ref h.length) (h ++ [dct p])) := by
  have it : evi call (.itr (.slot i)) env h = some (.ok (p.map rwD, []) h) := by
    rw [evi, e_slot e, bnd_ok, a.rw.it]
  have go := dc_fold (src := []) (t := true) (F := dcT call [3, 4] (.tup (.cons (.slot 3) (.cons (.slot 4) (.nil)))) .omit (.slot 3) (.slot 4) env) (h := h) kw_inj rwD (fun r : Row => r.1) (fun r => r.2) (fun r => true) rfl kw_ok p [] (by simpa using lim9 (by have := vx.len; omega)) (fun r _ => by
    have l3 : 3 < (wipeD env [3, 4]).length := by show 3 < ((env.set 4 none).set 3 none).length; simp; omega
    have q : asgT (.tup (.cons (.slot 3) (.cons (.slot 4) (.nil)))) (rwD r) (wipeD env [3, 4]) = some (((wipeD env [3, 4]).set 3 (some (kw r.1))).set 4 (some (.int r.2))) := by
      have l4 : 4 < (wipeD env [3, 4]).length := by show 4 < ((env.set 4 none).set 3 none).length; simp; omega
      simp [asgT, asgT.asgTs, rwD, l3, l4]
    have l4 : 4 < ((wipeD env [3, 4]).set 3 (some (kw r.1))).length := by show 4 < (((env.set 4 none).set 3 none).set 3 _).length; simp; omega
    have s3 : (((wipeD env [3, 4]).set 3 (some (kw r.1))).set 4 (some (D.int r.2)))[3]? = some (some (kw r.1)) := by
      rw [List.getElem?_set_ne (by decide), List.getElem?_set_self l3]
    have s4 : (((wipeD env [3, 4]).set 3 (some (kw r.1))).set 4 (some (D.int r.2)))[4]? = some (some (.int r.2)) := List.getElem?_set_self l4
    unfold dcT
    rw [q]
    dsimp only
    rw [show evt call .omit (((wipeD env [3, 4]).set 3 (some (kw r.1))).set 4 (some (D.int r.2))) h = some (.ok true h) from rfl, bnd_ok, if_pos rfl, e_slot s3, bnd_ok, e_slot s4, bnd_ok]; rfl)
  have fe := put_go p [] (by simpa using vx.ok.1)
  rw [List.nil_append] at fe
  rw [fe] at go
  exact dc_ev (call := call) (own := [3, 4]) it go
theorem prod_exec {n : Nat} {v u : D} {h : List O} {p q : List Row} (a : Va h v p) (b : Va h u q) (vp : Vx p) (vq : Vx q) : ∃ t : List O, exec (cf (n + 3)) pC p_expansion_product [some v, some u, none, none, none] h = some (.fl (.rt (pl (rowsW (flt (mulA p q))))) (h ++ t)) := by
  have c1 := is_call (n := n) a vp
  have c2 := is_call (n := n) b vq
  have sp : Sm p := fun r hr => Nat.lt_of_le_of_lt (vp.bd r hr).2 (by decide)
  have d1 := dc_rows (call := cf (n + 3)) (env := [some v, some u, none, none, none]) (i := 0) a vp rfl (show 4 < 5 by decide)
  have d2 := dc_rows (call := cf (n + 3)) (env := [some v, some u, some (.ref h.length), none, none]) (i := 1) (b.app [dct p]) vq rfl (show 4 < 5 by decide)
  have g1 : (h ++ [dct p] ++ [dct q])[h.length]? = some (dct p) := by
    rw [List.append_assoc, List.getElem?_append_right (Nat.le_refl _), Nat.sub_self]; rfl
  have g2 : (h ++ [dct p] ++ [dct q])[(h ++ [dct p]).length]? = some (dct q) := get_end
  obtain ⟨k, h', e, ek, t, rfl⟩ := product_call (n := n + 2) g1 g2 (by rw [List.length_append]; simp) vp.ok vq.ok sp
  have td := told_call (n := n + 2) ek (ok_flt (ok_mul vp.ok vq.ok)) (nz_flt _)
  refine ⟨[dct p] ++ [dct q] ++ t, ?_⟩
  unfold p_expansion_product
  rw [seq_nx (e := [some v, some u, none, none, none]) (h' := h) (by rw [ite_f (t_nt (b := true) (t_bl (e_call (s_one (e_slot rfl)) c1)))]; rfl)]
  rw [seq_nx (e := [some v, some u, none, none, none]) (h' := h) (by rw [ite_f (t_nt (b := true) (t_bl (e_call (s_one (e_slot rfl)) c2)))]; rfl)]
  rw [seq_nx (e := [some v, some u, some (.ref h.length), none, none]) (h' := h ++ [dct p]) (asg_ok d1 (show 2 < 5 by decide))]
  refine seq_rt (ret_ok ?_)
  rw [← List.append_assoc, ← List.append_assoc]
  exact e_call (s_one (e_call (s_two (e_slot rfl) d2) e)) td
theorem prod_val {a b : A} (ha : Ok a) (hb : Ok b) : rowsW (flt (mulA (rowsW a) (rowsW b))) = rowsW (mulA a b) :=
  rows_ext (ok_flt (ok_mul (ok_rowsW ha) (ok_rowsW hb))).1 (ok_mul ha hb).1 (by
    rw [get0_flt _ (ok_mul (ok_rowsW ha) (ok_rowsW hb)).1, get0_mul (ok_rowsW ha).1 (ok_rowsW hb).1, get0_rowsW ha, get0_rowsW hb, get0_mul ha.1 hb.1])
theorem prod_call {n : Nat} {k : Nat} {u : D} {h : List O} {p q : List Row} (hk : h[k]? = some (.tpl (p.map rwD))) (b : Va h u q) (vp : Vx p) (vq : Vx q) : cf (n + 4) 12 [.ref k, u] h = some (.ok (pl (rowsW (flt (mulA p q)))) h) := by
  obtain ⟨t, e⟩ := prod_exec (n := n) (v := .ref k) (.inl ⟨k, rfl, hk⟩) b vp vq
  exact hcall (fn := ⟨2, 5, p_expansion_product⟩) rfl rfl (by simp [D.pureL, D.pure]) (ret_ret e) (pl_pure _)
/-! ### _law_told -/
def bTo : S := .seq (.ret (.ifx (.tru (.cmp .Eq (.slot 0) (.int 0))) (.call 10 (.cons (.slot 1) (.nil)) []) (.ifx (.tru (.cmp .Eq (.slot 0) (.int 1))) (.call 11 (.cons (.slot 1) (.nil)) []) (.call 12 (.cons (.slot 1) (.cons (.slot 2) (.nil))) [])))) (.nil)
def hTo : S := .hcons 2 3 (.tup (.cons (.str "argument") (.cons (.fld "reason") (.nil)))) (.hnil)
theorem told_is {call : Caller} {env env' : Env} {h h' : List O} {d : D} (e : exec call pC bTo env h = some (.fl (.rt d) h')) : exec call pC p__law_told env h = some (.fl (.rt d) h') := by
  show exec call pC (.seq (.try bTo hTo) .nil) env h = _
  refine seq_rt ?_
  show (match exec call pC bTo env h with
    | some (.exc c fs env' h') => handle pC c fs env' h' hTo
    | r => r) = _
  rw [e]
theorem told0 {n : Nat} {h : List O} {l : W} (v : Lt l) : cf (n + 5) 1 [.int 0, kw l, .non] h = some (.ok (pl (rowsW (expd l))) h) := by
  refine pcall (fn := ⟨3, 4, p__law_told⟩) rfl rfl (by simp [D.pureL, kw_pure, int_pure, D.pure]) (g := []) (ret_ret (told_is (env' := []) ?_)) (pl_pure _)
  refine seq_rt (ret_ok ?_)
  rw [e_ifx_t (h1 := []) (t_bl (b := true) (e_cmp0 (e_slot (d := .int 0) rfl) (y := .int 0) rfl (cmp_eqi _ _ _)))]
  exact e_call (s_one (e_slot rfl)) (expansion_call (n := n) v)
theorem told1 {n : Nat} {h : List O} {l : W} (v : Lt l) : cf (n + 5) 1 [.int 1, kw l, .non] h = some (.ok (kw (plainW (negs l))) h) := by
  refine pcall (fn := ⟨3, 4, p__law_told⟩) rfl rfl (by simp [D.pureL, kw_pure, int_pure, D.pure]) (g := []) (ret_ret (told_is (env' := []) ?_)) (kw_pure _)
  refine seq_rt (ret_ok ?_)
  rw [e_ifx_f (h1 := []) (t_bl (b := false) (e_cmp0 (e_slot (d := .int 1) rfl) (y := .int 0) rfl (cmp_eqi _ _ _))), e_ifx_t (h1 := []) (t_bl (b := true) (e_cmp0 (e_slot (d := .int 1) rfl) (y := .int 1) rfl (cmp_eqi _ _ _)))]
  exact e_call (s_one (e_slot rfl)) (undone_call (n := n) v)
theorem told2 {n : Nat} {k : Nat} {u : D} {h : List O} {p q : List Row} (hk : h[k]? = some (.tpl (p.map rwD))) (b : Va h u q) (vp : Vx p) (vq : Vx q) : cf (n + 5) 1 [.int 2, .ref k, u] h = some (.ok (pl (rowsW (flt (mulA p q)))) h) := by
  refine hcall (fn := ⟨3, 4, p__law_told⟩) (t := []) rfl rfl (by simp [D.pureL, D.pure]) (ret_ret (told_is (env' := []) ?_)) (pl_pure _)
  rw [List.append_nil]
  refine seq_rt (ret_ok ?_)
  rw [e_ifx_f (h1 := h) (t_bl (b := false) (e_cmp0 (e_slot (d := .int 2) rfl) (y := .int 0) rfl (cmp_eqi _ _ _))), e_ifx_f (h1 := h) (t_bl (b := false) (e_cmp0 (e_slot (d := .int 2) rfl) (y := .int 1) rfl (cmp_eqi _ _ _)))]
  exact e_call (s_two (e_slot rfl) (e_slot rfl)) (prod_call (n := n) hk b vp vq)
end Lk69
end

section
/-! k69: what the draws make (own work). -/
namespace Lk69
open Mini
/-- the rest of the heap stays -/
def Fr (h h' : List O) : Prop := h.length ≤ h'.length ∧ ∀ i, i < h.length → i ≠ 3 → h'[i]? = h[i]?
theorem fr_refl (h : List O) : Fr h h := ⟨Nat.le_refl _, fun _ _ _ => rfl⟩
theorem fr_trans {a b c : List O} (x : Fr a b) (y : Fr b c) : Fr a c := ⟨Nat.le_trans x.1 y.1, fun i hi h3 => by rw [y.2 i (Nat.lt_of_lt_of_le hi x.1) h3, x.2 i hi h3]⟩
theorem fr_app (h t : List O) : Fr h (h ++ t) := ⟨by rw [List.length_append]; omega, fun i hi _ => List.getElem?_append_left hi⟩
theorem fr_set (h : List O) (o : O) : Fr h (h.set 3 o) := ⟨by rw [List.length_set]; exact Nat.le_refl _, fun i _ h3 => List.getElem?_set_ne (Ne.symm h3)⟩
theorem fr_new (h : List O) (o : O) {k : Nat} (hk : h.length ≤ k) {g : List O} (x : Fr h g) : Fr h (g.set k o) := ⟨by rw [List.length_set]; exact x.1, fun i hi h3 => by rw [List.getElem?_set_ne (by omega)]; exact x.2 i hi h3⟩
theorem fr_gc {h h' : List O} {d : D} (x : Fr h h') : Fr h (gc h d h') := by
  unfold gc
  split
  · exact x
  · split
    · exact fr_refl h
    · exact x
theorem fr_get {h h' : List O} {i : Nat} {o : O} (x : Fr h h') (e : h[i]? = some o) (h3 : i ≠ 3) : h'[i]? = some o := by
  rw [x.2 i (List.getElem?_eq_some_iff.mp e).1 h3]; exact e
/-- a comprehension, turn by turn -/
theorem lc_ind {src : Src} {f : D → List O → Option (R (Option D))} {xs : List D} (P : Nat → List D → List O → Prop) (hc : ∀ i acc h, P i acc h → chk src h = true) (hl : xs.length ≤ lim)
    (st : ∀ i x acc h, xs[i]? = some x → P i acc h → acc.length = i → ∃ y h', f x h = some (.ok (some y) h') ∧ P (i + 1) (acc ++ [y]) h') {h : List O} (p0 : P 0 [] h) : ∃ ys h', lcGo src f xs [] h = some (.ok ys h') ∧ P xs.length ys h' := by
  have key : ∀ (m i : Nat) (acc : List D) (h : List O), i + m = xs.length → acc.length = i → P i acc h → ∃ ys h', lcGo src f (xs.drop i) acc h = some (.ok ys h') ∧ P xs.length ys h' := by
    intro m
    induction m with
    | zero =>
      intro i acc h hi _ p
      have : i = xs.length := by omega
      subst this
      rw [List.drop_length]
      exact ⟨acc, h, lc_nil (hc _ _ _ p), p⟩
    | succ m ih =>
      intro i acc h hi ha p
      have hx : i < xs.length := by omega
      rw [List.drop_eq_getElem_cons hx]
      obtain ⟨y, h', e1, p1⟩ := st i _ acc h (List.getElem?_eq_getElem hx) p ha
      rw [lc_some (hc _ _ _ p) e1 (by omega)]
      exact ih (i + 1) (acc ++ [y]) h' (by omega) (by simp [ha]) p1
  have := key xs.length 0 [] h (by omega) rfl p0
  simpa using this
theorem i1 : pPF[2]? = some ⟨3, 3, bOne 13⟩ := rfl
theorem i2 : pPF[13]? = some ⟨3, 4, bTake 22⟩ := rfl
theorem i3 : pPF[22]? = some ⟨2, 4, bMore⟩ := rfl
theorem rng_is {call : Caller} {e : E} {env : Env} {h h1 : List O} {r : Int} (he : ev call e env h = some (.ok (.int r) h1)) (r0 : 0 ≤ r) (r9 : r ≤ 1000) : evi call (.rng (.cons e .nil)) env h = some (.ok ((List.range r.toNat).map fun k : Nat => D.int (0 + (k : Int)), []) h1) := by
  have rgD : rangeD [.int r] = some ((List.range r.toNat).map fun k : Nat => D.int (0 + (k : Int))) := by
    unfold rangeD
    dsimp only
    rw [if_pos (by omega)]
  rw [evi, s_one he, bnd_ok, rgD]
theorem letters_call {ds : List Int} {n : Nat} {h : List O} {p most : Int} (s : St ds h p) (m0 : 0 ≤ most) (m9 : most ≤ 30) : ∃ (l : W) (h' : List O) (p' : Int), Lt l ∧ l.length ≤ 30 ∧ St ds h' p' ∧ Fr h h' ∧ cf (n + 4) 8 [.int most, .ref 1, .ref 3] h = some (.ok (kw l) h') := by
  obtain ⟨f, fm, e1, s1⟩ := one_lst (C := pC) (n := n) i1 i2 i3 s [.int 1, .int 2, .int 7] (by simp) (env := [some (.int most), some (.ref 1), some (.ref 3), none, none]) (es := .cons (.int 1) (.cons (.int 2) (.cons (.int 7) (.nil)))) (i := 1) (j := 2) rfl rfl rfl (by simp)
  obtain ⟨far, rfl, f0, f9⟩ : ∃ far : Int, f = .int far ∧ 1 ≤ far ∧ far ≤ 7 := by
    simp only [List.mem_cons, List.not_mem_nil, or_false] at fm
    rcases fm with rfl | rfl | rfl
    · exact ⟨1, rfl, by decide, by decide⟩
    · exact ⟨2, rfl, by decide, by decide⟩
    · exact ⟨7, rfl, by decide, by decide⟩
  have f1 : Fr h ((h ++ [O.lst [.int 1, .int 2, .int 7]]).set 3 (.lst [.int (p + 1)])) := fr_trans (fr_app _ _) (fr_set _ _)
  generalize ((h ++ [O.lst [.int 1, .int 2, .int 7]]).set 3 (.lst [.int (p + 1)])) = h1 at e1 s1 f1
  obtain ⟨c, c0, c9, e2⟩ := take_ev (PF := pPF) (C := pC) (n := n + 1) i2 i3 (k := most + 1) (h := h1) (h1 := h1) (env := [some (.int most), some (.ref 1), some (.ref 3), some (.int far), none]) (e := .bin .Add (.slot 0) (.int 1)) (i := 1) (j := 2) s1 (by omega) rfl rfl (e_bin (e_slot (d := .int most) rfl) (y := .int 1) rfl rfl)
  have s2 := st_set s1
  have f2 : Fr h1 (h1.set 3 (.lst [.int (p + 1 + 1)])) := fr_set _ _
  generalize (h1.set 3 (.lst [.int (p + 1 + 1)])) = h2 at e2 s2 f2
  have it := rng_is e2 c0 (by omega)
  obtain ⟨ys, h3, e3, l, rfl, hl, hg, p3, s3, f3⟩ := lc_ind (src := []) (f := lcT (cf (n + 3)) [4] (.slot 4) .omit (.bin .Mult (.call 2 (.cons (.lst (.cons (.int 1) (.cons (.neg (.int 1)) (.nil)))) (.cons (.slot 1) (.cons (.slot 2) (.nil)))) []) (.bin .Add (.int 1) (.call 13 (.cons (.slot 1) (.cons (.slot 2) (.cons (.slot 3) (.nil)))) []))) [some (.int most), some (.ref 1), some (.ref 3), some (.int far), none])
    (xs := (List.range c.toNat).map fun k : Nat => D.int (0 + (k : Int))) (fun i acc g => ∃ l : W, acc = l.map D.int ∧ l.length = i ∧ (∀ x ∈ l, x ≠ 0 ∧ x.natAbs ≤ 7) ∧ ∃ q, St ds g q ∧ Fr h1 g) (fun _ _ _ _ => rfl) (by rw [List.length_map, List.length_range]; exact lim9 (by omega)) (by
      rintro i x acc g hx ⟨l, rfl, hl, hg, q, s, fr⟩ _
      obtain ⟨d, dm, ed, sd⟩ := one_lst (C := pC) (n := n) i1 i2 i3 s [.int 1, .int (-1)] (by simp) (env := [some (.int most), some (.ref 1), some (.ref 3), some (.int far), some x]) (es := .cons (.int 1) (.cons (.neg (.int 1)) (.nil))) (i := 1) (j := 2) rfl rfl rfl (by simp)
      obtain ⟨sg, rfl, hs⟩ : ∃ sg : Int, d = .int sg ∧ (sg = 1 ∨ sg = -1) := by
        simp only [List.mem_cons, List.not_mem_nil, or_false] at dm
        rcases dm with rfl | rfl
        · exact ⟨1, rfl, .inl rfl⟩
        · exact ⟨-1, rfl, .inr rfl⟩
      have fr2 : Fr h1 ((g ++ [O.lst [.int 1, .int (-1)]]).set 3 (.lst [.int (q + 1)])) := fr_trans fr (fr_trans (fr_app _ _) (fr_set _ _))
      generalize ((g ++ [O.lst [.int 1, .int (-1)]]).set 3 (.lst [.int (q + 1)])) = g2 at ed sd fr2
      obtain ⟨r, r0, r9, er⟩ := take_ev (PF := pPF) (C := pC) (n := n + 1) i2 i3 (k := far) (h := g2) (h1 := g2) (env := [some (.int most), some (.ref 1), some (.ref 3), some (.int far), some x]) (e := .slot 3) (i := 1) (j := 2) sd (by omega) rfl rfl (e_slot rfl)
      have mo : mulOk sg (1 + r) = true := by
        unfold mulOk
        have : sg.natAbs < 2 ^ 64 := by omega
        simp [this]
      refine ⟨.int (sg * (1 + r)), g2.set 3 (.lst [.int (q + 1 + 1)]), ?_, l ++ [sg * (1 + r)], by rw [List.map_append]; rfl, by rw [List.length_append, hl]; rfl, fun y hy => ?_, q + 1 + 1, st_set sd, fr_trans fr2 (fr_set _ _)⟩
      · have e0 : lcT (cf (n + 3)) [4] (.slot 4) .omit (.bin .Mult (.call 2 (.cons (.lst (.cons (.int 1) (.cons (.neg (.int 1)) (.nil)))) (.cons (.slot 1) (.cons (.slot 2) (.nil)))) []) (.bin .Add (.int 1) (.call 13 (.cons (.slot 1) (.cons (.slot 2) (.cons (.slot 3) (.nil)))) []))) [some (.int most), some (.ref 1), some (.ref 3), some (.int far), none] x g = bnd (ev (cf (n + 3)) (.bin .Mult (.call 2 (.cons (.lst (.cons (.int 1) (.cons (.neg (.int 1)) (.nil)))) (.cons (.slot 1) (.cons (.slot 2) (.nil)))) []) (.bin .Add (.int 1) (.call 13 (.cons (.slot 1) (.cons (.slot 2) (.cons (.slot 3) (.nil)))) []))) [some (.int most), some (.ref 1), some (.ref 3), some (.int far), some x] g) (fun y h3 => some (.ok (some y) h3)) := rfl
        have ad := e_bin (op := .Add) (x := .int 1) (d1 := .int 1) (call := cf (n + 3)) (h := g2) (h1 := g2) rfl er (r := some (.ok (.int (1 + r)) (g2.set 3 (.lst [.int (q + 1 + 1)])))) rfl
        have ml := e_bin (op := .Mult) ed ad (r := some (.ok (.int (sg * (1 + r))) (g2.set 3 (.lst [.int (q + 1 + 1)])))) (by
          show (if mulOk sg (1 + r) then okI (sg * (1 + r)) _ else none) = _
          rw [if_pos mo]; rfl)
        rw [e0, ml, bnd_ok]
      · rcases List.mem_append.mp hy with m | m
        · exact hg y m
        · have : y = sg * (1 + r) := by simpa using m
          rcases hs with rfl | rfl
          · omega
          · omega) (h := h2) ⟨[], rfl, rfl, (fun _ m => nomatch m), _, s2, f2⟩
  rw [List.length_map, List.length_range] at hl
  have lc := lc_ev it e3
  have lt : Lt l := ⟨by omega, hg⟩
  have f1' : Fr h1 (h3 ++ [O.lst (l.map D.int)]) := fr_trans f3 (fr_app _ _)
  have tv : ev (cf (n + 3)) (.bi .tuple (.cons (.lc [4] (.slot 4) (.rng (.cons (.call 13 (.cons (.slot 1) (.cons (.slot 2) (.cons (.bin .Add (.slot 0) (.int 1)) (.nil)))) []) (.nil))) (.omit) (.bin .Mult (.call 2 (.cons (.lst (.cons (.int 1) (.cons (.neg (.int 1)) (.nil)))) (.cons (.slot 1) (.cons (.slot 2) (.nil)))) []) (.bin .Add (.int 1) (.call 13 (.cons (.slot 1) (.cons (.slot 2) (.cons (.slot 3) (.nil)))) [])))) (.nil))) [some (.int most), some (.ref 1), some (.ref 3), some (.int far), none] h1 = some (.ok (kw l) (gc h1 (kw l) (h3 ++ [O.lst (l.map D.int)]))) := by
    show bnd (evs (cf (n + 3)) _ _ _) _ = _
    rw [s_one lc, bnd_ok]
    have b : biD .tuple [D.ref h3.length] (h3 ++ [O.lst (l.map D.int)]) = tuple1 [D.ref h3.length] (h3 ++ [O.lst (l.map D.int)]) := rfl
    have b2 : tuple1 [D.ref h3.length] (h3 ++ [O.lst (l.map D.int)]) = some (.ok (kw l) (h3 ++ [O.lst (l.map D.int)])) := by
      unfold tuple1
      dsimp only
      rw [rd_end]; rfl
    rw [b, b2, bnd_ok]
  obtain ⟨q4, s4⟩ := st_gc (d := kw l) s1 (st_app s3 [O.lst (l.map D.int)])
  have f4 : Fr h (gc h1 (kw l) (h3 ++ [O.lst (l.map D.int)])) := fr_trans f1 (fr_gc f1')
  obtain ⟨q5, s5⟩ := st_gc (d := kw l) s s4
  have body : exec (cf (n + 3)) pC p__law_letters [some (.int most), some (.ref 1), some (.ref 3), none, none] h = some (.fl (.rt (kw l)) (gc h1 (kw l) (h3 ++ [O.lst (l.map D.int)]))) := by
    unfold p__law_letters
    rw [seq_nx (e := [some (.int most), some (.ref 1), some (.ref 3), some (.int far), none]) (h' := h1) (asg_ok e1 (show 3 < 5 by decide))]
    exact seq_rt (ret_ok tv)
  exact ⟨l, _, q5, lt, by omega, s5, fr_gc f4, callF_heap (fn := ⟨3, 5, p__law_letters⟩) rfl rfl rfl (ret_ret body)⟩
end Lk69
end

section
/-! k69: expansions with any factors (own work). -/
namespace Lk69
open Mini
def eWo : E := .bi .tuple (.cons (.lc [5] (.slot 5) (.rng (.cons (.call 13 (.cons (.slot 0) (.cons (.slot 1) (.cons (.int 4) (.nil)))) []) (.nil))) (.omit) (.bin .Add (.int 1) (.call 13 (.cons (.slot 0) (.cons (.slot 1) (.cons (.call 2 (.cons (.lst (.cons (.int 2) (.cons (.int 7) (.nil)))) (.cons (.slot 0) (.cons (.slot 1) (.nil)))) []) (.nil)))) []))) (.nil))
def eFa : E := .call 2 (.cons (.lst (.cons (.int 1) (.cons (.neg (.int 1)) (.cons (.int 1000000000000) (.cons (.neg (.int 1000000000000)) (.cons (.bin .Sub (.call 13 (.cons (.slot 0) (.cons (.slot 1) (.cons (.int 99) (.nil)))) []) (.int 49)) (.nil))))))) (.cons (.slot 0) (.cons (.slot 1) (.nil)))) []
def bSo : S := .seq (.asg (.slot 4) eWo) (.seq (.asg (.tsub (.slot 2) (.slot 4)) eFa) (.nil))
theorem word_ev {ds : List Int} {n : Nat} {h : List O} {p : Int} (s : St ds h p) (a b c : Option D) : ∃ (w : W) (h' : List O) (p' : Int), Wk w ∧ St ds h' p' ∧ Fr h h' ∧ ev (cf (n + 3)) eWo [some (.ref 1), some (.ref 3), a, b, c, none] h = some (.ok (kw w) h') := by
  obtain ⟨c0, r0, r9, e2⟩ := take_ev (PF := pPF) (C := pC) (n := n + 1) i2 i3 (k := 4) (h := h) (h1 := h) (env := [some (.ref 1), some (.ref 3), a, b, c, none]) (e := .int 4) (i := 0) (j := 1) s (by omega) rfl rfl rfl
  have s2 := st_set s
  have f2 : Fr h (h.set 3 (.lst [.int (p + 1)])) := fr_set _ _
  generalize (h.set 3 (.lst [.int (p + 1)])) = h2 at e2 s2 f2
  have it := rng_is e2 r0 (by omega)
  obtain ⟨ys, h3, e3, l, rfl, hl, hg, p3, s3, f3⟩ := lc_ind (src := []) (f := lcT (cf (n + 3)) [5] (.slot 5) .omit (.bin .Add (.int 1) (.call 13 (.cons (.slot 0) (.cons (.slot 1) (.cons (.call 2 (.cons (.lst (.cons (.int 2) (.cons (.int 7) (.nil)))) (.cons (.slot 0) (.cons (.slot 1) (.nil)))) []) (.nil)))) [])) [some (.ref 1), some (.ref 3), a, b, c, none])
    (xs := (List.range c0.toNat).map fun k : Nat => D.int (0 + (k : Int))) (fun i acc g => ∃ l : W, acc = l.map D.int ∧ l.length = i ∧ (∀ x ∈ l, 1 ≤ x ∧ x ≤ 7) ∧ ∃ q, St ds g q ∧ Fr h g) (fun _ _ _ _ => rfl) (by rw [List.length_map, List.length_range]; exact lim9 (by omega)) (by
      rintro i x acc g hx ⟨l, rfl, hl, hg, q, s, fr⟩ _
      obtain ⟨d, dm, ed, sd⟩ := one_lst (C := pC) (n := n) i1 i2 i3 s [.int 2, .int 7] (by simp) (env := [some (.ref 1), some (.ref 3), a, b, c, some x]) (es := .cons (.int 2) (.cons (.int 7) (.nil))) (i := 0) (j := 1) rfl rfl rfl (by simp)
      obtain ⟨m, rfl, hm⟩ : ∃ m : Int, d = .int m ∧ (m = 2 ∨ m = 7) := by
        simp only [List.mem_cons, List.not_mem_nil, or_false] at dm
        rcases dm with rfl | rfl
        · exact ⟨2, rfl, .inl rfl⟩
        · exact ⟨7, rfl, .inr rfl⟩
      have fr2 : Fr h ((g ++ [O.lst [.int 2, .int 7]]).set 3 (.lst [.int (q + 1)])) := fr_trans fr (fr_trans (fr_app _ _) (fr_set _ _))
      generalize ((g ++ [O.lst [.int 2, .int 7]]).set 3 (.lst [.int (q + 1)])) = g2 at ed sd fr2
      obtain ⟨r, q0, q9, er⟩ := take_ev (PF := pPF) (C := pC) (n := n + 1) i2 i3 (k := m) (h := g) (h1 := g2) (env := [some (.ref 1), some (.ref 3), a, b, c, some x]) (i := 0) (j := 1) sd (by omega) rfl rfl ed
      refine ⟨.int (1 + r), g2.set 3 (.lst [.int (q + 1 + 1)]), ?_, l ++ [1 + r], by rw [List.map_append]; rfl, by rw [List.length_append, hl]; rfl, fun y hy => ?_, q + 1 + 1, st_set sd, fr_trans fr2 (fr_set _ _)⟩
      · have e0 : lcT (cf (n + 3)) [5] (.slot 5) .omit (.bin .Add (.int 1) (.call 13 (.cons (.slot 0) (.cons (.slot 1) (.cons (.call 2 (.cons (.lst (.cons (.int 2) (.cons (.int 7) (.nil)))) (.cons (.slot 0) (.cons (.slot 1) (.nil)))) []) (.nil)))) [])) [some (.ref 1), some (.ref 3), a, b, c, none] x g = bnd (ev (cf (n + 3)) (.bin .Add (.int 1) (.call 13 (.cons (.slot 0) (.cons (.slot 1) (.cons (.call 2 (.cons (.lst (.cons (.int 2) (.cons (.int 7) (.nil)))) (.cons (.slot 0) (.cons (.slot 1) (.nil)))) []) (.nil)))) [])) [some (.ref 1), some (.ref 3), a, b, c, some x] g) (fun y h3 => some (.ok (some y) h3)) := rfl
        have ad := e_bin (op := .Add) (x := .int 1) (d1 := .int 1) (call := cf (n + 3)) (h := g) (h1 := g) rfl er (r := some (.ok (.int (1 + r)) (g2.set 3 (.lst [.int (q + 1 + 1)])))) rfl
        rw [e0, ad, bnd_ok]
      · rcases List.mem_append.mp hy with m | m
        · exact hg y m
        · have : y = 1 + r := by simpa using m
          omega) (h := h2) ⟨[], rfl, rfl, (fun _ m => nomatch m), _, s2, f2⟩
  rw [List.length_map, List.length_range] at hl
  have lc := lc_ev it e3
  obtain ⟨q4, s4⟩ := st_gc (d := kw l) s (st_app s3 [O.lst (l.map D.int)])
  refine ⟨l, _, q4, ⟨by omega, hg⟩, s4, fr_gc (fr_trans f3 (fr_app _ _)), ?_⟩
  show bnd (evs (cf (n + 3)) _ _ _) _ = _
  rw [s_one lc, bnd_ok]
  have b : biD .tuple [D.ref h3.length] (h3 ++ [O.lst (l.map D.int)]) = tuple1 [D.ref h3.length] (h3 ++ [O.lst (l.map D.int)]) := rfl
  have b2 : tuple1 [D.ref h3.length] (h3 ++ [O.lst (l.map D.int)]) = some (.ok (kw l) (h3 ++ [O.lst (l.map D.int)])) := by
    unfold tuple1
    dsimp only
    rw [rd_end]; rfl
  rw [b, b2, bnd_ok]
theorem factor_ev {ds : List Int} {n : Nat} {h : List O} {p : Int} (s : St ds h p) (a b c d : Option D) : ∃ (v : Int) (h' : List O) (p' : Int), v.natAbs ≤ 1000000000000 ∧ St ds h' p' ∧ Fr h h' ∧ ev (cf (n + 3)) eFa [some (.ref 1), some (.ref 3), a, b, c, d] h = some (.ok (.int v) h') := by
  obtain ⟨r, r0, r9, e2⟩ := take_ev (PF := pPF) (C := pC) (n := n + 1) i2 i3 (k := 99) (h := h) (h1 := h) (env := [some (.ref 1), some (.ref 3), a, b, c, d]) (e := .int 99) (i := 0) (j := 1) s (by omega) rfl rfl rfl
  have s2 := st_set s
  have f2 : Fr h (h.set 3 (.lst [.int (p + 1)])) := fr_set _ _
  generalize (h.set 3 (.lst [.int (p + 1)])) = h2 at e2 s2 f2
  have sb := e_bin (op := .Sub) e2 (y := .int 49) (h2 := h2) (d2 := .int 49) rfl (r := some (.ok (.int (r - 49)) h2)) rfl
  have he : evs (cf (n + 3)) (.cons (.int 1) (.cons (.neg (.int 1)) (.cons (.int 1000000000000) (.cons (.neg (.int 1000000000000)) (.cons (.bin .Sub (.call 13 (.cons (.slot 0) (.cons (.slot 1) (.cons (.int 99) (.nil)))) []) (.int 49)) (.nil)))))) [some (.ref 1), some (.ref 3), a, b, c, d] h = some (.ok [.int 1, .int (-1), .int 1000000000000, .int (-1000000000000), .int (r - 49)] h2) :=
    s_cons (x := .int 1) (h1 := h) rfl (s_cons (x := .neg (.int 1)) (h1 := h) rfl (s_cons (x := .int 1000000000000) (h1 := h) rfl (s_cons (x := .neg (.int 1000000000000)) (h1 := h) rfl (s_one sb))))
  obtain ⟨x, xm, ex, s3⟩ := one_lst (C := pC) (n := n) i1 i2 i3 s2 _ (by simp) (i := 0) (j := 1) rfl rfl he (by simp)
  obtain ⟨v, rfl, hv⟩ : ∃ v : Int, x = .int v ∧ v.natAbs ≤ 1000000000000 := by
    simp only [List.mem_cons, List.not_mem_nil, or_false] at xm
    rcases xm with rfl | rfl | rfl | rfl | rfl
    · exact ⟨_, rfl, by decide⟩
    · exact ⟨_, rfl, by decide⟩
    · exact ⟨_, rfl, by decide⟩
    · exact ⟨_, rfl, by decide⟩
    · exact ⟨_, rfl, by omega⟩
  exact ⟨v, _, _, hv, s3, fr_trans f2 (fr_trans (fr_app _ _) (fr_set _ _)), ex⟩
/-- what the turns leave -/
def Bd (a : A) : Prop := ∀ w, (get0 a w).natAbs ≤ 1000000000000
theorem ok_aput {a : A} (h : Ok a) {w : W} (hw : Wk w) (v : Int) : Ok (aput a w v) := by
  refine ⟨aput_nodup h.1 w _, fun r hr => ?_⟩
  have : r.1 ∈ (aput a w v).map (·.1) := List.mem_map.mpr ⟨r, hr, rfl⟩
  rcases (aput_mem a w r.1 _).mp this with m | m
  · obtain ⟨s, hs, e⟩ := List.mem_map.mp m
    rw [← e]; exact h.2 s hs
  · rw [m]; exact hw
theorem some_call {ds : List Int} {n : Nat} {h : List O} {p : Int} (s : St ds h p) : ∃ (P : List Row) (k : Nat) (h' : List O) (p' : Int), Vx P ∧ St ds h' p' ∧ Fr h h' ∧ h.length ≤ k ∧ h'[k]? = some (.tpl (P.map rwD)) ∧ cf (n + 4) 6 [.ref 1, .ref 3] h = some (.ok (.ref k) h') := by
  obtain ⟨m, hm0⟩ : ∃ m, m = h.length := ⟨_, rfl⟩
  have l3 := s.len
  have s1 := st_app s [dct []]
  obtain ⟨r, r0, r9, e2⟩ := take_ev (PF := pPF) (C := pC) (n := n + 1) i2 i3 (k := 8) (h := h ++ [dct []]) (h1 := h ++ [dct []]) (env := [some (.ref 1), some (.ref 3), some (.ref m), none, none, none]) (e := .int 8) (i := 0) (j := 1) s1 (by omega) rfl rfl rfl
  have s2 := st_set s1
  have f2 : Fr h ((h ++ [dct []]).set 3 (.lst [.int (p + 1)])) := fr_trans (fr_app _ _) (fr_set _ _)
  have m2 : ((h ++ [dct []]).set 3 (.lst [.int (p + 1)]))[m]? = some (dct []) := by
    rw [List.getElem?_set_ne (by omega), hm0, get_end]
  generalize ((h ++ [dct []]).set 3 (.lst [.int (p + 1)])) = h2 at e2 s2 f2 m2
  have it := rng_is e2 r0 (by omega)
  obtain ⟨e, g, e3, x3, x4, d, q, rfl, s3, f3, m3, od, bd⟩ := for_ind (src := []) (f := turn (cf (n + 3)) pC (.slot 3) bSo) (xs := (List.range r.toNat).map fun k : Nat => D.int (0 + (k : Int)))
    (fun i env g => ∃ (x3 x4 : Option D) (d : A) (q : Int), env = [some (.ref 1), some (.ref 3), some (.ref m), x3, x4, none] ∧ St ds g q ∧ Fr h g ∧ g[m]? = some (dct d) ∧ Ok d ∧ Bd d) (fun _ _ _ _ => rfl) (by
      rintro i x env g hx ⟨x3, x4, d, q, rfl, s, fr, gm, od, bd⟩
      obtain ⟨w, g1, q1, hw, s1, f1, e1⟩ := word_ev (n := n) s (some (.ref m)) (some x) x4
      obtain ⟨v, g2, q2, hv, s2, f2, e2⟩ := factor_ev (n := n) s1 (some (.ref m)) (some x) (some (kw w)) none
      have gm2 : g2[m]? = some (dct d) := fr_get f2 (fr_get f1 gm (by omega)) (by omega)
      have pt := put_at (f := kw) (h := g2) (m := m) (t := true) (d := d) (k := w) kw_inj (kw_ok _) gm2 (lim4 od) v
      refine ⟨[some (.ref 1), some (.ref 3), some (.ref m), some x, some (kw w), none], g2.set m (dct (aput d w v)), ?_, some x, some (kw w), aput d w v, q2, rfl, st_put s2 (by omega) (by omega) _, fr_new h _ (by omega) (fr_trans fr (fr_trans f1 f2)), get_set gm2, ok_aput od hw v, fun u => ?_⟩
      · show exec (cf (n + 3)) pC bSo [some (.ref 1), some (.ref 3), some (.ref m), some x, x4, none] g = _
        unfold bSo
        rw [seq_nx (e := [some (.ref 1), some (.ref 3), some (.ref m), some x, some (kw w), none]) (h' := g1) (asg_ok e1 (show 4 < 6 by decide))]
        rw [seq_nx (e := [some (.ref 1), some (.ref 3), some (.ref m), some x, some (kw w), none]) (h' := g2.set m (dct (aput d w v))) (by
          show bns (ev (cf (n + 3)) eFa _ _) _ _ = _
          rw [e2, bns_ok]
          have a1 : ev (cf (n + 3)) (.slot 2) [some (.ref 1), some (.ref 3), some (.ref m), some x, some (kw w), none] g2 = some (.ok (.ref m) g2) := e_slot rfl
          have a2 : ev (cf (n + 3)) (.slot 4) [some (.ref 1), some (.ref 3), some (.ref m), some x, some (kw w), none] g2 = some (.ok (kw w) g2) := e_slot rfl
          simp only [asgS, onlyOk]
          rw [a1]
          dsimp only
          rw [a2]
          dsimp only
          rw [pt]; rfl)]
        rfl
      · rw [get0_aput]
        split
        · exact hv
        · exact bd u) (env := [some (.ref 1), some (.ref 3), some (.ref m), none, none, none]) (h := h2) ⟨none, none, [], _, rfl, s2, f2, m2, ok_nil, fun w => by show (0 : Int).natAbs ≤ _; decide⟩
  obtain ⟨t, k, ek, hk, gk⟩ := law_rows_call (n := n + 2) m3 od
  refine ⟨rowsW d, k, g ++ t, q, vx_rowsW od bd, st_app s3 t, fr_trans f3 (fr_app _ _), Nat.le_trans f3.1 hk, gk, ?_⟩
  refine hobj (fn := ⟨2, 6, p__law_some⟩) rfl rfl rfl (ret_ret ?_)
  show exec (cf (n + 3)) pC (.seq (.asg (.slot 2) (.dnew true)) (.seq (.for (.slot 3) (.rng (.cons (.call 13 (.cons (.slot 0) (.cons (.slot 1) (.cons (.int 8) (.nil)))) []) (.nil))) bSo) (.seq (.ret (.call 4 (.cons (.slot 2) (.nil)) [])) (.nil)))) [some (.ref 1), some (.ref 3), none, none, none, none] h = _
  rw [seq_nx (e := [some (.ref 1), some (.ref 3), some (.ref m), none, none, none]) (h' := h ++ [dct []]) (by rw [hm0]; simp [exec, asgS, ev, Mini.alloc, dct, encA])]
  rw [seq_nx (by rw [for_is it]; exact e3)]
  exact seq_rt (ret_ok (e_call (s_one (e_slot rfl)) ek))
/-- dict(..) of such a tuple -/
theorem prs_rows : ∀ p : List Row, prsOf (p.map rwD) = some (encA kw p)
  | [] => rfl
  | r :: p => by
    have := prs_rows p
    show (if okK true (kw r.1) then (prsOf (p.map rwD)).map ((kw r.1, D.int r.2) :: ·) else none) = _
    rw [kw_ok, if_pos rfl, this]; rfl
theorem ndK_rows : ∀ p : List Row, Nd p → ndK (encA kw p) = true
  | [], _ => rfl
  | r :: p, h => by
    have nd : r.1 ∉ p.map (·.1) ∧ Nd p := List.nodup_cons.mp h
    have ih := ndK_rows p nd.2
    show (!((encA kw p).any fun q => q.1.beq (kw r.1)) && ndK (encA kw p)) = true
    rw [ih, Bool.and_true, Bool.not_eq_true']
    rw [List.any_eq_false]
    intro q hq z
    obtain ⟨s, hs, rfl⟩ := List.mem_map.mp hq
    exact nd.1 (List.mem_map.mpr ⟨s, hs, kw_inj _ _ (D.beq_eq _ _ z)⟩)
theorem dict_ev {call : Caller} {env : Env} {h : List O} {i k : Nat} {p : List Row} (e : env[i]? = some (some (.ref k))) (hk : h[k]? = some (.tpl (p.map rwD))) (vx : Vx p) : ev call (.bi .dict (.cons (.slot i) .nil)) env h = some (.ok (.ref h.length) (h ++ [dct p])) := by
  show bnd (evs call _ _ _) _ = _
  rw [s_one (e_slot e), bnd_ok]
  have b : biD .dict [D.ref k] h = dict1 [D.ref k] h := rfl
  have b2 : dict1 [D.ref k] h = some (.ok (.ref h.length) (h ++ [dct p])) := by
    unfold dict1 rdTpl
    dsimp only
    rw [hk]
    dsimp only
    rw [prs_rows]
    dsimp only
    rw [ndK_rows p vx.ok.1]
    have l : (encA kw p).length ≤ lim := by unfold encA; rw [List.length_map]; exact lim9 (by have := vx.len; omega)
    rw [decide_eq_true l]
    rfl
  rw [b, b2, bnd_ok, gc_ref]
end Lk69
end

section
/-! k69: _law_same_as (own work). -/
namespace Lk69
open Mini
theorem fi_int' {b B : Nat} {i : Int} (h : i.natAbs < 2 ^ b) (hb : 0 < b) (hb2 : b < 1920) (hB : b + 1 ≤ B) : Fi B 0 (b + 1) (.int i) := by
  have f := fi_int h hb hb2
  refine { f with lf := ?_ }
  have := f.lf
  simp only [PySem.PyData.leavesShort, decide_eq_true_eq] at this ⊢
  omega
theorem pyPL_mem {x : PySem.PyData} : ∀ {xs : List D}, x ∈ pyPL xs → ∃ d ∈ xs, x = pyP d
  | [], h => nomatch h
  | d :: xs, h => by
    rcases List.mem_cons.mp h with e | e
    · exact ⟨d, List.mem_cons_self, e⟩
    · obtain ⟨d', m, e'⟩ := pyPL_mem e
      exact ⟨d', List.mem_cons_of_mem _ m, e'⟩
theorem pyPL_len : ∀ xs : List D, (pyPL xs).length = xs.length
  | [] => rfl
  | x :: xs => by rw [pyPL, List.length_cons, List.length_cons, pyPL_len xs]
theorem fi_kw {w : W} {B : Nat} (h : Wk w) (hB : 5 ≤ B) : Fi B 1 15 (pyP (kw w)) := by
  show Fi B 1 15 (.tuple (pyPL (w.map D.int)))
  refine fi_mono (fi_tup (k := 0) (w := 4) fun x hx => ?_) (Nat.le_refl _) (by rw [pyPL_len, List.length_map]; have := h.1; omega)
  obtain ⟨d, m, rfl⟩ := pyPL_mem hx
  obtain ⟨i, hi, rfl⟩ := List.mem_map.mp m
  have := h.2 i hi
  exact fi_int' (b := 3) (by omega) (by decide) (by decide) (by omega)
theorem fi_rwD {r : Row} {b : Nat} (h : Wk r.1) (hb : r.2.natAbs < 2 ^ b) (b0 : 20 ≤ b) (b9 : b < 1920) : Fi (b + 1) 2 (2 * (b + 2)) (pyP (rwD r)) := by
  show Fi (b + 1) 2 (2 * (b + 2)) (.tuple [pyP (kw r.1), .int r.2])
  refine fi_mono (fi_tup (k := 1) (w := b + 1) fun x hx => ?_) (Nat.le_refl _) (Nat.le_refl _)
  simp only [List.mem_cons, List.not_mem_nil, or_false] at hx
  rcases hx with rfl | rfl
  · exact fi_mono (fi_kw h (by omega)) (Nat.le_refl _) (by omega)
  · exact fi_mono (fi_int hb (by omega) b9) (by decide) (Nat.le_refl _)
/-- rows that are told in few signs -/
def Sh (b : Nat) (p : List Row) : Prop := p.length ≤ 400 ∧ ∀ r ∈ p, Wk r.1 ∧ r.2.natAbs < 2 ^ b
theorem fi_pl {p : List Row} {b : Nat} (h : Sh b p) (b0 : 20 ≤ b) (b9 : b < 1920) : Fi (b + 1) 3 (400 * (2 * (b + 2) + 1)) (pyP (pl p)) := by
  show Fi (b + 1) 3 (400 * (2 * (b + 2) + 1)) (.tuple (pyPL (p.map rwD)))
  refine fi_mono (fi_tup (k := 2) (w := 2 * (b + 2)) fun x hx => ?_) (Nat.le_refl _) ?_
  · obtain ⟨d, m, rfl⟩ := pyPL_mem hx
    obtain ⟨r, hr, rfl⟩ := List.mem_map.mp m
    exact fi_rwD (h.2 r hr).1 (h.2 r hr).2 b0 b9
  · rw [pyPL_len, List.length_map]
    exact Nat.mul_le_mul_right _ h.1
theorem py_ref {h : List O} {k n : Nat} {p : List Row} (e : h[k]? = some (.tpl (p.map rwD))) : pyF (n + 1) h (.ref k) = some (pyP (pl p)) := by
  unfold pyF
  rw [if_neg (by simp [D.pure])]
  dsimp only
  have r1 : rdLst h k = none := by unfold rdLst; rw [e]
  have r2 : rdTpl h k = some (p.map rwD) := by unfold rdTpl; rw [e]
  rw [r1]
  dsimp only
  rw [r2]
  dsimp only
  rw [mapO_p (rows_pure p)]
  rfl
theorem same_exec {call : Caller} {h : List O} {a b : D} {B k w : Nat} {d : D} (f : Fi B k w (pyP d)) (hB : 8 ≤ B) (hk : k ≤ 16) (hw : (B + 2) * w + B ≤ lim) (ea : pyD h a = some (pyP d)) (eb : pyD h b = some (pyP d)) : exec call pC p__law_same_as [some a, some b] h = some (.fl (.rt (.bl true)) h) := by
  have q := eq_fi f (by omega) ea eb (eqv_refl d)
  have r1 := repr_fi f hB hk hw ea
  have r2 := repr_fi f hB hk hw eb
  have v1 : ev call (.bi .repr (.cons (.slot 0) .nil)) [some a, some b] h = some (.ok (.str (pyP d).shown) h) := bi_one (t := []) (g := []) (x := a) (by rw [List.append_nil]; exact e_slot rfl) (by rw [List.append_nil, List.append_nil]; exact r1) rfl
  have v2 : ev call (.bi .repr (.cons (.slot 1) .nil)) [some a, some b] h = some (.ok (.str (pyP d).shown) h) := bi_one (t := []) (g := []) (x := b) (by rw [List.append_nil]; exact e_slot rfl) (by rw [List.append_nil, List.append_nil]; exact r2) rfl
  unfold p__law_same_as
  refine seq_rt (ret_ok ?_)
  show bnd (ev call (.cmp .Eq (.slot 0) (.slot 1)) _ _) _ = _
  rw [e_cmp0 (e_slot rfl) (e_slot rfl) (cmp_eq.trans q), bnd_ok]
  exact e_cmp0 v1 v2 (cmp_eq.trans (eq_str f.so))
theorem same_call {n : Nat} {h : List O} {a b : D} {B k w : Nat} {d : D} (f : Fi B k w (pyP d)) (hB : 8 ≤ B) (hk : k ≤ 16) (hw : (B + 2) * w + B ≤ lim) (np : D.pureL [a, b] = false) (ea : pyD h a = some (pyP d)) (eb : pyD h b = some (pyP d)) : cf (n + 1) 3 [a, b] h = some (.ok (.bl true) h) :=
  hcall (fn := ⟨2, 2, p__law_same_as⟩) (t := []) rfl rfl np (ret_ret (by rw [List.append_nil]; exact same_exec f hB hk hw ea eb)) rfl
theorem same_pure {n : Nat} {h : List O} {a : D} {B k w : Nat} (f : Fi B k w (pyP a)) (hB : 8 ≤ B) (hk : k ≤ 16) (hw : (B + 2) * w + B ≤ lim) (ap : a.pure = true) : cf (n + 1) 3 [a, a] h = some (.ok (.bl true) h) :=
  pcall (fn := ⟨2, 2, p__law_same_as⟩) rfl rfl (by simp [D.pureL, ap]) (ret_ret (same_exec (h := []) f hB hk hw (pyD_p ap) (pyD_p ap))) rfl
/-! ### in few signs -/
theorem X_bd60 {l : W} (h : l.length ≤ 60) (w : W) : (X l w).natAbs < 2 ^ 20 := by
  obtain ⟨h1, h2, h3⟩ := X_le l
  have p2 : l.length ^ 2 ≤ 60 ^ 2 := Nat.pow_le_pow_left h 2
  have p3 : l.length ^ 3 ≤ 60 ^ 3 := Nat.pow_le_pow_left h 3
  match w with
  | [] => rw [X_nil]; decide
  | [x] => have := h1 x; omega
  | [x, y] => have := h2 x y; omega
  | [x, y, z] => have := h3 x y z; omega
  | a :: b :: c :: d :: w =>
    rw [z_X l _ (by simp)]; decide
theorem sh_rows {a : A} (h : Ok a) {b : Nat} (hb : ∀ w, (get0 a w).natAbs < 2 ^ b) : Sh b (rowsW a) :=
  ⟨rows_len h, fun r hr => ⟨(ok_rowsW h).2 r hr, by rw [(row_is h hr).1]; exact hb _⟩⟩
theorem conv_bd {f g : F} (hf : ∀ w, (f w).natAbs ≤ 1000000000000) (hg : ∀ w, (g w).natAbs ≤ 1000000000000) (w : W) : (conv f g w).natAbs < 2 ^ 100 := by
  have m : ∀ u v, (f u * g v).natAbs ≤ 1000000000000 * 1000000000000 := fun u v => by
    rw [Int.natAbs_mul]; exact Nat.mul_le_mul (hf u) (hg v)
  match w with
  | [] => have := m [] []; show (f [] * g []).natAbs < _; omega
  | [x] =>
    have a := m [] [x]; have b := m [x] []
    show (f [] * g [x] + f [x] * g []).natAbs < _
    omega
  | [x, y] =>
    have a := m [] [x, y]; have b := m [x] [y]; have c := m [x, y] []
    show (f [] * g [x, y] + (f [x] * g [y] + f [x, y] * g [])).natAbs < _
    omega
  | [x, y, z] =>
    have a := m [] [x, y, z]; have b := m [x] [y, z]; have c := m [x, y] [z]; have d := m [x, y, z] []
    show (f [] * g [x, y, z] + (f [x] * g [y, z] + (f [x, y] * g [z] + f [x, y, z] * g []))).natAbs < _
    omega
  | _ :: _ :: _ :: _ :: _ => exact (by decide : (0 : Int).natAbs < 2 ^ 100)
theorem vx_bd {p : List Row} (h : Vx p) (w : W) : (get0 p w).natAbs ≤ 1000000000000 := by
  unfold get0 aget
  cases e : p.find? fun q => decide (q.1 = w) with
  | none => exact Nat.zero_le _
  | some r => exact (h.bd r (List.mem_of_find?_eq_some e)).2
end Lk69
end

section
/-! k69: the law's three turns (own work). -/
namespace Lk69
open Mini
def bBk : S := .seq (.asg (.slot 8) (.ifx (.and (.tru (.slot 8)) (.tru (.cmp .Eq (.ix (.slot 8) (.neg (.int 1))) (.slot 9)))) (.sl (.slot 8) (.omit) (.cons (.neg (.int 1)) .nil)) (.bin .Add (.slot 8) (.tup (.cons (.bin .Sub (.int 0) (.slot 9)) (.nil)))))) (.nil)
theorem back_turn {call : Caller} {h : List O} {env : Env} (ll : 9 < env.length) (st : W) (y : Int) (hl : st.length ≤ 10000) (e8 : env[8]? = some (some (kw st))) : turn call pC (.slot 9) bBk (.int y) env h = some (.fl (.nx ((env.set 9 (some (.int y))).set 8 (some (kw (put1 st (-y)))))) h) := by
  have t0 : turn call pC (.slot 9) bBk (.int y) env h = exec call pC bBk (env.set 9 (some (.int y))) h := by
    show (match (if 9 < env.length then some (env.set 9 (some (D.int y))) else none) with
      | some env2 => exec call pC bBk env2 h
      | none => none) = _
    rw [if_pos ll]
  rw [t0]
  have s8 : (env.set 9 (some (D.int y)))[8]? = some (some (kw st)) := by rw [List.getElem?_set_ne (by decide)]; exact e8
  have s9 : (env.set 9 (some (D.int y)))[9]? = some (some (.int y)) := List.getElem?_set_self ll
  have l8 : 8 < (env.set 9 (some (D.int y))).length := by rw [List.length_set]; omega
  unfold bBk
  refine (seq_nx (asg_ok ?_ l8)).trans rfl
  rcases (show st = [] ∨ ∃ s y, st = s ++ [y] from by
    rcases List.eq_nil_or_concat st with q | ⟨s, y, q⟩
    · exact .inl q
    · exact .inr ⟨s, y, by rw [q, List.concat_eq_append]⟩) with rfl | ⟨s, x, rfl⟩
  · have p1 : put1 [] (-y) = [-y] := by simp [put1]
    rw [e_ifx_f (h1 := h) (t_and_f (t_val (e_slot s8) rfl)), p1]
    have tp : ev call (.tup (.cons (.bin .Sub (.int 0) (.slot 9)) (.nil))) (env.set 9 (some (D.int y))) h = some (.ok (kw [-y]) h) := by
      have := e_tup (call := call) (s_one (e_bin (op := .Sub) (x := .int 0) (d1 := .int 0) (h := h) (h1 := h) rfl (e_slot s9) (r := some (.ok (.int (0 - y)) h)) rfl)) (show ([D.int (0 - y)] : List D).length ≤ lim from lims.2.1)
      rw [this, Int.zero_sub]; rfl
    exact e_bin (e_slot s8) tp rfl
  · have tr : truth h (kw (s ++ [x])) = some true := by
      show some (!((s ++ [x]).map D.int).isEmpty) = _
      simp
    have ix : ixG (kw (s ++ [x])) (.int (-1)) h = some (.ok (.int x) h) := by
      unfold ixG seqOf kw
      dsimp only
      rw [at_last]
    have c1 : evt call (.and (.tru (.slot 8)) (.tru (.cmp .Eq (.ix (.slot 8) (.neg (.int 1))) (.slot 9)))) (env.set 9 (some (D.int y))) h = some (.ok (x == y) h) := by
      rw [t_and_t (t_val (e_slot s8) tr)]
      exact t_bl (e_cmp0 (e_ix (e_slot s8) (d2 := .int (-1)) rfl ix) (e_slot s9) (cmp_eqi _ _ _))
    by_cases q : x = y
    · subst q
      have p1 : put1 (s ++ [x]) (-x) = s := by unfold put1; rw [if_pos (by simp)]; simp
      have c2 : (x == x) = true := by simp
      rw [c2] at c1
      rw [e_ifx_t c1, p1]
      have sl : slG (kw (s ++ [x])) none (some (-1)) h = some (.ok (kw s) h) := by
        show some (R.ok (D.tup (cutD ((s ++ [x]).map D.int) none (some (-1)))) h) = _
        rw [cut_last, List.dropLast_concat]; rfl
      rw [ev, e_slot s8, bnd_ok]
      exact sl
    · have q' : ¬ (s ++ [x]).getLast? = some (- -y) := by
        rw [List.getLast?_append]; simpa using q
      have p1 : put1 (s ++ [x]) (-y) = s ++ [x] ++ [-y] := by unfold put1; rw [if_neg q']
      have c2 : (x == y) = false := by simpa using q
      rw [c2] at c1
      rw [e_ifx_f c1, p1]
      have tp : ev call (.tup (.cons (.bin .Sub (.int 0) (.slot 9)) (.nil))) (env.set 9 (some (D.int y))) h = some (.ok (kw [-y]) h) := by
        have := e_tup (call := call) (s_one (e_bin (op := .Sub) (x := .int 0) (d1 := .int 0) (h := h) (h1 := h) rfl (e_slot s9) (r := some (.ok (.int (0 - y)) h)) rfl)) (show ([D.int (0 - y)] : List D).length ≤ lim from lims.2.1)
        rw [this, Int.zero_sub]; rfl
      refine e_bin (e_slot s8) tp ?_
      have l : ((s ++ [x]).map D.int).length + ([-y].map D.int).length ≤ lim := by
        rw [List.length_map, List.length_map]; exact lim9 (by simp at hl ⊢; omega)
      show (if ((s ++ [x]).map D.int).length + ([-y].map D.int).length ≤ lim then some (R.ok (D.tup ((s ++ [x]).map D.int ++ [-y].map D.int)) h) else none) = _
      rw [if_pos l, ← List.map_append]; rfl
/-- a law's expansion, told as rows -/
theorem rows_of {ds : List Int} {h : List O} {p : Int} (s : St ds h p) {l : W} (v : Lt l) (l60 : l.length ≤ 60) {env : Env} {e : E} (he : ev (cf 23) e env h = some (.ok (kw l) h)) : ∃ (a : A) (k : Nat) (t : List O), Ok a ∧ get0 a = X l ∧ ev (cf 23) (.call 4 (.cons (.call 7 (.cons e .nil) []) .nil) []) env h = some (.ok (.ref k) (h ++ t)) ∧ (h ++ t)[k]? = some (.tpl ((rowsW a).map rwD)) ∧ k ≠ 3 := by
  obtain ⟨a, oa, ga, ea⟩ := law_expanded_call 6 15 l v (by omega) h
  obtain ⟨t, k, ek, hk, gk⟩ := law_rows_call (n := 22) (h := h ++ [dct a]) (f := h.length) get_end oa
  rw [List.append_assoc] at ek gk
  exact ⟨a, k, [dct a] ++ t, oa, ga, e_call (s_one (e_call (s_one he) ea)) ek, gk, by have := s.len; rw [List.length_append] at hk; omega⟩
theorem lt_app {a b : W} (ha : Lt a) (hb : Lt b) (la : a.length ≤ 30) (lb : b.length ≤ 30) : Lt (a ++ b) ∧ (a ++ b).length ≤ 60 := by
  have e : (a ++ b).length ≤ 60 := by rw [List.length_append]; omega
  refine ⟨⟨by omega, fun x hx => ?_⟩, e⟩
  rcases List.mem_append.mp hx with m | m
  · exact ha.ne x m
  · exact hb.ne x m
theorem lt_negs {l : W} (h : Lt l) : Lt (negs l) := by
  refine ⟨by unfold negs; rw [List.length_map, List.length_reverse]; exact h.len, fun x hx => ?_⟩
  unfold negs at hx
  obtain ⟨y, hy, rfl⟩ := List.mem_map.mp hx
  have := h.ne y (List.mem_reverse.mp hy)
  omega
theorem put1_mem {st : W} {x y : Int} (h : y ∈ put1 st x) : y ∈ st ∨ y = x := by
  unfold put1 at h
  split at h
  · exact .inl (List.dropLast_subset _ h)
  · rcases List.mem_append.mp h with m | m
    · exact .inl m
    · exact .inr (by simpa using m)
theorem plain_mem : ∀ (w st : W) {y : Int}, y ∈ w.foldl put1 st → y ∈ st ∨ y ∈ w
  | [], _, _, h => .inl h
  | x :: w, st, y, h => by
    rcases plain_mem w _ h with m | m
    · rcases put1_mem m with m | m
      · exact .inl m
      · exact .inr (by rw [m]; exact List.mem_cons_self)
    · exact .inr (List.mem_cons_of_mem _ m)
theorem lt_plain {l : W} (h : Lt l) : Lt (plainW l) := by
  refine ⟨by have := plain_len l []; simp only [List.length_nil] at this; unfold plainW; have := h.len; omega, fun x hx => ?_⟩
  rcases plain_mem l [] hx with m | m
  · cases m
  · exact h.ne x m
theorem ok_exp {l : W} (h : Lt l) : Ok (expd l) := ok_expd l unit_ok h.ne
theorem vx_of {a : A} {l : W} (h : Ok a) (e : get0 a = X l) (hl : l.length ≤ 60) : Vx (rowsW a) := vx_rowsW h fun w => by
  rw [e]
  have := X_bd60 hl w
  omega
theorem sh_of {a : A} {l : W} (h : Ok a) (e : get0 a = X l) (hl : l.length ≤ 60) : Sh 20 (rowsW a) := sh_rows h fun w => by rw [e]; exact X_bd60 hl w
theorem rows_unit : rowsW unit = [([], 1)] := by
  have f : flt unit = unit := rfl
  unfold rowsW keys
  rw [f]
  rfl
end Lk69
end

section
/-! k69: one turn (own work). -/
namespace Lk69
open Mini
def bLaw : S := .seq (.par 10 11 (.cons (.call 8 (.cons (.call 2 (.cons (.lst (.cons (.int 3) (.cons (.int 10) (.cons (.int 30) (.nil))))) (.cons (.slot 1) (.cons (.slot 2) (.nil)))) []) (.cons (.slot 1) (.cons (.slot 2) (.nil)))) []) (.cons (.call 8 (.cons (.int 8) (.cons (.slot 1) (.cons (.slot 2) (.nil)))) []) (.nil)))) (.seq (.par 12 13 (.cons (.call 4 (.cons (.call 7 (.cons (.slot 10) (.nil)) []) (.nil)) []) (.cons (.call 4 (.cons (.call 7 (.cons (.slot 11) (.nil)) []) (.nil)) []) (.nil)))) (.seq (.asg (.slot 7) (.call 4 (.cons (.call 7 (.cons (.bin .Add (.slot 10) (.slot 11)) (.nil)) []) (.nil)) [])) (.seq (.ite (.nt (.tru (.call 3 (.cons (.tup (.cons (.call 1 (.cons (.int 0) (.cons (.slot 10) (.cons (.non) (.nil)))) []) (.cons (.call 1 (.cons (.int 2) (.cons (.slot 12) (.cons (.slot 13) (.nil)))) []) (.cons (.call 1 (.cons (.int 0) (.cons (.bin .Add (.slot 10) (.slot 11)) (.cons (.non) (.nil)))) []) (.nil))))) (.cons (.tup (.cons (.slot 12) (.cons (.slot 7) (.cons (.slot 7) (.nil))))) (.nil))) []))) (.seq (.ret (.bl false)) (.nil)) (.nil)) (.seq (.asg (.slot 8) (.tup (.nil))) (.seq (.for (.slot 9) (.itr (.rev (.slot 10))) bBk) (.seq (.ite (.nt (.tru (.call 3 (.cons (.tup (.cons (.call 1 (.cons (.int 1) (.cons (.slot 10) (.cons (.non) (.nil)))) []) (.cons (.call 1 (.cons (.int 2) (.cons (.slot 12) (.cons (.call 1 (.cons (.int 0) (.cons (.slot 8) (.cons (.non) (.nil)))) []) (.nil)))) []) (.nil)))) (.cons (.tup (.cons (.slot 8) (.cons (.tup (.cons (.tup (.cons (.tup (.nil)) (.cons (.int 1) (.nil)))) (.nil))) (.nil)))) (.nil))) []))) (.seq (.ret (.bl false)) (.nil)) (.nil)) (.seq (.par 14 15 (.cons (.call 6 (.cons (.slot 1) (.cons (.slot 2) (.nil))) []) (.cons (.call 6 (.cons (.slot 1) (.cons (.slot 2) (.nil))) []) (.nil)))) (.seq (.ite (.nt (.tru (.call 3 (.cons (.call 1 (.cons (.int 2) (.cons (.slot 14) (.cons (.slot 15) (.nil)))) []) (.cons (.call 4 (.cons (.call 5 (.cons (.bi .dict (.cons (.slot 14) (.nil))) (.cons (.bi .dict (.cons (.slot 15) (.nil))) (.nil))) []) (.nil)) []) (.nil))) []))) (.seq (.ret (.bl false)) (.nil)) (.nil)) (.nil)))))))))
theorem fi3 {d1 d2 d3 : D} (h1 : Fi 21 3 18000 (pyP d1)) (h2 : Fi 21 3 18000 (pyP d2)) (h3 : Fi 21 3 18000 (pyP d3)) : Fi 21 4 54003 (pyP (.tup [d1, d2, d3])) := by
  show Fi 21 4 54003 (.tuple (pyPL [d1, d2, d3]))
  refine fi_mono (fi_tup (k := 3) (w := 18000) fun x hx => ?_) (Nat.le_refl _) (by rw [pyPL_len, List.length_cons, List.length_cons, List.length_cons, List.length_nil]; decide)
  obtain ⟨d, m, rfl⟩ := pyPL_mem hx
  simp only [List.mem_cons, List.not_mem_nil, or_false] at m
  rcases m with rfl | rfl | rfl
  · exact h1
  · exact h2
  · exact h3
theorem fi2 {d1 d2 : D} (h1 : Fi 21 3 18000 (pyP d1)) (h2 : Fi 21 3 18000 (pyP d2)) : Fi 21 4 36002 (pyP (.tup [d1, d2])) := by
  show Fi 21 4 36002 (.tuple (pyPL [d1, d2]))
  refine fi_mono (fi_tup (k := 3) (w := 18000) fun x hx => ?_) (Nat.le_refl _) (by rw [pyPL_len, List.length_cons, List.length_cons, List.length_nil]; decide)
  obtain ⟨d, m, rfl⟩ := pyPL_mem hx
  simp only [List.mem_cons, List.not_mem_nil, or_false] at m
  rcases m with rfl | rfl
  · exact h1
  · exact h2
theorem fi_p20 {p : List Row} (h : Sh 20 p) : Fi 21 3 18000 (pyP (pl p)) := fi_mono (fi_pl h (by decide) (by decide)) (Nat.le_refl _) (by decide)
theorem fi_word {l : W} (h : Lt l) : Fi 21 3 18000 (pyP (kw l)) := by
  show Fi 21 3 18000 (.tuple (pyPL (l.map D.int)))
  refine fi_mono (fi_tup (k := 0) (w := 4) fun x hx => ?_) (by decide) (by rw [pyPL_len, List.length_map]; have := h.len; omega)
  obtain ⟨d, m, rfl⟩ := pyPL_mem hx
  obtain ⟨i, hi, rfl⟩ := List.mem_map.mp m
  have := h.ne i hi
  exact fi_int' (b := 3) (by omega) (by decide) (by decide) (by decide)
theorem py_three {h : List O} {k1 k2 : Nat} {p q : List Row} (e1 : h[k1]? = some (.tpl (p.map rwD))) (e2 : h[k2]? = some (.tpl (q.map rwD))) : pyD h (.tup [.ref k1, .ref k2, .ref k2]) = some (pyP (.tup [pl p, pl q, pl q])) := by
  unfold pyD pyF
  rw [if_neg (by simp [D.pure, D.pureL])]
  dsimp only
  simp only [mapO, py_ref e1, py_ref e2]
  rfl
theorem add_words {a b : W} (h : (a ++ b).length ≤ 60) (g : List O) : binD .Add (kw a) (kw b) g = some (.ok (kw (a ++ b)) g) := by
  have l : (a.map D.int).length + (b.map D.int).length ≤ lim := by
    rw [List.length_map, List.length_map, ← List.length_append]; exact lim9 (by omega)
  show (if (a.map D.int).length + (b.map D.int).length ≤ lim then some (R.ok (D.tup (a.map D.int ++ b.map D.int)) g) else none) = _
  rw [if_pos l, ← List.map_append]; rfl
theorem fold_negs (l st : W) : l.reverse.foldl (fun st y => put1 st (-y)) st = (negs l).foldl put1 st := by
  unfold negs
  rw [List.foldl_map]
theorem law_turn {ds : List Int} {h : List O} {p : Int} (s : St ds h p) (z : D) (a3 a7 a8 a9 a10 a11 a12 a13 a14 a15 : Option D) : ∃ (P : List Row) (k : Nat) (h' : List O) (p' : Int) (b7 b8 b9 b10 b11 b12 b13 b15 : Option D), Vx P ∧ St ds h' p' ∧ h'[k]? = some (.tpl (P.map rwD)) ∧ k ≠ 3 ∧
    turn (cf 23) pC (.slot 3) bLaw z [some (.ref 0), some (.ref 1), some (.ref 3), a3, none, none, none, a7, a8, a9, a10, a11, a12, a13, a14, a15, none] h = some (.fl (.nx [some (.ref 0), some (.ref 1), some (.ref 3), some z, none, none, none, b7, b8, b9, b10, b11, b12, b13, some (.ref k), b15, none]) h') := by
  obtain ⟨l0, l1, l2, l3, l4⟩ := lims
  -- letters
  obtain ⟨c, cm, ec, s0⟩ := one_lst (C := pC) (n := 20) i1 i2 i3 s [.int 3, .int 10, .int 30] (by simp) (env := [some (.ref 0), some (.ref 1), some (.ref 3), some z, none, none, none, a7, a8, a9, a10, a11, a12, a13, a14, a15, none]) (es := .cons (.int 3) (.cons (.int 10) (.cons (.int 30) (.nil)))) (i := 1) (j := 2) rfl rfl rfl (by simp)
  obtain ⟨mo, rfl, m0, m9⟩ : ∃ m : Int, c = .int m ∧ 0 ≤ m ∧ m ≤ 30 := by
    simp only [List.mem_cons, List.not_mem_nil, or_false] at cm
    rcases cm with rfl | rfl | rfl <;> exact ⟨_, rfl, by decide, by decide⟩
  generalize ((h ++ [O.lst [.int 3, .int 10, .int 30]]).set 3 (.lst [.int (p + 1)])) = h0 at ec s0
  obtain ⟨f, h1, p1, lf, f30, s1, fr1, e1⟩ := letters_call (n := 19) s0 m0 m9
  obtain ⟨g, h2, p2, lg, g30, s2, fr2, e2⟩ := letters_call (n := 19) (most := 8) s1 (by decide) (by decide)
  obtain ⟨lfg, fg60⟩ := lt_app lf lg f30 g30
  have f60 : f.length ≤ 60 := by omega
  have g60 : g.length ≤ 60 := by omega
  -- one, other, both
  obtain ⟨A1, k1, t1, o1, x1, r1, q1, n1⟩ := rows_of s2 lf f60 (env := [some (.ref 0), some (.ref 1), some (.ref 3), some z, none, none, none, a7, a8, a9, some (kw f), some (kw g), a12, a13, a14, a15, none]) (e := .slot 10) (e_slot rfl)
  have s3 := st_app s2 t1
  obtain ⟨A2, k2, t2, o2, x2, r2, q2, n2⟩ := rows_of s3 lg g60 (env := [some (.ref 0), some (.ref 1), some (.ref 3), some z, none, none, none, a7, a8, a9, some (kw f), some (kw g), a12, a13, a14, a15, none]) (e := .slot 11) (e_slot rfl)
  have s4 := st_app s3 t2
  obtain ⟨A3, k3, t3, o3, x3, r3, q3, n3⟩ := rows_of s4 lfg fg60 (env := [some (.ref 0), some (.ref 1), some (.ref 3), some z, none, none, none, a7, a8, a9, some (kw f), some (kw g), some (.ref k1), some (.ref k2), a14, a15, none]) (e := .bin .Add (.slot 10) (.slot 11)) (e_bin (e_slot (d := kw f) rfl) (e_slot rfl) (add_words fg60 _))
  have s5 := st_app s4 t3
  obtain ⟨H, hH⟩ : ∃ H, H = h2 ++ t1 ++ t2 ++ t3 := ⟨_, rfl⟩
  have w1 : H[k1]? = some (.tpl ((rowsW A1).map rwD)) := by
    rw [hH, List.append_assoc, List.getElem?_append_left (List.getElem?_eq_some_iff.mp q1).1]; exact q1
  have w2 : H[k2]? = some (.tpl ((rowsW A2).map rwD)) := by
    rw [hH, List.getElem?_append_left (List.getElem?_eq_some_iff.mp q2).1]; exact q2
  have w3 : H[k3]? = some (.tpl ((rowsW A3).map rwD)) := by rw [hH]; exact q3
  rw [← hH] at s5 r3
  have v1 := vx_of o1 x1 f60
  have v2 := vx_of o2 x2 g60
  have same : ∀ {l : W} {a : A}, Lt l → Ok a → get0 a = X l → rowsW (expd l) = rowsW a := fun hl ha e => rows_ext (ok_exp hl).1 ha.1 (by rw [expd_get hl, e])
  have pr : rowsW (flt (mulA (rowsW A1) (rowsW A2))) = rowsW A3 := by
    rw [prod_val o1 o2]
    exact rows_ext (ok_mul o1 o2).1 o3.1 (by rw [get0_mul o1.1 o2.1, x1, x2, ← X_app, x3])
  have T0 := told0 (n := 18) (h := H) lf
  rw [same lf o1 x1] at T0
  have T2 := told2 (n := 18) (h := H) (u := .ref k2) w1 (.inl ⟨k2, rfl, w2⟩) v1 v2
  rw [pr] at T2
  have T3 := told0 (n := 18) (h := H) lfg
  rw [same lfg o3 x3] at T3
  have lw : (21 + 2) * 54003 + 21 ≤ lim := by decide
  have lw2 : (21 + 2) * 36002 + 21 ≤ lim := by decide
  have sa := same_call (n := 22) (h := H) (a := .tup [pl (rowsW A1), pl (rowsW A3), pl (rowsW A3)]) (b := .tup [.ref k1, .ref k3, .ref k3]) (fi3 (fi_p20 (sh_of o1 x1 f60)) (fi_p20 (sh_of o3 x3 fg60)) (fi_p20 (sh_of o3 x3 fg60))) (by decide) (by decide) lw (by simp [D.pureL, D.pure]) (pyD_p (by simp [D.pure, D.pureL, pl_pure])) (py_three w1 w3)
  -- back
  have lb : Lt (plainW (negs f)) := lt_plain (lt_negs lf)
  have T4 := told1 (n := 18) (h := H) lf
  have T5 := told0 (n := 18) (h := H) lb
  have xb : X (plainW (negs f)) = X (negs f) := X_plainW fun x hx => ((lt_negs lf).ne x hx).1
  have b60 : (plainW (negs f)).length ≤ 60 := by
    have := plain_len (negs f) []
    unfold negs at this
    simp only [List.length_nil, List.length_map, List.length_reverse] at this
    unfold plainW negs
    omega
  have vb : Vx (rowsW (expd (plainW (negs f)))) := vx_of (ok_exp lb) (expd_get lb) b60
  have T6 := told2 (n := 18) (h := H) (u := pl (rowsW (expd (plainW (negs f))))) w1 (.inr rfl) v1 vb
  have pu : rowsW (flt (mulA (rowsW A1) (rowsW (expd (plainW (negs f)))))) = [([], 1)] := by
    rw [prod_val o1 (ok_exp lb), ← rows_unit]
    exact rows_ext (ok_mul o1 (ok_exp lb)).1 unit_ok.1 (by rw [get0_mul o1.1 (ok_exp lb).1, x1, expd_get lb, xb, X_negs f fun x hx => (lf.ne x hx).1, unit_get])
  rw [pu] at T6
  have su : Sh 20 [(([] : W), (1 : Int))] := ⟨by simp, fun r hr => by
    simp only [List.mem_cons, List.not_mem_nil, or_false] at hr
    subst hr
    exact ⟨⟨by simp, fun _ h => nomatch h⟩, by decide⟩⟩
  have sb := same_pure (n := 22) (h := H) (a := .tup [kw (plainW (negs f)), pl [([], 1)]]) (fi2 (fi_word lb) (fi_p20 su)) (by decide) (by decide) lw2 (by simp [D.pure, D.pureL, pl_pure, kw_pure])
  -- some, more
  obtain ⟨P, kp, h6, p6, vP, s6, fr6, hk6, g6, e6⟩ := some_call (n := 19) s5
  obtain ⟨Q, kq, h7, p7, vQ, s7, fr7, hk7, g7, e7⟩ := some_call (n := 19) s6
  have kp3 : kp ≠ 3 := by have := s5.len; omega
  have g67 : h7[kp]? = some (.tpl (P.map rwD)) := fr_get fr7 g6 kp3
  have T7 := told2 (n := 18) (h := h7) (u := .ref kq) g67 (.inl ⟨kq, rfl, g7⟩) vP vQ
  have sP : Sm P := fun r hr => Nat.lt_of_le_of_lt (vP.bd r hr).2 (by decide)
  obtain ⟨e, H', eb, x9, rfl, hE⟩ := for_ind (src := []) (f := turn (cf 23) pC (.slot 9) bBk) (xs := f.reverse.map D.int)
    (fun i env g' => ∃ x9 : Option D, env = [some (.ref 0), some (.ref 1), some (.ref 3), some z, none, none, none, some (.ref k3), some (kw ((f.reverse.take i).foldl (fun st y => put1 st (-y)) [])), x9, some (kw f), some (kw g), some (.ref k1), some (.ref k2), a14, a15, none] ∧ g' = H) (fun _ _ _ _ => rfl) (by
      rintro i x env g' hx ⟨x9, rfl, rfl⟩
      rw [List.getElem?_map] at hx
      obtain ⟨y, hy, rfl⟩ := Option.map_eq_some_iff.mp hx
      have len : ((f.reverse.take i).foldl (fun st y => put1 st (-y)) []).length ≤ 10000 := by
        have h1 : ∀ (l st : W), (l.foldl (fun st y => put1 st (-y)) st).length ≤ st.length + l.length := by
          intro l
          induction l with
          | nil => intro st; exact Nat.le_refl _
          | cons a l ih =>
            intro st
            have h1 := ih (put1 st (-a))
            have h2 := put1_len st (-a)
            rw [List.foldl_cons, List.length_cons]; omega
        have := h1 (f.reverse.take i) []
        have h2 : (f.reverse.take i).length ≤ f.length := by rw [List.length_take, List.length_reverse]; omega
        simp only [List.length_nil] at this
        omega
      refine ⟨_, _, back_turn (call := cf 23) (env := [some (.ref 0), some (.ref 1), some (.ref 3), some z, none, none, none, some (.ref k3), some (kw ((f.reverse.take i).foldl (fun st y => put1 st (-y)) [])), x9, some (kw f), some (kw g), some (.ref k1), some (.ref k2), a14, a15, none]) (show 9 < 17 by decide) _ y len rfl, some (.int y), ?_, rfl⟩
      rw [List.take_add_one, hy, List.foldl_append]
      rfl) (env := [some (.ref 0), some (.ref 1), some (.ref 3), some z, none, none, none, some (.ref k3), some (kw ([])), a9, some (kw f), some (kw g), some (.ref k1), some (.ref k2), a14, a15, none]) (h := H) ⟨a9, rfl, rfl⟩
  rw [List.length_map, List.take_length, fold_negs, hE] at eb
  rw [show (negs f).foldl put1 [] = plainW (negs f) from rfl] at eb
  have d1 := dict_ev (call := cf 23) (env := [some (.ref 0), some (.ref 1), some (.ref 3), some z, none, none, none, some (.ref k3), some (kw (plainW (negs f))), x9, some (kw f), some (kw g), some (.ref k1), some (.ref k2), some (.ref kp), some (.ref kq), none]) (i := 14) rfl g67 vP
  have d2 := dict_ev (call := cf 23) (env := [some (.ref 0), some (.ref 1), some (.ref 3), some z, none, none, none, some (.ref k3), some (kw (plainW (negs f))), x9, some (kw f), some (kw g), some (.ref k1), some (.ref k2), some (.ref kp), some (.ref kq), none]) (h := h7 ++ [dct P]) (i := 15) rfl (by rw [List.getElem?_append_left (List.getElem?_eq_some_iff.mp g7).1]; exact g7) vQ
  have y1 : (h7 ++ [dct P] ++ [dct Q])[h7.length]? = some (dct P) := by
    rw [List.append_assoc, List.getElem?_append_right (Nat.le_refl _), Nat.sub_self]; rfl
  have y2 : (h7 ++ [dct P] ++ [dct Q])[(h7 ++ [dct P]).length]? = some (dct Q) := get_end
  obtain ⟨km, h8, em, gm, t8, rfl⟩ := times_call (n := 22) y1 y2 (by rw [List.length_append]; simp) vP.ok vQ.ok sP
  have om := ok_mul vP.ok vQ.ok
  obtain ⟨t9, kr, er, hkr, gr⟩ := law_rows_call (n := 22) gm om
  obtain ⟨G, hG⟩ : ∃ G, G = h7 ++ [dct P] ++ [dct Q] ++ t8 ++ t9 := ⟨_, rfl⟩
  rw [← hG] at er gr
  have pm : rowsW (flt (mulA P Q)) = rowsW (mulA P Q) := rows_ext (ok_flt om).1 om.1 (get0_flt _ om.1)
  rw [pm] at T7
  have sh : Sh 100 (rowsW (mulA P Q)) := sh_rows om fun w => by
    rw [get0_mul vP.ok.1 vQ.ok.1]
    exact conv_bd (vx_bd vP) (vx_bd vQ) w
  have sG : St ds G p7 := by
    rw [hG]
    exact st_app (st_app (st_app (st_app s7 _) _) _) _
  have lw3 : (101 + 2) * (400 * (2 * (100 + 2) + 1)) + 101 ≤ lim := by decide
  have sc := same_call (n := 22) (h := G) (a := pl (rowsW (mulA P Q))) (b := .ref kr) (d := pl (rowsW (mulA P Q))) (fi_pl sh (by decide) (by decide)) (by decide) (by decide) lw3 (by simp [D.pureL, D.pure, pl_pure]) (pyD_p (pl_pure _)) (py_ref gr)
  refine ⟨P, kp, G, p7, some (.ref k3), some (kw (plainW (negs f))), x9, some (kw f), some (kw g), some (.ref k1), some (.ref k2), some (.ref kq), vP, sG, ?_, kp3, ?_⟩
  · rw [hG]
    have l := (List.getElem?_eq_some_iff.mp g67).1
    rw [List.append_assoc, List.append_assoc, List.append_assoc, List.getElem?_append_left l]; exact g67
  show exec (cf 23) pC bLaw [some (.ref 0), some (.ref 1), some (.ref 3), some z, none, none, none, a7, a8, a9, a10, a11, a12, a13, a14, a15, none] h = _
  unfold bLaw
  rw [seq_nx (e := [some (.ref 0), some (.ref 1), some (.ref 3), some z, none, none, none, a7, a8, a9, some (kw f), some (kw g), a12, a13, a14, a15, none]) (h' := h2) (by
    show bns (evs (cf 23) _ _ _) _ _ = _
    rw [s_two (e_call (s_cons ec (s_two (e_slot rfl) (e_slot rfl))) e1) (e_call (s_cons (x := .int 8) rfl (s_two (e_slot rfl) (e_slot rfl))) e2), bns_ok]; rfl)]
  rw [seq_nx (e := [some (.ref 0), some (.ref 1), some (.ref 3), some z, none, none, none, a7, a8, a9, some (kw f), some (kw g), some (.ref k1), some (.ref k2), a14, a15, none]) (h' := h2 ++ t1 ++ t2) (by
    show bns (evs (cf 23) _ _ _) _ _ = _
    rw [s_two r1 r2, bns_ok]; rfl)]
  rw [seq_nx (e := [some (.ref 0), some (.ref 1), some (.ref 3), some z, none, none, none, some (.ref k3), a8, a9, some (kw f), some (kw g), some (.ref k1), some (.ref k2), a14, a15, none]) (h' := H) (asg_ok r3 (show 7 < 17 by decide))]
  have A : ev (cf 23) (.call 3 (.cons (.tup (.cons (.call 1 (.cons (.int 0) (.cons (.slot 10) (.cons (.non) (.nil)))) []) (.cons (.call 1 (.cons (.int 2) (.cons (.slot 12) (.cons (.slot 13) (.nil)))) []) (.cons (.call 1 (.cons (.int 0) (.cons (.bin .Add (.slot 10) (.slot 11)) (.cons (.non) (.nil)))) []) (.nil))))) (.cons (.tup (.cons (.slot 12) (.cons (.slot 7) (.cons (.slot 7) (.nil))))) (.nil))) []) [some (.ref 0), some (.ref 1), some (.ref 3), some z, none, none, none, some (.ref k3), a8, a9, some (kw f), some (kw g), some (.ref k1), some (.ref k2), a14, a15, none] H = some (.ok (.bl true) H) :=
    e_call (s_two (e_tup (s_cons (e_call (s_cons (x := .int 0) rfl (s_two (e_slot rfl) (y := .non) rfl)) T0) (s_two (e_call (s_cons (x := .int 2) rfl (s_two (e_slot rfl) (e_slot rfl))) T2) (e_call (s_cons (x := .int 0) rfl (s_two (e_bin (e_slot (d := kw f) rfl) (e_slot rfl) (add_words fg60 _)) (y := .non) rfl)) T3))) l3) (e_tup (s_cons (e_slot rfl) (s_two (e_slot rfl) (e_slot rfl))) l3)) sa
  rw [seq_nx (e := [some (.ref 0), some (.ref 1), some (.ref 3), some z, none, none, none, some (.ref k3), a8, a9, some (kw f), some (kw g), some (.ref k1), some (.ref k2), a14, a15, none]) (h' := H) (by rw [ite_f (t_nt (b := true) (t_bl A))]; rfl)]
  rw [seq_nx (e := [some (.ref 0), some (.ref 1), some (.ref 3), some z, none, none, none, some (.ref k3), some (kw ([])), a9, some (kw f), some (kw g), some (.ref k1), some (.ref k2), a14, a15, none]) (h' := H) (asg_ok (e_tup (call := cf 23) (vs := []) s_nil l0) (show 8 < 17 by decide))]
  rw [seq_nx (e := [some (.ref 0), some (.ref 1), some (.ref 3), some z, none, none, none, some (.ref k3), some (kw (plainW (negs f))), x9, some (kw f), some (kw g), some (.ref k1), some (.ref k2), a14, a15, none]) (h' := H) (by
    have it : evi (cf 23) (.itr (.rev (.slot 10))) [some (.ref 0), some (.ref 1), some (.ref 3), some z, none, none, none, some (.ref k3), some (kw ([])), a9, some (kw f), some (kw g), some (.ref k1), some (.ref k2), a14, a15, none] H = some (.ok (f.reverse.map D.int, []) H) := by
      rw [evi, ev, e_slot (d := kw f) rfl, bnd_ok]
      show bnd (some (R.ok (D.tup (f.map D.int).reverse) H)) _ = _
      rw [bnd_ok, ← List.map_reverse]; rfl
    rw [for_is it]; exact eb)]
  have B : ev (cf 23) (.call 3 (.cons (.tup (.cons (.call 1 (.cons (.int 1) (.cons (.slot 10) (.cons (.non) (.nil)))) []) (.cons (.call 1 (.cons (.int 2) (.cons (.slot 12) (.cons (.call 1 (.cons (.int 0) (.cons (.slot 8) (.cons (.non) (.nil)))) []) (.nil)))) []) (.nil)))) (.cons (.tup (.cons (.slot 8) (.cons (.tup (.cons (.tup (.cons (.tup (.nil)) (.cons (.int 1) (.nil)))) (.nil))) (.nil)))) (.nil))) []) [some (.ref 0), some (.ref 1), some (.ref 3), some z, none, none, none, some (.ref k3), some (kw (plainW (negs f))), x9, some (kw f), some (kw g), some (.ref k1), some (.ref k2), a14, a15, none] H = some (.ok (.bl true) H) :=
    e_call (s_two (e_tup (s_two (e_call (s_cons (x := .int 1) rfl (s_two (e_slot rfl) (y := .non) rfl)) T4) (e_call (s_cons (x := .int 2) rfl (s_two (e_slot rfl) (e_call (s_cons (x := .int 0) rfl (s_two (e_slot rfl) (y := .non) rfl)) T5))) T6)) l2) (e_tup (s_two (e_slot rfl) (e_tup (s_one (e_tup (s_two (e_tup (vs := []) s_nil l0) (y := .int 1) rfl) l2)) l1)) l2)) sb
  rw [seq_nx (e := [some (.ref 0), some (.ref 1), some (.ref 3), some z, none, none, none, some (.ref k3), some (kw (plainW (negs f))), x9, some (kw f), some (kw g), some (.ref k1), some (.ref k2), a14, a15, none]) (h' := H) (by rw [ite_f (t_nt (b := true) (t_bl B))]; rfl)]
  rw [seq_nx (e := [some (.ref 0), some (.ref 1), some (.ref 3), some z, none, none, none, some (.ref k3), some (kw (plainW (negs f))), x9, some (kw f), some (kw g), some (.ref k1), some (.ref k2), some (.ref kp), some (.ref kq), none]) (h' := h7) (by
    show bns (evs (cf 23) _ _ _) _ _ = _
    rw [s_two (e_call (s_two (e_slot rfl) (e_slot rfl)) e6) (e_call (s_two (e_slot rfl) (e_slot rfl)) e7), bns_ok]; rfl)]
  have C : ev (cf 23) (.call 3 (.cons (.call 1 (.cons (.int 2) (.cons (.slot 14) (.cons (.slot 15) (.nil)))) []) (.cons (.call 4 (.cons (.call 5 (.cons (.bi .dict (.cons (.slot 14) (.nil))) (.cons (.bi .dict (.cons (.slot 15) (.nil))) (.nil))) []) (.nil)) []) (.nil))) []) [some (.ref 0), some (.ref 1), some (.ref 3), some z, none, none, none, some (.ref k3), some (kw (plainW (negs f))), x9, some (kw f), some (kw g), some (.ref k1), some (.ref k2), some (.ref kp), some (.ref kq), none] h7 = some (.ok (.bl true) G) :=
    e_call (s_two (e_call (s_cons (x := .int 2) rfl (s_two (e_slot rfl) (e_slot rfl))) T7) (e_call (s_one (e_call (s_two d1 d2) em)) er)) sc
  rw [seq_nx (e := [some (.ref 0), some (.ref 1), some (.ref 3), some z, none, none, none, some (.ref k3), some (kw (plainW (negs f))), x9, some (kw f), some (kw g), some (.ref k1), some (.ref k2), some (.ref kp), some (.ref kq), none]) (h' := G) (by rw [ite_f (t_nt (b := true) (t_bl C))]; rfl)]
  rfl
end Lk69
end

section
/-! k69: wrong arguments, the law (own work). -/
namespace Lk69
open Mini
def bigT : D := .tup (List.replicate 2001 [D.int 1]).flatten
def bads : List D := [.non, .int 5, .tup [.int 0], .tup [.int 8], .tup [.int (-8)], .tup [.bl true], .tup [.str "1"], .tup [.non], bigT]
def part1 : List D := [.non, .int 5, .tup [.tup []], .tup [.tup [.tup [], .int 0]], .tup [.tup [.tup [], .int 1000000000001]], .tup [.tup [.tup [], .bl true]], .tup [.tup [.tup [.int 1, .int 2, .int 3, .int 4], .int 1]], .tup [.tup [.tup [.int 0], .int 1]]]
def part2 : List D := [.tup [.tup [.tup [.int 8], .int 1]], .tup [.tup [.non, .int 1]], .tup [.tup [.tup [.int 1], .int 1], .tup [.tup [], .int 1]], .tup [.tup [.tup [.int 1], .int 1], .tup [.tup [.int 1], .int 2]], .tup [.tup [.tup [.int 2], .int 1], .tup [.tup [.int 1], .int 1]], .tup [.tup [.tup [.int 1], .int 1, .int 1]]]
def odds : List D := part1 ++ part2
def arg (s : PySem.Str) : D := .tup [.str "argument", .str s]
theorem finB : (bads.all fun d => d.pure && chkR (runB (cf 22) pC ⟨3, 4, p__law_told⟩ [.int 0, d, .non] []) (arg "letters") [] && chkR (runB (cf 22) pC ⟨3, 4, p__law_told⟩ [.int 1, d, .non] []) (arg "letters") []) = true := by decide +kernel
def isF (r : Option (R D)) : Bool := match r with
  | some (.ok (.bl false) _) => true
  | _ => false
def isA (r : Option (R D)) (d : D) : Bool := match r with
  | some (.ok x _) => x.beq d
  | _ => false
theorem finO : (odds.all fun d => d.pure && isF (runB (cf 20) pC ⟨1, 8, p_is_expansion⟩ [d] []) && isA (runB (cf 22) pC ⟨3, 4, p__law_told⟩ [.int 2, d, d] []) (arg "first")) = true := by decide +kernel
theorem bad_told {d : D} (h : d ∈ bads) (w : Int) (hw : w = 0 ∨ w = 1) {g : List O} : cf 23 1 [.int w, d, .non] g = some (.ok (arg "letters") g) := by
  have := List.all_eq_true.mp finB d h
  simp only [Bool.and_eq_true] at this
  have hp : D.pureL [.int w, d, .non] = true := by simp [D.pureL, int_pure, this.1.1, D.pure]
  rcases hw with rfl | rfl
  · exact pcall (n := 22) (fn := ⟨3, 4, p__law_told⟩) rfl rfl hp (chkR_ok this.1.2) rfl
  · exact pcall (n := 22) (fn := ⟨3, 4, p__law_told⟩) rfl rfl hp (chkR_ok this.2) rfl
theorem odd_pure {d : D} (h : d ∈ odds) : d.pure = true := by
  have := List.all_eq_true.mp finO d h
  simp only [Bool.and_eq_true] at this
  exact this.1.1
theorem odd_is {d : D} (h : d ∈ odds) {g : List O} : cf 21 21 [d] g = some (.ok (.bl false) g) := by
  have := List.all_eq_true.mp finO d h
  simp only [Bool.and_eq_true] at this
  have e := this.1.2
  unfold isF at e
  split at e
  · rename_i g' q
    exact pcall (n := 20) (fn := ⟨1, 8, p_is_expansion⟩) rfl rfl (by simp [D.pureL, this.1.1]) q rfl
  · cases e
theorem odd_told {d : D} (h : d ∈ odds) {g : List O} : cf 23 1 [.int 2, d, d] g = some (.ok (arg "first") g) := by
  have := List.all_eq_true.mp finO d h
  simp only [Bool.and_eq_true] at this
  have e := this.2
  unfold isA at e
  split at e
  · rename_i x g' q
    have := D.beq_eq _ _ e
    subst this
    exact pcall (n := 22) (fn := ⟨3, 4, p__law_told⟩) rfl rfl (by simp [D.pureL, int_pure, odd_pure h]) q rfl
  · cases e
theorem second_told {d : D} (h : d ∈ odds) {g : List O} {k : Nat} {p : List Row} (hk : g[k]? = some (.tpl (p.map rwD))) (vx : Vx p) : cf 23 1 [.int 2, .ref k, d] g = some (.ok (arg "second") g) := by
  have c1 := is_call (n := 18) (h := g) (.inl ⟨k, rfl, hk⟩) vx
  have c2 := odd_is h (g := g)
  have pe : cf 22 12 [.ref k, d] g = some (.exc 2 [.str "second"] g) := by
    have cr : canR pC 2 = true := rfl
    have okf : okFl pC 2 [.str "second"] = true := rfl
    have run : exec (cf 21) pC p_expansion_product [some (.ref k), some d, none, none, none] g = some (.exc 2 [.str "second"] [some (.ref k), some d, none, none, none] g) := by
      unfold p_expansion_product
      rw [seq_nx (e := [some (.ref k), some d, none, none, none]) (h' := g) (by rw [ite_f (t_nt (b := true) (t_bl (e_call (s_one (e_slot rfl)) c1)))]; rfl)]
      refine seq_exc ?_
      rw [ite_t (t_nt (b := false) (t_bl (e_call (s_one (e_slot rfl)) c2)))]
      refine seq_exc ?_
      show (if canR pC 2 then bns (evs (cf 21) _ _ _) _ _ else none) = _
      rw [cr, if_pos rfl, s_one (x := .str "second") rfl, bns_ok, okf, if_pos rfl]
    have r2 : runB (cf 21) pC ⟨2, 5, p_expansion_product⟩ [.ref k, d] g = some (.exc 2 [.str "second"] g) := ret_exc run
    show callF pPF pC (21 + 1) 12 [.ref k, d] g = _
    rw [callF]
    show (if [D.ref k, d].length = 2 then _ else none) = _
    rw [if_pos (show [D.ref k, d].length = 2 from rfl), show D.pureL [D.ref k, d] = false from by simp [D.pureL, D.pure], if_neg (by decide), r2]
  have l2 : (2 : Nat) ≤ lim := by decide
  have bo : exec (cf 22) pC bTo [some (.int 2), some (.ref k), some d, none] g = some (.exc 2 [.str "second"] [some (.int 2), some (.ref k), some d, none] g) := by
    refine seq_exc ?_
    show bns (ev (cf 22) _ _ _) _ _ = _
    rw [e_ifx_f (h1 := g) (t_bl (b := false) (e_cmp0 (e_slot (d := .int 2) rfl) (y := .int 0) rfl (cmp_eqi _ _ _))), e_ifx_f (h1 := g) (t_bl (b := false) (e_cmp0 (e_slot (d := .int 2) rfl) (y := .int 1) rfl (cmp_eqi _ _ _))), e_call (s_two (e_slot rfl) (e_slot rfl)) pe]; rfl
  refine hcall (n := 22) (fn := ⟨3, 4, p__law_told⟩) (t := []) rfl rfl (by simp [D.pureL, D.pure]) (ret_ret ?_) rfl
  show exec (cf 22) pC (.seq (.try bTo hTo) .nil) [some (.int 2), some (.ref k), some d, none] g = _
  rw [List.append_nil]
  refine seq_rt ?_
  show (match exec (cf 22) pC bTo [some (.int 2), some (.ref k), some d, none] g with
    | some (.exc c fs env' h') => handle pC c fs env' h' hTo
    | r => r) = _
  rw [bo]
  have a1 : isAnc pC 2 2 = true := rfl
  have f1 : fldOf pC 2 [.str "second"] "reason" = some (.str "second") := rfl
  simp [hTo, handle, evX, evX.evXs, a1, f1, l2, arg]
end Lk69
end

section
/-! k69: the law (own work). -/
namespace Lk69
open Mini
theorem sh2 : (PySem.SeqAt.shaped (.list (pyPL [arg "letters", arg "letters"])) && PySem.PyData.eqv (.list (pyPL [arg "letters", arg "letters"])) (.list (pyPL [arg "letters", arg "letters"]))) = true := by decide +kernel
theorem eq_arg (s : PySem.Str) (h : s = "first" ∨ s = "second") (g : List O) : cmpD .Eq (arg s) (arg s) g = some true := by
  have : PySem.SeqAt.shaped (pyP (arg s)) = true := by rcases h with rfl | rfl <;> decide +kernel
  exact cmp_eq.trans (eqD_self rfl this)
theorem law_true (ns : List Int) (hl : ns.length ≤ 63) : ∃ h', callF pPF pC 24 0 [.ref 0] [.ro (ns.map D.int)] = some (.ok (.bl true) h') := by
  obtain ⟨ds, ed⟩ := draws_call (PF := pPF) (C := pC) (o := 9) (n := 22) rfl ns hl
  have l1 : (1 : Nat) ≤ lim := by decide
  have l2 : (2 : Nat) ≤ lim := by decide
  have l3 : (3 : Nat) ≤ lim := by decide
  have l4 : (4 : Nat) ≤ lim := by decide
  have l0 : (0 : Nat) ≤ lim := by decide
  have l6 : (6 : Nat) ≤ lim := by decide
  have l8 : (8 : Nat) ≤ lim := by decide
  have l9 : (9 : Nat) ≤ lim := by decide
  have s0 : St ds [.ro (ns.map D.int), .lst (ds.map .int), .lst (ns.map .int), .lst [.int 0]] 0 := ⟨rfl, rfl, by decide⟩
  obtain ⟨e, h, e1, p, a3, a7, a8, a9, a10, a11, a12, a13, a14, a15, rfl, s, hp⟩ := for_ind (src := []) (f := turn (cf 23) pC (.slot 3) bLaw) (xs := (List.range 3).map fun k : Nat => D.int (0 + (k : Int)))
    (fun i env h => ∃ (p : Int) (a3 a7 a8 a9 a10 a11 a12 a13 a14 a15 : Option D), env = [some (.ref 0), some (.ref 1), some (.ref 3), a3, none, none, none, a7, a8, a9, a10, a11, a12, a13, a14, a15, none] ∧ St ds h p ∧ (0 < i → ∃ (P : List Row) (k : Nat), Vx P ∧ k ≠ 3 ∧ h[k]? = some (.tpl (P.map rwD)) ∧ a14 = some (.ref k))) (fun _ _ _ _ => rfl) (by
      rintro i x env h hx ⟨p, a3, a7, a8, a9, a10, a11, a12, a13, a14, a15, rfl, s, hp⟩
      obtain ⟨P, k, h', p', b7, b8, b9, b10, b11, b12, b13, b15, vP, s', gk, k3, e⟩ := law_turn s x a3 a7 a8 a9 a10 a11 a12 a13 a14 a15
      exact ⟨_, h', e, p', some x, b7, b8, b9, b10, b11, b12, b13, some (.ref k), b15, rfl, s', fun _ => ⟨P, k, vP, k3, gk, rfl⟩⟩)
    (env := [some (.ref 0), some (.ref 1), some (.ref 3), none, none, none, none, none, none, none, none, none, none, none, none, none, none]) (h := [.ro (ns.map D.int), .lst (ds.map .int), .lst (ns.map .int), .lst [.int 0]]) ⟨0, none, none, none, none, none, none, none, none, none, none, rfl, s0, fun h => absurd h (by decide)⟩
  obtain ⟨P, k, vP, k3, gk, rfl⟩ := hp (by rw [List.length_map, List.length_range]; decide)
  -- bad
  have he : evs (cf 23) (.cons (.non) (.cons (.int 5) (.cons (.tup (.cons (.int 0) (.nil))) (.cons (.tup (.cons (.int 8) (.nil))) (.cons (.tup (.cons (.neg (.int 8)) (.nil))) (.cons (.tup (.cons (.bl true) (.nil))) (.cons (.tup (.cons (.str "1") (.nil))) (.cons (.tup (.cons (.non) (.nil))) (.cons (.bin .Mult (.tup (.cons (.int 1) (.nil))) (.bin .Add (.con (.int (2000)) "MAX_LETTERS") (.int 1))) (.nil)))))))))) [some (.ref 0), some (.ref 1), some (.ref 3), a3, none, none, none, a7, a8, a9, a10, a11, a12, a13, some (.ref k), a15, none] h = some (.ok bads h) := by
    have mu : binD .Mult (.tup [.int 1]) (.int 2001) h = some (.ok bigT h) := by
      show (if ([D.int 1].length * (2001 : Int).toNat ≤ 1000000 && decide (2 ≤ (2001 : Int)) && decide (0 < [D.int 1].length)) then some (R.ok bigT h) else none) = _
      rw [if_pos (by decide)]
    have ml : ev (cf 23) (.bin .Mult (.tup (.cons (.int 1) (.nil))) (.bin .Add (.con (.int (2000)) "MAX_LETTERS") (.int 1))) [some (.ref 0), some (.ref 1), some (.ref 3), a3, none, none, none, a7, a8, a9, a10, a11, a12, a13, some (.ref k), a15, none] h = some (.ok bigT h) :=
      e_bin (h1 := h) (h2 := h) (d1 := .tup [.int 1]) (d2 := .int 2001) (e_tup (s_one (x := .int 1) rfl) l1) rfl mu
    exact s_cons (x := .non) (h1 := h) rfl (s_cons (x := .int 5) (h1 := h) rfl (s_cons (e_tup (s_one (x := .int 0) rfl) l1) (s_cons (e_tup (s_one (x := .int 8) rfl) l1) (s_cons (e_tup (s_one (x := .neg (.int 8)) rfl) l1) (s_cons (e_tup (s_one (x := .bl true) rfl) l1) (s_cons (e_tup (s_one (x := .str "1") rfl) l1) (s_cons (e_tup (s_one (x := .non) rfl) l1) (s_one ml))))))))
  obtain ⟨d, dm, ed4, s4⟩ := one_lst (C := pC) (n := 20) i1 i2 i3 s bads (by decide) (i := 1) (j := 2) rfl rfl he (by decide)
  have g4 : ((h ++ [O.lst bads]).set 3 (.lst [.int (p + 1)]))[k]? = some (.tpl (P.map rwD)) := fr_get (fr_trans (fr_app _ _) (fr_set _ _)) gk k3
  generalize ((h ++ [O.lst bads]).set 3 (.lst [.int (p + 1)])) = h4 at ed4 s4 g4
  -- odd
  have s5 := st_app s4 [O.lst part1]
  have ad : ∀ env : Env, env[5]? = some (some (.ref h4.length)) → ev (cf 23) (.bin .Add (.slot 5) (.lst (.cons (.tup (.cons (.tup (.cons (.tup (.cons (.int 8) (.nil))) (.cons (.int 1) (.nil)))) (.nil))) (.cons (.tup (.cons (.tup (.cons (.non) (.cons (.int 1) (.nil)))) (.nil))) (.cons (.tup (.cons (.tup (.cons (.tup (.cons (.int 1) (.nil))) (.cons (.int 1) (.nil)))) (.cons (.tup (.cons (.tup (.nil)) (.cons (.int 1) (.nil)))) (.nil)))) (.cons (.tup (.cons (.tup (.cons (.tup (.cons (.int 1) (.nil))) (.cons (.int 1) (.nil)))) (.cons (.tup (.cons (.tup (.cons (.int 1) (.nil))) (.cons (.int 2) (.nil)))) (.nil)))) (.cons (.tup (.cons (.tup (.cons (.tup (.cons (.int 2) (.nil))) (.cons (.int 1) (.nil)))) (.cons (.tup (.cons (.tup (.cons (.int 1) (.nil))) (.cons (.int 1) (.nil)))) (.nil)))) (.cons (.tup (.cons (.tup (.cons (.tup (.cons (.int 1) (.nil))) (.cons (.int 1) (.cons (.int 1) (.nil))))) (.nil))) (.nil))))))))) env (h4 ++ [O.lst part1]) = some (.ok (.ref (h4.length + 2)) (h4 ++ [O.lst part1, O.lst part2, O.lst odds])) := by
    intro env e5
    have lv : ev (cf 23) (.lst (.cons (.tup (.cons (.tup (.cons (.tup (.cons (.int 8) (.nil))) (.cons (.int 1) (.nil)))) (.nil))) (.cons (.tup (.cons (.tup (.cons (.non) (.cons (.int 1) (.nil)))) (.nil))) (.cons (.tup (.cons (.tup (.cons (.tup (.cons (.int 1) (.nil))) (.cons (.int 1) (.nil)))) (.cons (.tup (.cons (.tup (.nil)) (.cons (.int 1) (.nil)))) (.nil)))) (.cons (.tup (.cons (.tup (.cons (.tup (.cons (.int 1) (.nil))) (.cons (.int 1) (.nil)))) (.cons (.tup (.cons (.tup (.cons (.int 1) (.nil))) (.cons (.int 2) (.nil)))) (.nil)))) (.cons (.tup (.cons (.tup (.cons (.tup (.cons (.int 2) (.nil))) (.cons (.int 1) (.nil)))) (.cons (.tup (.cons (.tup (.cons (.int 1) (.nil))) (.cons (.int 1) (.nil)))) (.nil)))) (.cons (.tup (.cons (.tup (.cons (.tup (.cons (.int 1) (.nil))) (.cons (.int 1) (.cons (.int 1) (.nil))))) (.nil))) (.nil)))))))) env (h4 ++ [O.lst part1]) = some (.ok (.ref (h4.length + 1)) (h4 ++ [O.lst part1, O.lst part2])) := by
      simp [ev, evs, l0, l1, l2, l3, l6, Mini.alloc, part2]
    refine e_bin (e_slot e5) lv ?_
    have j1 : isLst (h4 ++ [O.lst part1, O.lst part2]) h4.length = some part1 := by
      unfold isLst
      rw [List.getElem?_append_right (Nat.le_refl _), Nat.sub_self]; rfl
    have j2 : isLst (h4 ++ [O.lst part1, O.lst part2]) (h4.length + 1) = some part2 := by
      unfold isLst
      rw [List.getElem?_append_right (by omega), Nat.add_sub_cancel_left]; rfl
    show addD (.ref h4.length) (.ref (h4.length + 1)) _ = _
    unfold addD
    dsimp only
    rw [j1, j2]
    dsimp only
    rw [if_pos (show part1.length + part2.length ≤ lim from (show 14 ≤ lim by decide))]
    unfold Mini.alloc
    rw [List.length_append, List.append_assoc]
    rfl
  have sb3 : St ds (h4 ++ [O.lst part1, O.lst part2, O.lst odds]) (p + 1) := st_app s4 _
  have rb : rdLst (h4 ++ [O.lst part1, O.lst part2, O.lst odds]) (h4.length + 2) = some odds := by
    unfold rdLst
    rw [List.getElem?_append_right (by omega), Nat.add_sub_cancel_left]; rfl
  have ll := s4.len
  obtain ⟨o, om, ed5, s6⟩ := one_x (C := pC) (n := 20) i1 i2 i3 sb3 (by decide) (env := [some (.ref 0), some (.ref 1), some (.ref 3), a3, some d, some (.ref h4.length), none, a7, a8, a9, a10, a11, a12, a13, some (.ref k), a15, none]) (i := 1) (j := 2) rfl rfl (ad _ rfl) rb (by omega)
  have g6 : ((h4 ++ [O.lst part1, O.lst part2, O.lst odds]).set 3 (.lst [.int (p + 1 + 1)]))[k]? = some (.tpl (P.map rwD)) := fr_get (fr_trans (fr_app _ _) (fr_set _ _)) g4 k3
  generalize ((h4 ++ [O.lst part1, O.lst part2, O.lst odds]).set 3 (.lst [.int (p + 1 + 1)])) = g at ed5 s6 g6
  obtain ⟨EN, hEN⟩ : ∃ EN : Env, EN = [some (.ref 0), some (.ref 1), some (.ref 3), a3, some d, some (.ref h4.length), some o, a7, a8, a9, a10, a11, a12, a13, some (.ref k), a15, none] := ⟨_, rfl⟩
  have E1 := odd_told om (g := g)
  have E2 := second_told om g6 vP
  have fin : ev (cf 23) (.and (.cmp .Eq (.call 1 (.cons (.int 2) (.cons (.slot 6) (.cons (.slot 6) (.nil)))) []) (.tup (.cons (.str "argument") (.cons (.str "first") (.nil))))) (.cmp .Eq (.call 1 (.cons (.int 2) (.cons (.slot 14) (.cons (.slot 6) (.nil)))) []) (.tup (.cons (.str "argument") (.cons (.str "second") (.nil)))))) EN g = some (.ok (.bl true) g) := by
    rw [hEN]
    show bnd (ev (cf 23) (.cmp .Eq (.call 1 (.cons (.int 2) (.cons (.slot 6) (.cons (.slot 6) (.nil)))) []) (.tup (.cons (.str "argument") (.cons (.str "first") (.nil))))) _ _) _ = _
    rw [e_cmp0 (e_call (s_cons (x := .int 2) rfl (s_two (e_slot rfl) (e_slot rfl))) E1) (e_tup (s_two (x := .str "argument") rfl (y := .str "first") rfl) l2) (eq_arg _ (.inl rfl) g), bnd_ok]
    exact e_cmp0 (e_call (s_cons (x := .int 2) rfl (s_two (e_slot rfl) (e_slot rfl))) E2) (e_tup (s_two (x := .str "argument") rfl (y := .str "second") rfl) l2) (eq_arg _ (.inr rfl) g)
  have lc : ev (cf 23) (.lc [16] (.slot 16) (.rng (.cons (.int 2) (.nil))) (.omit) (.call 1 (.cons (.slot 16) (.cons (.slot 4) (.cons (.non) (.nil)))) [])) EN g = some (.ok (.ref g.length) (g ++ [O.lst [arg "letters", arg "letters"]])) := by
    rw [hEN]
    have st : ∀ w : Int, (w = 0 ∨ w = 1) → lcT (cf 23) [16] (.slot 16) .omit (.call 1 (.cons (.slot 16) (.cons (.slot 4) (.cons (.non) (.nil)))) []) [some (.ref 0), some (.ref 1), some (.ref 3), a3, some d, some (.ref h4.length), some o, a7, a8, a9, a10, a11, a12, a13, some (.ref k), a15, none] (.int w) g = some (.ok (some (arg "letters")) g) := fun w hw => by
      have e0 : lcT (cf 23) [16] (.slot 16) .omit (.call 1 (.cons (.slot 16) (.cons (.slot 4) (.cons (.non) (.nil)))) []) [some (.ref 0), some (.ref 1), some (.ref 3), a3, some d, some (.ref h4.length), some o, a7, a8, a9, a10, a11, a12, a13, some (.ref k), a15, none] (.int w) g = bnd (ev (cf 23) (.call 1 (.cons (.slot 16) (.cons (.slot 4) (.cons (.non) (.nil)))) []) [some (.ref 0), some (.ref 1), some (.ref 3), a3, some d, some (.ref h4.length), some o, a7, a8, a9, a10, a11, a12, a13, some (.ref k), a15, some (.int w)] g) (fun y h3 => some (.ok (some y) h3)) := rfl
      rw [e0, e_call (s_cons (e_slot rfl) (s_two (e_slot rfl) (y := .non) rfl)) (bad_told dm w hw), bnd_ok]
    refine lc_is (p := ([.int (0 + ((0 : Nat) : Int)), .int (0 + ((1 : Nat) : Int))], [])) (h1 := g) (h2 := g) rfl ?_
    show lcGo [] _ [D.int 0, D.int 1] [] g = _
    rw [lc_some rfl (st 0 (.inl rfl)) (small_lim (by simp)), lc_some rfl (st 1 (.inr rfl)) (small_lim (by simp)), lc_nil rfl]
    rfl
  have cmp1 : evt (cf 23) (.tru (.cmp .NotEq (.lc [16] (.slot 16) (.rng (.cons (.int 2) (.nil))) (.omit) (.call 1 (.cons (.slot 16) (.cons (.slot 4) (.cons (.non) (.nil)))) [])) (.bin .Mult (.lst (.cons (.tup (.cons (.str "argument") (.cons (.str "letters") (.nil)))) (.nil))) (.int 2)))) EN g = some (.ok false g) := by
    have f1 : ev (cf 23) (.lst (.cons (.tup (.cons (.str "argument") (.cons (.str "letters") (.nil)))) (.nil))) EN (g ++ [O.lst [arg "letters", arg "letters"]]) = some (.ok (.ref (g.length + 1)) (g ++ [O.lst [arg "letters", arg "letters"]] ++ [O.lst [arg "letters"]])) := by
      have := e_lst (call := cf 23) (env := EN) (h := g ++ [O.lst [arg "letters", arg "letters"]]) (s_one (e_tup (s_two (x := .str "argument") rfl (y := .str "letters") rfl) l2)) l1
      rw [List.length_append] at this
      exact this
    have f2 : binD .Mult (.ref (g.length + 1)) (.int 2) (g ++ [O.lst [arg "letters", arg "letters"]] ++ [O.lst [arg "letters"]]) = some (.ok (.ref (g.length + 2)) (g ++ [O.lst [arg "letters", arg "letters"], O.lst [arg "letters"], O.lst [arg "letters", arg "letters"]])) := by
      have il : isLst (g ++ [O.lst [arg "letters", arg "letters"]] ++ [O.lst [arg "letters"]]) (g.length + 1) = some [arg "letters"] := by
        rw [show g.length + 1 = (g ++ [O.lst [arg "letters", arg "letters"]]).length from by rw [List.length_append]; rfl]
        exact is_end
      have l : (([arg "letters"] : List D).length * (2 : Int).toNat ≤ lim && decide (-(2 ^ 63) ≤ (2 : Int)) && decide ((2 : Int) < 2 ^ 63)) = true := by
        show (decide (2 ≤ lim) && decide (-(2 ^ 63) ≤ (2 : Int)) && decide ((2 : Int) < 2 ^ 63)) = true
        decide
      show mulD (.ref (g.length + 1)) (.int 2) _ = _
      unfold mulD
      dsimp only
      rw [il]
      dsimp only
      rw [if_pos l]
      unfold Mini.alloc
      rw [List.length_append, List.length_append, List.append_assoc, List.append_assoc]
      rfl
    have r1 : rdLst (g ++ [O.lst [arg "letters", arg "letters"], O.lst [arg "letters"], O.lst [arg "letters", arg "letters"]]) g.length = some [arg "letters", arg "letters"] := by
      unfold rdLst
      rw [List.getElem?_append_right (Nat.le_refl _), Nat.sub_self]; rfl
    have r2 : rdLst (g ++ [O.lst [arg "letters", arg "letters"], O.lst [arg "letters"], O.lst [arg "letters", arg "letters"]]) (g.length + 2) = some [arg "letters", arg "letters"] := by
      unfold rdLst
      rw [List.getElem?_append_right (by omega), Nat.add_sub_cancel_left]; rfl
    have q : cmpD .NotEq (.ref g.length) (.ref (g.length + 2)) (g ++ [O.lst [arg "letters", arg "letters"], O.lst [arg "letters"], O.lst [arg "letters", arg "letters"]]) = some false := by
      rw [cmp_ne, eq_lists r1 r2 rfl sh2]; rfl
    have c := e_cmp (op := .NotEq) lc (e_bin f1 (show ev (cf 23) (.int 2) EN _ = some (.ok (.int 2) _) from rfl) f2) q
    rw [gc_pre rfl] at c
    exact t_bl c
  refine ⟨_, callF_heap (fn := ⟨1, 17, p_law⟩) rfl rfl rfl (ret1 (d := .bl true) (h' := g) ?_)⟩
  show exec (cf 23) pC p_law [some (.ref 0), none, none, none, none, none, none, none, none, none, none, none, none, none, none, none, none] [.ro (ns.map D.int)] = _
  unfold p_law
  rw [seq_nx (asg_ok (e_call (s_one (e_slot rfl)) ed) (show 1 < 17 by decide))]
  rw [seq_nx (e := [some (.ref 0), some (.ref 1), some (.ref 3), none, none, none, none, none, none, none, none, none, none, none, none, none, none]) (h' := [.ro (ns.map D.int), .lst (ds.map .int), .lst (ns.map .int), .lst [.int 0]]) (asg_ok (e_lst (s_one (x := .int 0) rfl) l1) (show 2 < 17 by decide))]
  rw [seq_nx (by
    rw [for_is (p := ((List.range 3).map fun k : Nat => .int (0 + (k : Int)), [])) (h1 := [.ro (ns.map D.int), .lst (ds.map .int), .lst (ns.map .int), .lst [.int 0]]) rfl]
    exact e1)]
  rw [seq_nx (e := [some (.ref 0), some (.ref 1), some (.ref 3), a3, some d, none, none, a7, a8, a9, a10, a11, a12, a13, some (.ref k), a15, none]) (h' := h4) (asg_ok ed4 (show 4 < 17 by decide))]
  rw [seq_nx (e := [some (.ref 0), some (.ref 1), some (.ref 3), a3, some d, some (.ref h4.length), none, a7, a8, a9, a10, a11, a12, a13, some (.ref k), a15, none]) (h' := h4 ++ [O.lst part1]) (by
    simp [exec, asgS, ev, evs, l0, l1, l2, l3, l4, l8, Mini.alloc, part1])]
  rw [seq_nx (e := EN) (h' := g) (by rw [hEN]; exact asg_ok ed5 (show 6 < 17 by decide))]
  rw [seq_nx (e := EN) (h' := g) (by rw [ite_f cmp1]; rfl)]
  exact seq_rt (ret_ok fin)
end Lk69
end

open PySem PySem.W PyProof.Rows
set_option maxHeartbeats 0 in
theorem PySem.Challenge.cw_plaitwrit_k69_whole_expansions_holds : PySem.Challenge.rw_plaitwrit_k69_whole_expansions.Holds := by
  w_on; o_law; k_head; (case hw => w_witness2)
  k_fill
  refine Mini.law_tab (n := 63) (k := 24) (C := Lk69.pC) (CR := Lk69.pCR) (tb := Lk69.pTb) (con := Lk69.pCon) (ks := Lk69.pKin) (PF := Lk69.pPF) (FR := Lk69.pFR) (i := 0) rfl (by decide) rfl ⟨rfl, by decide, by decide⟩ (fun w h Y => PySem.W.kIn_of Y) ?nl ?tb rfl rfl rfl rfl ?run
  case nl => intro p; kernel_rfl
  case tb => intro p; kernel_rfl
  case run => exact Lk69.law_true
