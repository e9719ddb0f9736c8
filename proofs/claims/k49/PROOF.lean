import PyProof.Rows.All
import Wide.All
import OpenK.AllK
import Wide.FinOn
import HandS.ForMost
import HandS.ForExc
import HandS.Wide
import HandS.Style
import HandS.TupAny
import HandS.IsInst
import HandS.Deep
import HandS.Star
import KE.SortData
import PyProof.CollectStr
import KE.KDictList
import KE.SortCalls
import PyProof.Rows.SortShellAny
import PyProof.Rows.StrMeet
import PyProof.MaxThree
import PyProof.ReprRoads
import PyProof.CallFns
import PyProof.FitsInt
import PyProof.StrLawsRepr
import PyProof.Rows.StrRev
import HandS.ExcOwn
import HandS.Codes
import HandS.Iter
import HandS.Dict
import HandS.WordsExc
import HandS.EndBits
import PySem.Challenge.RW_fivepoints_k49_whole_runs_judged
set_option Elab.async false
set_option linter.all false
/-! PL0: values without addresses, terms, and what a term wants (plain Lean, no program in sight). -/
namespace PL

/-- the greatest length of a list or a text -/
def line : Nat := 16777216

inductive PV where
  | non | bl (b : Bool) | int (i : Int) | str (s : List Nat)
  | tup (xs : List PV) | lst (xs : List PV) | scr (xs : List Int)
  | dct (kvs : List (PV × PV)) | ins (c : String) (fs : List (String × PV)) | ref (n : Nat)
  /-- what repr tells of data -/
  | txt (x : PV)

/-- a mutable object -/
inductive Cell where
  | lst (xs : List PV) | dct (kvs : List (PV × PV)) | ins (c : String) (fs : List (String × PV)) | dead

/-- an exception: its class, its attributes -/
structure Ex where
  cls : String
  fs : List (String × PV)

abbrev Sto := List Cell
abbrev Env := List (Option PV)
abbrev K1 := PV → Sto → Prop
abbrev KL := List PV → Sto → Prop
abbrev KB := Bool → Sto → Prop
abbrev XP := Ex → Sto → Prop
abbrev Spec := List PV → Sto → K1 → XP → Prop

/-- what is known of the module: defs and classes by name, constants -/
structure Ctx where
  fn : String → Option Spec
  cn : String → Option PV
  /-- whether one class is another, or below it -/
  sub : String → String → Option Bool
/-- a call's pattern: the def, the number of arguments by position, the names of those by name, how they are put in order -/
structure Kp where
  f : String
  n : Nat
  ks : List String
  ix : List Nat
  deriving DecidableEq
def pick {α : Type} (ix : List Nat) (l : List α) : List α := ix.filterMap fun i => l[i]?

/-! ### values -/
def drfC (n : Nat) : Option Cell → PV
  | some (.lst xs) => .lst xs
  | some (.dct kvs) => .dct kvs
  | some (.ins c fs) => .ins c fs
  | _ => .ref n
def drf (S : Sto) : PV → PV
  | .ref n => drfC n S[n]?
  | v => v

mutual
/-- plain data: no instance, dict, mutable object -/
def isData : PV → Bool
  | .non => true | .bl _ => true | .int _ => true | .str _ => true
  | .tup xs => isDataL xs | .lst xs => isDataL xs
  | .scr _ => false | .dct _ => false | .ins _ _ => false | .ref _ => false | .txt _ => false
def isDataL : List PV → Bool
  | [] => true
  | x :: xs => isData x && isDataL xs
end
mutual
def depth : PV → Nat
  | .tup xs => depthL xs + 1 | .lst xs => depthL xs + 1
  | _ => 0
def depthL : List PV → Nat
  | [] => 0
  | x :: xs => max (depth x) (depthL xs)
end
mutual
/-- Python's == of data -/
def eqv : PV → PV → Bool
  | .non, .non => true
  | .bl a, .bl b => a == b
  | .bl a, .int j => (if a then (1 : Int) else 0) == j
  | .int i, .bl b => i == (if b then (1 : Int) else 0)
  | .int i, .int j => i == j
  | .str x, .str y => x == y
  | .lst xs, .lst ys => eqvL xs ys
  | .tup xs, .tup ys => eqvL xs ys
  | _, _ => false
def eqvL : List PV → List PV → Bool
  | [], [] => true
  | x :: xs, y :: ys => eqv x y && eqvL xs ys
  | _, _ => false
end
/-- a written text is one of Python's -/
def okS (s : List Nat) : Bool := decide (s.length ≤ line) && s.all (fun c => decide (c < 1114112))
/-- None, a bool, an int, a text -/
def flat : PV → Bool
  | .non => true | .bl _ => true | .int _ => true | .str _ => true
  | _ => false
/-- data of small depth -/
def okData (v : PV) : Bool := isData v && decide (depth v ≤ 20)

mutual
/-- ints whose digits Python tells -/
def rok : PV → Bool
  | .int i => decide (i.natAbs.log2 < 1920)
  | .tup xs => rokL xs | .lst xs => rokL xs
  | _ => true
def rokL : List PV → Bool
  | [] => true
  | x :: xs => rok x && rokL xs
end
mutual
/-- a bound of the length of repr -/
def rsz : PV → Nat
  | .int i => i.natAbs.log2 + 4
  | .str s => 10 * s.length + 2
  | .tup xs => rszL xs + 4 | .lst xs => rszL xs + 4
  | _ => 5
def rszL : List PV → Nat
  | [] => 0
  | x :: xs => rsz x + 2 + rszL xs
end

/-- truth -/
def truth (S : Sto) (v : PV) : Option Bool := match drf S v with
  | .non => some false
  | .bl b => some b
  | .int i => some (i != 0)
  | .str s => some (!s.isEmpty)
  | .tup xs => some (!xs.isEmpty)
  | .lst xs => some (!xs.isEmpty)
  | .dct kvs => some (!kvs.isEmpty)
  | _ => none

def ixN (n : Nat) (i : Int) : Option Nat :=
  if 0 ≤ i then (if i < n then some i.toNat else none) else if -(n : Int) ≤ i then some (i + n).toNat else none
def sIx (n d : Nat) : Option Int → Nat
  | none => d
  | some v => if v < 0 then (v + (n : Int)).toNat else min v.toNat n
def cut {α : Type} (xs : List α) (lo hi : Option Int) : List α :=
  (xs.drop (sIx xs.length 0 lo)).take (sIx xs.length xs.length hi - sIx xs.length 0 lo)

/-- Python's order of like data -/
def ltS (a b : List Nat) : Bool := decide (a < b)

def joinL (sep : List Nat) : List (List Nat) → List Nat
  | [] => []
  | [x] => x
  | x :: r => x ++ sep ++ joinL sep r

def strs? : List PV → Option (List (List Nat))
  | [] => some []
  | .str s :: r => (strs? r).map (s :: ·)
  | _ :: _ => none
def ints? : List PV → Option (List Int)
  | [] => some []
  | .int i :: r => (ints? r).map (i :: ·)
  | _ :: _ => none
def bools? : List PV → Option (List Bool)
  | [] => some []
  | .bl i :: r => (bools? r).map (i :: ·)
  | _ :: _ => none

/-- an item's place in a dict -/
def dget (kvs : List (PV × PV)) (k : PV) : Option PV := (kvs.find? fun p => eqv p.1 k).map (·.2)

/-- a dict's key -/
def keyOk : PV → Bool
  | .int _ => true | .str _ => true
  | _ => false

/-- a value's type by name -/
def tyN (S : Sto) (x : PV) : Option String := match drf S x with
  | .non => some "NoneType" | .bl _ => some "bool" | .int _ => some "int" | .str _ => some "str" | .txt _ => some "str"
  | .tup _ => some "tuple" | .lst _ => some "list" | .scr _ => some "list" | .dct _ => some "dict" | .ins c _ => some c | .ref _ => none

/-! ### terms -/
inductive Bop where
  | add | sub | mul | fdiv | mod | pow
  deriving DecidableEq, Repr
inductive Cop where
  | eq | ne | lt | le | gt | ge | in_ | nin | is_ | isn
  deriving DecidableEq, Repr
/-- built-in functions and types by name -/
inductive Bi where
  | len | int_ | abs | min | max | sum | any | all | sorted | list | tuple | dict | str | repr | divmod | bool
  deriving DecidableEq, Repr
/-- methods of built-in types -/
inductive Mt where
  | append | pop | join | split | lindex | sindex | count | items
  deriving DecidableEq, Repr
/-- targets that are names: one, or several of a tuple -/
inductive Pt where
  | nm (i : Nat) | tp (is : List Nat)
  deriving DecidableEq, Repr
inductive Kst where
  | non | bl (b : Bool) | int (i : Int) | str (s : List Nat)
  deriving DecidableEq, Repr

mutual
inductive IR where
  | var (i : Nat)
  | cst (c : Kst)
  | glob (x : String)
  | bin (o : Bop) (a b : IR)
  | neg (a : IR)
  | cmp (o : Cop) (a b : IR)
  | chain (o1 o2 : Cop) (a b c : IR)
  | and_ (a b : IR) | or_ (a b : IR) | not_ (a : IR)
  | ite (c a b : IR)
  | tup (es : IRs)
  | lst (m : Bool) (es : IRs)
  | ix (a i : IR)
  | slice (a : IR) (lo hi : IRo)
  | rev (a : IR)
  | call (f : String) (es : IRs)
  | callk (p : Kp) (es kes : IRs)
  | isi (a : IR) (t : String)
  | bi (m : Bool) (f : Bi) (es : IRs)
  | mth (m : Mt) (o : IR) (es : IRs)
  | comp (m : Bool) (own : List Nat) (p : Pt) (it : It) (c : IRo) (e : IR)
inductive IRs where
  | nil | cons (e : IR) (es : IRs)
inductive IRo where
  | none | some (e : IR)
inductive It where
  | seq (e : IR) | rng1 (e : IR) | rng2 (a b : IR) | enum (e : IR) | zip (a b : IR) | items (e : IR)
end

def IRs.len : IRs → Nat
  | .nil => 0
  | .cons _ es => es.len + 1
mutual
inductive IS where
  | set (i : Nat) (e : IR)
  | unp (p : List Nat) (e : IR)
  | par2 (i j : Nat) (a b : IR)
  | par3 (i j k : Nat) (a b c : IR)
  | setix (o i : IR) (e : IR)
  | unpix (o i : IR) (j : Nat) (e : IR)
  | ex (e : IR)
  | ret (e : IR) | retn
  | ite (c : IR) (a b : ISs)
  | for_ (p : Pt) (it : It) (b : ISs)
  | while_ (c : IR) (b : ISs)
  | raise_ (x : String) (es : IRs)
  | pass | brk | cont
inductive ISs where
  | nil | cons (s : IS) (r : ISs)
end

/-! ### what an operation wants -/
def wAdd (S : Sto) : PV → PV → K1 → Prop
  | .int i, .int j, Q => Q (.int (i + j)) S
  | .str a, .str b, Q => a.length + b.length ≤ line ∧ Q (.str (a ++ b)) S
  | .lst a, .lst b, Q => a.length + b.length ≤ line ∧ Q (.lst (a ++ b)) S
  | .tup a, .tup b, Q => a.length + b.length ≤ line ∧ Q (.tup (a ++ b)) S
  | _, _, _ => False
def wSub (S : Sto) : PV → PV → K1 → Prop
  | .int i, .int j, Q => Q (.int (i - j)) S
  | _, _, _ => False
def wMul (S : Sto) : PV → PV → K1 → Prop
  | .int i, .int j, Q => i.natAbs.log2 + j.natAbs.log2 < 100000000 ∧ Q (.int (i * j)) S
  | .lst a, .int k, Q => k < 1000000 ∧ -1000000 < k ∧ a.length * k.toNat ≤ line ∧ Q (.lst (List.replicate k.toNat a).flatten) S
  | _, _, _ => False
def wFdiv (S : Sto) : PV → PV → K1 → Prop
  | .int i, .int j, Q => 0 < j ∧ j.natAbs.log2 < 9000 ∧ Q (.int (i / j)) S
  | _, _, _ => False
def wMod (S : Sto) : PV → PV → K1 → Prop
  | .int i, .int j, Q => 0 < j ∧ Q (.int (i % j)) S
  | _, _, _ => False
def wPow (S : Sto) : PV → PV → K1 → Prop
  | .int i, .int j, Q => 0 ≤ j ∧ j ≤ 1000000 ∧ i.natAbs < 2 ^ 64 ∧ Q (.int (i ^ j.toNat)) S
  | _, _, _ => False
def wBin (o : Bop) (S : Sto) (x y : PV) (Q : K1) : Prop := match o with
  | .add => wAdd S (drf S x) (drf S y) Q
  | .sub => wSub S x y Q
  | .mul => wMul S (drf S x) y Q
  | .fdiv => wFdiv S x y Q
  | .mod => wMod S x y Q
  | .pow => wPow S x y Q
def wNeg (S : Sto) : PV → K1 → Prop
  | .int i, Q => Q (.int (-i)) S
  | _, _ => False

def eqW : PV → PV → (Bool → Prop) → Prop
  | .txt a, .txt b, k => a = b ∧ k true
  | x, y, k => okData x = true ∧ okData y = true ∧ k (eqv x y)
def wEq (S : Sto) (x y : PV) (k : Bool → Prop) : Prop := eqW (drf S x) (drf S y) k
def inOk (x : PV) (ys : List PV) : Prop := (flat x = true ∧ ys.all flat = true) ∨ (okData x = true ∧ okData (.lst ys) = true)
def wIn (S : Sto) (x : PV) : PV → (Bool → Prop) → Prop
  | .str s, k => match x with
    | .str [c] => k (decide (c ∈ s))
    | _ => False
  | .lst ys, k => inOk x ys ∧ k (ys.any fun z => eqv z x)
  | .tup ys, k => (flat x = true ∧ ys.all flat = true) ∧ k (ys.any fun z => eqv z x)
  | _, _ => False
def wLt : PV → PV → (Bool → Prop) → Prop
  | .int i, .int j, k => k (decide (i < j))
  | .str a, .str b, k => k (ltS a b)
  | _, _, _ => False
def wIs : PV → PV → (Bool → Prop) → Prop
  | .non, .non, k => k true
  | .bl a, .bl b, k => k (a == b)
  | .bl _, .non, k => k false
  | .int _, .non, k => k false
  | .str _, .non, k => k false
  | .tup _, .non, k => k false
  | .lst _, .non, k => k false
  | .dct _, .non, k => k false
  | .ins _ _, .non, k => k false
  | .ref _, .non, k => k false
  | _, _, _ => False
def wCmpB (o : Cop) (S : Sto) (x y : PV) (k : Bool → Prop) : Prop := match o with
  | .eq => wEq S x y k
  | .ne => wEq S x y fun b => k (!b)
  | .lt => wLt x y k
  | .gt => wLt y x k
  | .le => wLt y x fun b => k (!b)
  | .ge => wLt x y fun b => k (!b)
  | .in_ => wIn S (drf S x) (drf S y) k
  | .nin => wIn S (drf S x) (drf S y) fun b => k (!b)
  | .is_ => wIs x y k
  | .isn => wIs x y fun b => k (!b)

def wIx (S : Sto) (i : PV) : PV → K1 → Prop
  | .lst xs, Q => match i with
    | .int i => ∃ v, (ixN xs.length i).bind (xs[·]?) = some v ∧ Q v S
    | _ => False
  | .tup xs, Q => match i with
    | .int i => ∃ v, (ixN xs.length i).bind (xs[·]?) = some v ∧ Q v S
    | _ => False
  | .scr xs, Q => match i with
    | .int i => ∃ v, (ixN xs.length i).bind (xs[·]?) = some v ∧ Q (.int v) S
    | _ => False
  | .str xs, Q => match i with
    | .int i => ∃ v, (ixN xs.length i).bind (xs[·]?) = some v ∧ Q (.str [v]) S
    | _ => False
  | .dct kvs, Q => keyOk i = true ∧ ∃ v, dget kvs i = some v ∧ Q v S
  | _, _ => False
def wSl (S : Sto) (lo hi : Option Int) : PV → K1 → Prop
  | .lst xs, Q => Q (.lst (cut xs lo hi)) S
  | .tup xs, Q => Q (.tup (cut xs lo hi)) S
  | .scr xs, Q => Q (.lst ((cut xs lo hi).map .int)) S
  | .str xs, Q => Q (.str (cut xs lo hi)) S
  | _, _ => False
def wRev (S : Sto) : PV → K1 → Prop
  | .str xs, Q => Q (.str xs.reverse) S
  | _, _ => False

/-- a new list: a value, or a mutable object -/
def wNew (m : Bool) (S : Sto) (xs : List PV) (Q : K1) : Prop := if m then Q (.ref S.length) (S ++ [.lst xs]) else Q (.lst xs) S

def wLen (S : Sto) : PV → K1 → Prop
  | .str s, Q => Q (.int s.length) S
  | .lst s, Q => Q (.int s.length) S
  | .tup s, Q => Q (.int s.length) S
  | .scr s, Q => Q (.int s.length) S
  | .dct s, Q => Q (.int s.length) S
  | _, _ => False

/-- the order of sorted -/
def insS (x : List Nat) : List (List Nat) → List (List Nat)
  | [] => [x]
  | y :: r => if ltS y x then y :: insS x r else x :: y :: r
def sortS : List (List Nat) → List (List Nat)
  | [] => []
  | x :: r => insS x (sortS r)

def wSorted (m : Bool) (S : Sto) : PV → K1 → Prop
  | .lst xs, Q => ∃ ss, strs? xs = some ss ∧ wNew m S ((sortS ss).map .str) Q
  | .str s, Q => wNew m S ((sortS (s.map fun c => [c])).map .str) Q
  | _, _ => False
def wList (m : Bool) (S : Sto) : PV → K1 → Prop
  | .lst xs, Q => wNew m S xs Q
  | .tup xs, Q => wNew m S xs Q
  | .str s, Q => wNew m S (s.map fun c => .str [c]) Q
  | _, _ => False
def wTuple (S : Sto) : PV → K1 → Prop
  | .lst xs, Q => Q (.tup xs) S
  | .tup xs, Q => Q (.tup xs) S
  | _, _ => False
def minL : Int → List Int → Int
  | a, [] => a
  | a, b :: r => minL (if b < a then b else a) r
def maxL : Int → List Int → Int
  | a, [] => a
  | a, b :: r => maxL (if b > a then b else a) r
def wMin (S : Sto) : List PV → K1 → Prop
  | [.int i, .int j], Q => Q (.int (if j < i then j else i)) S
  | [.lst xs], Q => ∃ n ns, ints? xs = some (n :: ns) ∧ Q (.int (minL n ns)) S
  | _, _ => False
def wMax (S : Sto) : List PV → K1 → Prop
  | [.int i, .int j], Q => Q (.int (if j > i then j else i)) S
  | [.int i, .int j, .int k], Q => Q (.int (maxL i [j, k])) S
  | [.lst xs], Q => ∃ n ns, ints? xs = some (n :: ns) ∧ Q (.int (maxL n ns)) S
  | _, _ => False
def wBi (m : Bool) (f : Bi) (S : Sto) (vs : List PV) (Q : K1) : Prop := match f, vs with
  | .len, [x] => wLen S (drf S x) Q
  | .int_, [.int i] => Q (.int i) S
  | .int_, [.bl b] => Q (.int (if b then 1 else 0)) S
  | .abs, [.int i] => Q (.int (if i < 0 then -i else i)) S
  | .min, vs => wMin S (vs.map (drf S)) Q
  | .max, vs => wMax S (vs.map (drf S)) Q
  | .sum, [x] => match drf S x with
    | .lst xs => ∃ ns, ints? xs = some ns ∧ Q (.int ns.sum) S
    | _ => False
  | .any, [x] => match drf S x with
    | .lst xs => ∃ ns, bools? xs = some ns ∧ Q (.bl (ns.any id)) S
    | _ => False
  | .all, [x] => match drf S x with
    | .lst xs => ∃ ns, bools? xs = some ns ∧ Q (.bl (ns.all id)) S
    | _ => False
  | .sorted, [x] => wSorted m S (drf S x) Q
  | .list, [x] => wList m S (drf S x) Q
  | .tuple, [x] => wTuple S (drf S x) Q
  | .repr, [x] => okData (drf S x) = true ∧ rok (drf S x) = true ∧ rsz (drf S x) ≤ line ∧ Q (.txt (drf S x)) S
  | .divmod, [.int i, .int j] => 0 < j ∧ j < 1073741824 ∧ Q (.tup [.int (i / j), .int (i % j)]) S
  | _, _ => False

/-- ahead of a method's arguments: what the object is -/
def mtOk (m : Mt) (S : Sto) (o : PV) : Prop := match m, o with
  | .append, .ref n => ∃ xs, S[n]? = some (.lst xs)
  | .pop, .ref n => ∃ xs, S[n]? = some (.lst xs)
  | .join, .str _ => True
  | .split, .str _ => True
  | .count, .str _ => True
  | _, _ => False
def wMt (m : Mt) (S : Sto) (o : PV) (vs : List PV) (Q : K1) : Prop := match m, o, vs with
  | .append, .ref n, [y] => ∃ xs, S[n]? = some (.lst xs) ∧ xs.length < line ∧ Q .non (S.set n (.lst (xs ++ [y])))
  | .pop, .ref n, [.int i] => ∃ xs k y, S[n]? = some (.lst xs) ∧ ixN xs.length i = some k ∧ xs[k]? = some y ∧ Q y (S.set n (.lst (xs.eraseIdx k)))
  | .join, .str sep, [x] => match drf S x with
    | .lst xs => ∃ ss, strs? xs = some ss ∧ (ss.map (·.length)).sum + ss.length * sep.length ≤ line ∧ Q (.str (joinL sep ss)) S
    | .tup xs => ∃ ss, strs? xs = some ss ∧ (ss.map (·.length)).sum + ss.length * sep.length ≤ line ∧ Q (.str (joinL sep ss)) S
    | _ => False
  | _, _, _ => False

/-- o[i] = v -/
def wSet (S : Sto) (o i v : PV) (k : Sto → Prop) : Prop := match o, i with
  | .ref n, .int i => ∃ xs j, S[n]? = some (.lst xs) ∧ ixN xs.length i = some j ∧ k (S.set n (.lst (xs.set j v)))
  | _, _ => False

/-- stores to names -/
def setV (ρ : Env) (i : Nat) (v : PV) : Env := ρ.set i (some v)
def setVs : Env → List Nat → List PV → Option Env
  | ρ, [], [] => some ρ
  | ρ, i :: is, v :: vs => setVs (setV ρ i v) is vs
  | _, _, _ => none
def asg (p : Pt) (v : PV) (ρ : Env) (k : Env → Prop) : Prop := match p with
  | .nm i => k (setV ρ i v)
  | .tp is => match v with
    | .tup vs => ∃ ρ', setVs ρ is vs = some ρ' ∧ k ρ'
    | _ => False
def wipe (ρ : Env) : List Nat → Env
  | [] => ρ
  | i :: is => (wipe ρ is).set i none

/-- what is iterated: the items, and what must stay -/
def itemsOf (S : Sto) (v : PV) : Option (List PV) := match drf S v with
  | .lst xs => some xs
  | .tup xs => some xs
  | .scr xs => some (xs.map .int)
  | .str s => some (s.map fun c => .str [c])
  | _ => none
def rngL (i : Int) : Nat → List PV
  | 0 => []
  | n + 1 => .int i :: rngL (i + 1) n

/-- a comprehension's loop -/
def wComp (m : Bool) (g : Sto → Prop) (a : PV → (Env → Prop) → Prop) (c : Env → Sto → KB → Prop) (e : Env → Sto → K1 → Prop) (Q : K1) : List PV → List PV → Sto → Prop
  | [], acc, S => g S ∧ wNew m S acc Q
  | x :: r, acc, S => g S ∧ a x fun ρ => c ρ S fun b S1 => if b = true then e ρ S1 fun y S2 => wComp m g a c e Q r (acc ++ [y]) S2 else wComp m g a c e Q r acc S1

mutual
/-- an expression -/
def wE (Γ : Ctx) (E : XP) : IR → Env → Sto → K1 → Prop
  | .var i, ρ, S, Q => match ρ[i]? with
    | some (some v) => Q v S
    | _ => False
  | .cst c, _, S, Q => match c with
    | .non => Q .non S
    | .bl b => Q (.bl b) S
    | .int i => Q (.int i) S
    | .str s => okS s = true ∧ Q (.str s) S
  | .glob x, _, S, Q => match Γ.cn x with
    | some v => Q v S
    | none => False
  | .bin o a b, ρ, S, Q => wE Γ E a ρ S fun x S1 => wE Γ E b ρ S1 fun y S2 => wBin o S2 x y Q
  | .neg a, ρ, S, Q => wE Γ E a ρ S fun x S1 => wNeg S1 x Q
  | .cmp o a b, ρ, S, Q => wE Γ E a ρ S fun x S1 => wE Γ E b ρ S1 fun y S2 => wCmpB o S2 x y fun k => Q (.bl k) S2
  | .chain o1 o2 a b c, ρ, S, Q => wE Γ E a ρ S fun x S1 => wE Γ E b ρ S1 fun y S2 => wCmpB o1 S2 x y fun k =>
      if k = true then wE Γ E c ρ S2 fun z S3 => wCmpB o2 S3 y z fun k2 => Q (.bl k2) S3 else Q (.bl false) S2
  | .and_ a b, ρ, S, Q => wE Γ E a ρ S fun x S1 => match x with
    | .bl k => if k = true then wE Γ E b ρ S1 Q else Q (.bl false) S1
    | _ => False
  | .or_ a b, ρ, S, Q => wE Γ E a ρ S fun x S1 => match x with
    | .bl k => if k = true then Q (.bl true) S1 else wE Γ E b ρ S1 Q
    | _ => False
  | .not_ a, ρ, S, Q => wE Γ E a ρ S fun x S1 => match x with
    | .bl k => Q (.bl (!k)) S1
    | _ => False
  | .ite c a b, ρ, S, Q => wT Γ E c ρ S fun k S1 => if k = true then wE Γ E a ρ S1 Q else wE Γ E b ρ S1 Q
  | .tup es, ρ, S, Q => wEs Γ E es ρ S fun vs S1 => vs.length ≤ line ∧ Q (.tup vs) S1
  | .lst m es, ρ, S, Q => wEs Γ E es ρ S fun vs S1 => vs.length ≤ line ∧ wNew m S1 vs Q
  | .ix a i, ρ, S, Q => wE Γ E a ρ S fun x S1 => wE Γ E i ρ S1 fun y S2 => wIx S2 y (drf S2 x) Q
  | .slice a lo hi, ρ, S, Q => wE Γ E a ρ S fun x S1 => wO Γ E lo ρ S1 fun l S2 => wO Γ E hi ρ S2 fun h S3 => wSl S3 l h (drf S3 x) Q
  | .rev a, ρ, S, Q => wE Γ E a ρ S fun x S1 => wRev S1 x Q
  | .call f es, ρ, S, Q => wEs Γ E es ρ S fun vs S1 => match Γ.fn f with
    | some sp => sp vs S1 Q E
    | none => False
  | .callk p es kes, ρ, S, Q => wEs Γ E es ρ S fun vs S1 => wEs Γ E kes ρ S1 fun ws S2 => match Γ.fn p.f with
    | some sp => sp (pick p.ix (vs ++ ws)) S2 Q E
    | none => False
  | .isi a t, ρ, S, Q => wE Γ E a ρ S fun x S1 => ∃ b, (tyN S1 x).bind (fun u => Γ.sub u t) = some b ∧ Q (.bl b) S1
  | .bi m f es, ρ, S, Q => wEs Γ E es ρ S fun vs S1 => wBi m f S1 vs Q
  | .mth m o es, ρ, S, Q => wE Γ E o ρ S fun x S1 => mtOk m S1 x ∧ wEs Γ E es ρ S1 fun vs S2 => wMt m S2 x vs Q
  | .comp m own p it c e, ρ, S, Q => wIt Γ E it ρ S fun xs g S1 =>
      wComp m g (fun x k => asg p x (wipe ρ own) k) (fun ρ' S' k => wC Γ (fun _ _ => False) c ρ' S' k) (fun ρ' S' k => wE Γ (fun _ _ => False) e ρ' S' k) Q xs [] S1
/-- a test -/
def wT (Γ : Ctx) (E : XP) : IR → Env → Sto → KB → Prop
  | .and_ a b, ρ, S, Q => wT Γ E a ρ S fun k S1 => if k = true then wT Γ E b ρ S1 Q else Q false S1
  | .or_ a b, ρ, S, Q => wT Γ E a ρ S fun k S1 => if k = true then Q true S1 else wT Γ E b ρ S1 Q
  | .not_ a, ρ, S, Q => wT Γ E a ρ S fun k S1 => Q (!k) S1
  | .cmp o a b, ρ, S, Q => wE Γ E a ρ S fun x S1 => wE Γ E b ρ S1 fun y S2 => wCmpB o S2 x y fun k => Q k S2
  | .chain o1 o2 a b c, ρ, S, Q => wE Γ E a ρ S fun x S1 => wE Γ E b ρ S1 fun y S2 => wCmpB o1 S2 x y fun k =>
      if k = true then wE Γ E c ρ S2 fun z S3 => wCmpB o2 S3 y z fun k2 => Q k2 S3 else Q false S2
  | .var i, ρ, S, Q => match ρ[i]? with
    | some (some v) => ∃ k, truth S v = some k ∧ Q k S
    | _ => False
  | .call f es, ρ, S, Q => wEs Γ E es ρ S fun vs S1 => match Γ.fn f with
    | some sp => sp vs S1 (fun v S2 => ∃ k, truth S2 v = some k ∧ Q k S2) E
    | none => False
  | .callk p es kes, ρ, S, Q => wEs Γ E es ρ S fun vs S1 => wEs Γ E kes ρ S1 fun ws S2 => match Γ.fn p.f with
    | some sp => sp (pick p.ix (vs ++ ws)) S2 (fun v S2 => ∃ k, truth S2 v = some k ∧ Q k S2) E
    | none => False
  | .isi a t, ρ, S, Q => wE Γ E a ρ S fun x S1 => ∃ b, (tyN S1 x).bind (fun u => Γ.sub u t) = some b ∧ Q b S1
  | .bi m f es, ρ, S, Q => wEs Γ E es ρ S fun vs S1 => wBi m f S1 vs fun v S2 => ∃ k, truth S2 v = some k ∧ Q k S2
  | .ix a i, ρ, S, Q => wE Γ E a ρ S fun x S1 => wE Γ E i ρ S1 fun y S2 => wIx S2 y (drf S2 x) fun v S3 => ∃ k, truth S3 v = some k ∧ Q k S3
  | _, _, _, _ => False
/-- a clause's test, if there is one -/
def wC (Γ : Ctx) (E : XP) : IRo → Env → Sto → KB → Prop
  | .none, _, S, Q => Q true S
  | .some c, ρ, S, Q => wT Γ E c ρ S Q
/-- a bound of a slice -/
def wO (Γ : Ctx) (E : XP) : IRo → Env → Sto → (Option Int → Sto → Prop) → Prop
  | .none, _, S, Q => Q none S
  | .some c, ρ, S, Q => wE Γ E c ρ S fun x S1 => match x with
    | .int i => Q (some i) S1
    | _ => False
/-- expressions from the left -/
def wEs (Γ : Ctx) (E : XP) : IRs → Env → Sto → KL → Prop
  | .nil, _, S, Q => Q [] S
  | .cons e es, ρ, S, Q => wE Γ E e ρ S fun x S1 => wEs Γ E es ρ S1 fun xs S2 => Q (x :: xs) S2
/-- what is walked -/
def wIt (Γ : Ctx) (E : XP) : It → Env → Sto → (List PV → (Sto → Prop) → Sto → Prop) → Prop
  | .seq e, ρ, S, Q => wE Γ E e ρ S fun x S1 => ∃ xs, itemsOf S1 x = some xs ∧ Q xs (fun S' => itemsOf S' x = some xs) S1
  | .rng1 e, ρ, S, Q => wE Γ E e ρ S fun x S1 => match x with
    | .int n => n ≤ line ∧ -line ≤ n ∧ Q (rngL 0 n.toNat) (fun _ => True) S1
    | _ => False
  | .rng2 a b, ρ, S, Q => wE Γ E a ρ S fun x S1 => wE Γ E b ρ S1 fun y S2 => match x, y with
    | .int i, .int j => (-line ≤ i ∧ i ≤ line ∧ -line ≤ j ∧ j ≤ line ∧ j - i ≤ line) ∧ Q (rngL i (j - i).toNat) (fun _ => True) S2
    | _, _ => False
  | _, _, _, _ => False
end

/-- what is wanted behind a statement -/
structure Ends where
  nx : Env → Sto → Prop
  rt : K1
  bk : Env → Sto → Prop
  ct : Env → Sto → Prop

/-- a for's loop -/
def wFor (g : Sto → Prop) (a : PV → Env → (Env → Prop) → Prop) (body : Ends → Env → Sto → Prop) (D : Ends) : List PV → Env → Sto → Prop
  | [], ρ, S => g S ∧ D.nx ρ S
  | x :: r, ρ, S => g S ∧ a x ρ fun ρ1 => body ⟨wFor g a body D r, D.rt, D.nx, wFor g a body D r⟩ ρ1 S

mutual
/-- a statement -/
def wS (Γ : Ctx) (E : XP) : IS → Ends → Env → Sto → Prop
  | .set i e, D, ρ, S => wE Γ E e ρ S fun v S1 => D.nx (setV ρ i v) S1
  | .unp p e, D, ρ, S => wE Γ E e ρ S fun v S1 => asg (.tp p) v ρ fun ρ1 => D.nx ρ1 S1
  | .par2 i j a b, D, ρ, S => wE Γ E a ρ S fun x S1 => wE Γ E b ρ S1 fun y S2 => D.nx (setV (setV ρ i x) j y) S2
  | .par3 i j k a b c, D, ρ, S => wE Γ E a ρ S fun x S1 => wE Γ E b ρ S1 fun y S2 => wE Γ E c ρ S2 fun z S3 => D.nx (setV (setV (setV ρ i x) j y) k z) S3
  | .setix o i e, D, ρ, S => wE Γ E e ρ S fun v S1 => wE Γ E o ρ S1 fun x S2 => wE Γ E i ρ S2 fun y S3 => wSet S3 x y v fun S4 => D.nx ρ S4
  | .unpix o i j e, D, ρ, S => wE Γ E e ρ S fun v S1 => match v with
    | .tup [a, b] => wE Γ E o ρ S1 fun x S2 => wE Γ E i ρ S2 fun y S3 => wSet S3 x y a fun S4 => D.nx (setV ρ j b) S4
    | _ => False
  | .ex e, D, ρ, S => wE Γ E e ρ S fun _ S1 => D.nx ρ S1
  | .ret e, D, ρ, S => wE Γ E e ρ S D.rt
  | .retn, D, _, S => D.rt .non S
  | .ite c a b, D, ρ, S => wT Γ E c ρ S fun k S1 => if k = true then wSs Γ E a D ρ S1 else wSs Γ E b D ρ S1
  | .for_ p it b, D, ρ, S => wIt Γ E it ρ S fun xs g S1 => wFor g (fun x ρ' k => asg p x ρ' k) (fun D' ρ' S' => wSs Γ E b D' ρ' S') D xs ρ S1
  | .while_ c b, D, ρ, S => ∃ W : Nat → Env → Sto → Prop, (∃ m, W m ρ S) ∧ ∀ m ρ S, W m ρ S → wT Γ E c ρ S fun k S1 =>
      if k = true then wSs Γ E b ⟨fun ρ' S' => ∃ m', m' < m ∧ W m' ρ' S', D.rt, D.nx, fun ρ' S' => ∃ m', m' < m ∧ W m' ρ' S'⟩ ρ S1 else D.nx ρ S1
  | .raise_ x es, _, ρ, S => False
  | .pass, D, ρ, S => D.nx ρ S
  | .brk, D, ρ, S => D.bk ρ S
  | .cont, D, ρ, S => D.ct ρ S
def wSs (Γ : Ctx) (E : XP) : ISs → Ends → Env → Sto → Prop
  | .nil, D, ρ, S => D.nx ρ S
  | .cons s r, D, ρ, S => wS Γ E s { D with nx := fun ρ1 S1 => wSs Γ E r D ρ1 S1 } ρ S
end

mutual
/-- no mutable object is named within -/
def noRef : PV → Bool
  | .ref _ => false
  | .tup xs => noRefL xs | .lst xs => noRefL xs
  | .dct kvs => noRefD kvs
  | .ins _ fs => noRefF fs
  | _ => true
def noRefL : List PV → Bool
  | [] => true
  | x :: xs => noRef x && noRefL xs
def noRefD : List (PV × PV) → Bool
  | [] => true
  | (_, x) :: xs => noRef x && noRefD xs
def noRefF : List (String × PV) → Bool
  | [] => true
  | (_, x) :: xs => noRef x && noRefF xs
end
def cellNR : Cell → Bool
  | .lst xs => noRefL xs | .dct kvs => noRefD kvs | .ins _ fs => noRefF fs | .dead => true
/-- a def's end: as it is; the mutable objects made since forgotten; the one that is handed back fixed -/
def drp (m : Nat) (v : PV) (S : Sto) (Q : K1) : Prop :=
  Q v S ∨ (noRef v = true ∧ (S.take m).all cellNR = true ∧ Q v (S.take m)) ∨
    (match v with
      | .ref k => match S[k]? with
        | some (.lst xs) => m ≤ k ∧ noRefL xs = true ∧ (S.take m).all cellNR = true ∧ Q (.lst xs) (S.take m)
        | some (.dct xs) => m ≤ k ∧ noRefD xs = true ∧ (S.take m).all cellNR = true ∧ Q (.dct xs) (S.take m)
        | some (.ins c xs) => m ≤ k ∧ noRefF xs = true ∧ (S.take m).all cellNR = true ∧ Q (.ins c xs) (S.take m)
        | _ => False
      | _ => False)
/-- the slots at a def's entry -/
def start (n : Nat) (vs : List PV) : Env := vs.map some ++ List.replicate (n - vs.length) none
/-- a def's body -/
def wBody (Γ : Ctx) (E : XP) (b : ISs) (n : Nat) (vs : List PV) (S : Sto) (Q : K1) : Prop :=
  wSs Γ E b ⟨fun _ S' => drp S.length .non S' Q, fun v S' => drp S.length v S' Q, fun _ _ => False, fun _ _ => False⟩ (start n vs) S

end PL
set_option maxRecDepth 100000
set_option maxHeartbeats 4000000
/-! PL1a: how a value without addresses lies in the heap. -/
namespace PL
open PySem PySem.Spec PyProof.Rows L2

/-- a class's address by its name; what stands at addresses that no value names -/
structure CA where
  cls : String → Option Addr
  hid : List (Addr × HO)
def sOf (s : List Nat) : Str := ⟨s.toArray⟩
def KeyR : PV → Key → Prop
  | .int i, k => k = Sum.inl i
  | .str s, k => okS s = true ∧ k = Sum.inr (sOf s)
  | _, _ => False

mutual
def toD : PV → PyData
  | .bl b => .bool b | .int i => .int i | .str s => .str (sOf s)
  | .tup xs => .tuple (toDL xs) | .lst xs => .list (toDL xs)
  | _ => .none
def toDL : List PV → List PyData
  | [] => []
  | x :: xs => toD x :: toDL xs
end

mutual
def Rep (K : PySem.W.Frag) (ca : CA) (μ : List Addr) (F : Hp) : PV → V → Prop
  | .non, v => v = V.non
  | .bl b, v => v = V.bl b
  | .int i, v => v = V.int i
  | .str s, v => okS s = true ∧ v = V.str (sOf s)
  | .tup xs, v => ∃ a vs, v = V.ref a ∧ SqT K F a vs ∧ RepL K ca μ F xs vs
  | .lst xs, v => ∃ a vs, v = V.ref a ∧ F a = some (.lst vs) ∧ RepL K ca μ F xs vs
  | .scr xs, v => ∃ a, v = V.ref a ∧ SqL K F a (xs.map V.int)
  | .dct kvs, v => ∃ a ks, v = V.ref a ∧ F a = some (.dK ks) ∧ RepD K ca μ F kvs ks
  | .ins c fs, v => ∃ a C dx vs, v = V.ref a ∧ ca.cls c = some C ∧ F a = some (.ins C dx vs) ∧ RepF K ca μ F fs vs
  | .ref n, v => ∃ a, μ[n]? = some a ∧ v = V.ref a
  | .txt x, v => v = V.str (toD x).shown
def RepL (K : PySem.W.Frag) (ca : CA) (μ : List Addr) (F : Hp) : List PV → List V → Prop
  | [], vs => vs = []
  | x :: xs, vs => ∃ v r, vs = v :: r ∧ Rep K ca μ F x v ∧ RepL K ca μ F xs r
def RepD (K : PySem.W.Frag) (ca : CA) (μ : List Addr) (F : Hp) : List (PV × PV) → List (Key × V) → Prop
  | [], vs => vs = []
  | (k, x) :: xs, vs => ∃ kk v r, vs = (kk, v) :: r ∧ KeyR k kk ∧ Rep K ca μ F x v ∧ RepD K ca μ F xs r
def RepF (K : PySem.W.Frag) (ca : CA) (μ : List Addr) (F : Hp) : List (String × PV) → List (Str × V) → Prop
  | [], vs => vs = []
  | (k, x) :: xs, vs => ∃ v r, vs = (Str.ofString k, v) :: r ∧ Rep K ca μ F x v ∧ RepF K ca μ F xs r
end

def Ext (μ μ' : List Addr) : Prop := ∀ (n : Nat) (a : Addr), μ[n]? = some a → μ'[n]? = some a
theorem Ext.refl (μ : List Addr) : Ext μ μ := fun _ _ h => h
theorem Ext.trans {a b c : List Addr} (h : Ext a b) (g : Ext b c) : Ext a c := fun n x e => g n x (h n x e)
theorem Ext.app (μ : List Addr) (t : List Addr) : Ext μ (μ ++ t) := fun n a e => by
  have h := (List.getElem?_eq_some_iff.mp e).1
  rw [List.getElem?_append_left h]; exact e

theorem sqT_mono {K : PySem.W.Frag} {F F' : Hp} {a : Addr} {xs : List V} (e : Same F F') (h : SqT K F a xs) : SqT K F' a xs := by
  rcases h with (h | ⟨o, h⟩) | h
  · exact .inl (.inl (e _ _ h))
  · exact .inl (.inr ⟨o, e _ _ h⟩)
  · exact .inr h

section
variable {K : PySem.W.Frag} {ca : CA} {μ μ' : List Addr} {F F' : Hp}
mutual
theorem Rep.mono (hm : Ext μ μ') (hF : Same F F') : ∀ (x : PV) (v : V), Rep K ca μ F x v → Rep K ca μ' F' x v
  | .non, v, h => h
  | .bl _, v, h => h
  | .int _, v, h => h
  | .str _, v, h => h
  | .tup xs, v, h => by
    obtain ⟨a, vs, e, q, r⟩ := h
    exact ⟨a, vs, e, sqT_mono hF q, RepL.mono hm hF xs vs r⟩
  | .lst xs, v, h => by
    obtain ⟨a, vs, e, q, r⟩ := h
    exact ⟨a, vs, e, hF _ _ q, RepL.mono hm hF xs vs r⟩
  | .scr xs, v, h => by
    obtain ⟨a, e, q⟩ := h
    exact ⟨a, e, hF.seq q⟩
  | .dct kvs, v, h => by
    obtain ⟨a, ks, e, q, r⟩ := h
    exact ⟨a, ks, e, hF _ _ q, RepD.mono hm hF kvs ks r⟩
  | .ins c fs, v, h => by
    obtain ⟨a, C, dx, vs, e, hc, q, r⟩ := h
    exact ⟨a, C, dx, vs, e, hc, hF _ _ q, RepF.mono hm hF fs vs r⟩
  | .ref n, v, h => by
    obtain ⟨a, q, e⟩ := h
    exact ⟨a, hm _ _ q, e⟩
  | .txt _, v, h => h
theorem RepL.mono (hm : Ext μ μ') (hF : Same F F') : ∀ (xs : List PV) (vs : List V), RepL K ca μ F xs vs → RepL K ca μ' F' xs vs
  | [], vs, h => h
  | x :: xs, vs, h => by
    obtain ⟨v, r, e, q, t⟩ := h
    exact ⟨v, r, e, Rep.mono hm hF x v q, RepL.mono hm hF xs r t⟩
theorem RepD.mono (hm : Ext μ μ') (hF : Same F F') : ∀ (xs : List (PV × PV)) (vs : List (Key × V)), RepD K ca μ F xs vs → RepD K ca μ' F' xs vs
  | [], vs, h => h
  | (k, x) :: xs, vs, h => by
    obtain ⟨kk, v, r, e, hk, q, t⟩ := h
    exact ⟨kk, v, r, e, hk, Rep.mono hm hF x v q, RepD.mono hm hF xs r t⟩
theorem RepF.mono (hm : Ext μ μ') (hF : Same F F') : ∀ (xs : List (String × PV)) (vs : List (Str × V)), RepF K ca μ F xs vs → RepF K ca μ' F' xs vs
  | [], vs, h => h
  | (k, x) :: xs, vs, h => by
    obtain ⟨v, r, e, q, t⟩ := h
    exact ⟨v, r, e, Rep.mono hm hF x v q, RepF.mono hm hF xs r t⟩
end
theorem RepL.length : ∀ {xs : List PV} {vs : List V}, RepL K ca μ F xs vs → xs.length = vs.length
  | [], vs, h => by rw [show vs = [] from h]; rfl
  | x :: xs, vs, h => by
    obtain ⟨v, r, e, _, t⟩ := h
    rw [e, List.length_cons, List.length_cons, RepL.length t]
theorem RepL.get : ∀ {xs : List PV} {vs : List V} {i : Nat} {x : PV}, RepL K ca μ F xs vs → xs[i]? = some x → ∃ v, vs[i]? = some v ∧ Rep K ca μ F x v
  | [], vs, i, x, _, e => by simp at e
  | y :: ys, vs, 0, x, h, e => by
    obtain ⟨v, r, e2, q, _⟩ := h
    have e3 : y = x := by simpa using e
    subst e3; subst e2
    exact ⟨v, rfl, q⟩
  | y :: ys, vs, i + 1, x, h, e => by
    obtain ⟨v, r, e2, _, t⟩ := h
    subst e2
    obtain ⟨w, h1, h2⟩ := RepL.get (i := i) t (by simpa using e)
    exact ⟨w, by simpa using h1, h2⟩
theorem RepL.append : ∀ {xs ys : List PV} {vs ws : List V}, RepL K ca μ F xs vs → RepL K ca μ F ys ws → RepL K ca μ F (xs ++ ys) (vs ++ ws)
  | [], ys, vs, ws, h, g => by rw [show vs = [] from h]; exact g
  | x :: xs, ys, vs, ws, h, g => by
    obtain ⟨v, r, e, q, t⟩ := h
    subst e
    exact ⟨v, r ++ ws, rfl, q, RepL.append t g⟩
theorem RepL.drop : ∀ (n : Nat) {xs : List PV} {vs : List V}, RepL K ca μ F xs vs → RepL K ca μ F (xs.drop n) (vs.drop n)
  | 0, xs, vs, h => h
  | n + 1, [], vs, h => by rw [show vs = [] from h]; exact rfl
  | n + 1, x :: xs, vs, h => by
    obtain ⟨v, r, e, q, t⟩ := h
    subst e
    exact RepL.drop n t
theorem RepL.take : ∀ (n : Nat) {xs : List PV} {vs : List V}, RepL K ca μ F xs vs → RepL K ca μ F (xs.take n) (vs.take n)
  | 0, xs, vs, h => rfl
  | n + 1, [], vs, h => by rw [show vs = [] from h]; exact rfl
  | n + 1, x :: xs, vs, h => by
    obtain ⟨v, r, e, q, t⟩ := h
    subst e
    exact ⟨v, r.take n, rfl, q, RepL.take n t⟩
theorem RepL.set {x : PV} {v : V} (q : Rep K ca μ F x v) : ∀ (i : Nat) {xs : List PV} {vs : List V}, RepL K ca μ F xs vs → RepL K ca μ F (xs.set i x) (vs.set i v)
  | i, [], vs, h => by rw [show vs = [] from h]; exact rfl
  | 0, y :: xs, vs, h => by
    obtain ⟨w, r, e, _, t⟩ := h
    subst e
    exact ⟨v, r, rfl, q, t⟩
  | i + 1, y :: xs, vs, h => by
    obtain ⟨w, r, e, q2, t⟩ := h
    subst e
    exact ⟨w, r.set i v, rfl, q2, RepL.set q i t⟩
theorem RepL.eraseIdx : ∀ (i : Nat) {xs : List PV} {vs : List V}, RepL K ca μ F xs vs → RepL K ca μ F (xs.eraseIdx i) (vs.eraseIdx i)
  | i, [], vs, h => by rw [show vs = [] from h]; exact rfl
  | 0, y :: xs, vs, h => by
    obtain ⟨w, r, e, _, t⟩ := h
    subst e
    exact t
  | i + 1, y :: xs, vs, h => by
    obtain ⟨w, r, e, q2, t⟩ := h
    subst e
    exact ⟨w, r.eraseIdx i, rfl, q2, RepL.eraseIdx i t⟩
theorem RepL.replicate {xs : List PV} {vs : List V} (h : RepL K ca μ F xs vs) : ∀ n : Nat, RepL K ca μ F (List.replicate n xs).flatten (List.replicate n vs).flatten
  | 0 => rfl
  | n + 1 => by
    rw [List.replicate_succ, List.replicate_succ, List.flatten_cons, List.flatten_cons]
    exact h.append (RepL.replicate h n)
theorem repL_strs : ∀ {ss : List (List Nat)}, (∀ s ∈ ss, okS s = true) → RepL K ca μ F (ss.map PV.str) (ss.map fun s => V.str (sOf s))
  | [], _ => rfl
  | s :: ss, h => ⟨_, _, rfl, ⟨h s (by simp), rfl⟩, repL_strs fun t ht => h t (by simp [ht])⟩
theorem repL_ints : ∀ {ns : List Int}, RepL K ca μ F (ns.map PV.int) (ns.map V.int)
  | [] => rfl
  | n :: ns => ⟨_, _, rfl, rfl, repL_ints⟩
theorem strs_rep : ∀ {xs : List PV} {ss : List (List Nat)} {vs : List V}, strs? xs = some ss → RepL K ca μ F xs vs → vs = ss.map (fun s => V.str (sOf s)) ∧ ∀ s ∈ ss, okS s = true
  | [], ss, vs, e, h => by
    have e' : ([] : List (List Nat)) = ss := Option.some.inj e
    subst e'
    exact ⟨h, fun _ z => by simp at z⟩
  | .str s :: xs, ss, vs, e, h => by
    rw [strs?] at e
    cases q : strs? xs with
    | none => rw [q] at e; simp at e
    | some ts =>
      rw [q] at e
      have e' : s :: ts = ss := by simpa using e
      subst e'
      obtain ⟨v, r, ev, ⟨hl, hv⟩, t⟩ := h
      obtain ⟨g1, g2⟩ := strs_rep q t
      subst ev; subst hv; subst g1
      exact ⟨rfl, fun z hz => by
        rcases List.mem_cons.mp hz with rfl | hz
        · exact hl
        · exact g2 z hz⟩
  | .non :: _, _, _, e, _ => by simp [strs?] at e
  | .bl _ :: _, _, _, e, _ => by simp [strs?] at e
  | .int _ :: _, _, _, e, _ => by simp [strs?] at e
  | .tup _ :: _, _, _, e, _ => by simp [strs?] at e
  | .lst _ :: _, _, _, e, _ => by simp [strs?] at e
  | .scr _ :: _, _, _, e, _ => by simp [strs?] at e
  | .dct _ :: _, _, _, e, _ => by simp [strs?] at e
  | .ins _ _ :: _, _, _, e, _ => by simp [strs?] at e
  | .ref _ :: _, _, _, e, _ => by simp [strs?] at e
  | .txt _ :: _, _, _, e, _ => by simp [strs?] at e
theorem ints_rep : ∀ {xs : List PV} {ns : List Int} {vs : List V}, ints? xs = some ns → RepL K ca μ F xs vs → vs = ns.map V.int
  | [], ss, vs, e, h => by
    have e' : ([] : List Int) = ss := Option.some.inj e
    subst e'
    exact h
  | .int s :: xs, ss, vs, e, h => by
    rw [ints?] at e
    cases q : ints? xs with
    | none => rw [q] at e; simp at e
    | some ts =>
      rw [q] at e
      have e' : s :: ts = ss := by simpa using e
      subst e'
      obtain ⟨v, r, ev, hv, t⟩ := h
      have g1 := ints_rep q t
      have hv' : v = V.int s := hv
      subst ev; subst hv'; subst g1
      rfl
  | .non :: _, _, _, e, _ => by simp [ints?] at e
  | .bl _ :: _, _, _, e, _ => by simp [ints?] at e
  | .str _ :: _, _, _, e, _ => by simp [ints?] at e
  | .tup _ :: _, _, _, e, _ => by simp [ints?] at e
  | .lst _ :: _, _, _, e, _ => by simp [ints?] at e
  | .scr _ :: _, _, _, e, _ => by simp [ints?] at e
  | .dct _ :: _, _, _, e, _ => by simp [ints?] at e
  | .ins _ _ :: _, _, _, e, _ => by simp [ints?] at e
  | .ref _ :: _, _, _, e, _ => by simp [ints?] at e
  | .txt _ :: _, _, _, e, _ => by simp [ints?] at e
theorem bools_rep : ∀ {xs : List PV} {ns : List Bool} {vs : List V}, bools? xs = some ns → RepL K ca μ F xs vs → vs = ns.map V.bl
  | [], ss, vs, e, h => by
    have e' : ([] : List Bool) = ss := Option.some.inj e
    subst e'
    exact h
  | .bl s :: xs, ss, vs, e, h => by
    rw [bools?] at e
    cases q : bools? xs with
    | none => rw [q] at e; simp at e
    | some ts =>
      rw [q] at e
      have e' : s :: ts = ss := by simpa using e
      subst e'
      obtain ⟨v, r, ev, hv, t⟩ := h
      have g1 := bools_rep q t
      have hv' : v = V.bl s := hv
      subst ev; subst hv'; subst g1
      rfl
  | .non :: _, _, _, e, _ => by simp [bools?] at e
  | .int _ :: _, _, _, e, _ => by simp [bools?] at e
  | .str _ :: _, _, _, e, _ => by simp [bools?] at e
  | .tup _ :: _, _, _, e, _ => by simp [bools?] at e
  | .lst _ :: _, _, _, e, _ => by simp [bools?] at e
  | .scr _ :: _, _, _, e, _ => by simp [bools?] at e
  | .dct _ :: _, _, _, e, _ => by simp [bools?] at e
  | .ins _ _ :: _, _, _, e, _ => by simp [bools?] at e
  | .ref _ :: _, _, _, e, _ => by simp [bools?] at e
  | .txt _ :: _, _, _, e, _ => by simp [bools?] at e
end

/-- the store's cells: each one at its own address, not among what is fixed -/
structure SR (K : PySem.W.Frag) (ca : CA) (μ : List Addr) (F H : Hp) (S : Sto) : Prop where
  sub : Same F H
  len : μ.length = S.length
  nd : μ.Nodup
  off : ∀ (n : Nat) (a : Addr), μ[n]? = some a → F a = none ∧ ∃ o, H a = some o
  lst : ∀ (n : Nat) (a : Addr) (xs : List PV), S[n]? = some (.lst xs) → μ[n]? = some a → ∃ vs, H a = some (.lst vs) ∧ RepL K ca μ F xs vs
  dct : ∀ (n : Nat) (a : Addr) (kvs : List (PV × PV)), S[n]? = some (.dct kvs) → μ[n]? = some a → ∃ vs, H a = some (.dK vs) ∧ RepD K ca μ F kvs vs
  ins : ∀ (n : Nat) (a : Addr) (c : String) (fs : List (String × PV)), S[n]? = some (.ins c fs) → μ[n]? = some a → ∃ C dx vs, ca.cls c = some C ∧ H a = some (.ins C dx vs) ∧ RepF K ca μ F fs vs
  hid : ∀ p ∈ ca.hid, H p.1 = some p.2 ∧ F p.1 = none ∧ p.1 ∉ μ

section
variable {K : PySem.W.Frag} {ca : CA} {μ μ' : List Addr} {F F' H H' : Hp} {S : Sto}
theorem SR.rep {x : PV} {v : V} (r : SR K ca μ F H S) (h : Rep K ca μ F x v) : Rep K ca μ H x v := Rep.mono (Ext.refl _) r.sub x v h
theorem SR.repL {x : List PV} {v : List V} (r : SR K ca μ F H S) (h : RepL K ca μ F x v) : RepL K ca μ H x v := RepL.mono (Ext.refl _) r.sub x v h
theorem SR.addr {n : Nat} {c : Cell} (r : SR K ca μ F H S) (e : S[n]? = some c) : ∃ a, μ[n]? = some a := by
  have h := (List.getElem?_eq_some_iff.mp e).1
  rw [← r.len] at h
  exact ⟨μ[n], by rw [List.getElem?_eq_getElem h]⟩
theorem same_upd {p : Addr} {o : HO} (h : H p = none) : Same H (upd H p o) := fun b u e => by
  rw [upd_ne (ne_of_none e h)]; exact e
theorem SR.fresh {p : Addr} (r : SR K ca μ F H S) (h : H p = none) : F p = none := r.sub.free h
/-- a new object that is fixed from now on -/
theorem SR.fix {p : Addr} {o : HO} (r : SR K ca μ F H S) (h : H p = none) : SR K ca μ (upd F p o) (upd H p o) S := by
  have hF := r.fresh h
  have hs : Same F (upd F p o) := same_upd hF
  have ne : ∀ (n : Nat) (a : Addr), μ[n]? = some a → a ≠ p := fun n a e => by
    obtain ⟨_, u, hu⟩ := r.off n a e
    exact ne_of_none hu h
  refine ⟨fun b u e => ?_, r.len, r.nd, fun n a e => ?_, fun n a xs e1 e2 => ?_, fun n a xs e1 e2 => ?_, fun n a c fs e1 e2 => ?_, fun q hq => ?_⟩
  · by_cases hb : b = p
    · subst hb; rw [upd_same] at e; cases e; exact upd_same
    · rw [upd_ne hb] at e ⊢; exact r.sub _ _ e
  · obtain ⟨h1, u, h2⟩ := r.off n a e
    rw [upd_ne (ne n a e), upd_ne (ne n a e)]; exact ⟨h1, u, h2⟩
  · obtain ⟨vs, h1, h2⟩ := r.lst n a xs e1 e2
    exact ⟨vs, by rw [upd_ne (ne n a e2)]; exact h1, RepL.mono (Ext.refl _) hs _ _ h2⟩
  · obtain ⟨vs, h1, h2⟩ := r.dct n a xs e1 e2
    exact ⟨vs, by rw [upd_ne (ne n a e2)]; exact h1, RepD.mono (Ext.refl _) hs _ _ h2⟩
  · obtain ⟨C, dx, vs, h0, h1, h2⟩ := r.ins n a c fs e1 e2
    exact ⟨C, dx, vs, h0, by rw [upd_ne (ne n a e2)]; exact h1, RepF.mono (Ext.refl _) hs _ _ h2⟩
  · obtain ⟨h1, h2, h3⟩ := r.hid q hq
    have hne : q.1 ≠ p := ne_of_none h1 h
    exact ⟨by rw [upd_ne hne]; exact h1, by rw [upd_ne hne]; exact h2, h3⟩
theorem get_app {α : Type} {xs : List α} {y z : α} {n : Nat} (e : (xs ++ [y])[n]? = some z) : xs[n]? = some z ∨ (n = xs.length ∧ z = y) := by
  by_cases h : n < xs.length
  · rw [List.getElem?_append_left h] at e; exact .inl e
  · rw [List.getElem?_append_right (by omega)] at e
    have h0 : n - xs.length = 0 := by
      have := (List.getElem?_eq_some_iff.mp e).1
      simp at this; omega
    rw [h0] at e
    exact .inr ⟨by omega, by simpa using e.symm⟩
/-- a new list that may be changed -/
theorem SR.newL {p : Addr} {xs : List PV} {vs : List V} (r : SR K ca μ F H S) (h : H p = none) (q : RepL K ca μ F xs vs) : SR K ca (μ ++ [p]) F (upd H p (.lst vs)) (S ++ [.lst xs]) := by
  have hF := r.fresh h
  have hs : Same H (upd H p (.lst vs)) := same_upd h
  have ne : ∀ (n : Nat) (a : Addr), μ[n]? = some a → a ≠ p := fun n a e => by
    obtain ⟨_, u, hu⟩ := r.off n a e
    exact ne_of_none hu h
  have hx : Ext μ (μ ++ [p]) := Ext.app _ _
  have sp : ∀ (n : Nat) (a : Addr) (c : Cell), (S ++ [Cell.lst xs])[n]? = some c → (μ ++ [p])[n]? = some a → (S[n]? = some c ∧ μ[n]? = some a) ∨ (c = Cell.lst xs ∧ a = p) := fun n a c e1 e2 => by
    rcases get_app e1 with h1 | ⟨h1, h2⟩
    · rcases get_app e2 with g1 | ⟨g1, g2⟩
      · exact .inl ⟨h1, g1⟩
      · have := (List.getElem?_eq_some_iff.mp h1).1
        rw [← r.len] at this; omega
    · rcases get_app e2 with g1 | ⟨g1, g2⟩
      · have := (List.getElem?_eq_some_iff.mp g1).1
        rw [r.len] at this; omega
      · exact .inr ⟨h2, g2⟩
  refine ⟨r.sub.trans hs, by rw [List.length_append, List.length_append, r.len]; rfl, ?_, fun n a e => ?_, fun n a ys e1 e2 => ?_, fun n a ys e1 e2 => ?_, fun n a c fs e1 e2 => ?_, fun z hz => ?_⟩
  · rw [List.nodup_append]
    refine ⟨r.nd, by simp, fun a ha b hb => ?_⟩
    have hb' : b = p := by simpa using hb
    obtain ⟨n, hn⟩ := List.mem_iff_getElem?.mp ha
    rw [hb']; exact ne n a hn
  · rcases get_app e with e | ⟨_, e⟩
    · obtain ⟨h1, u, h2⟩ := r.off n a e
      exact ⟨h1, u, hs _ _ h2⟩
    · rw [e]; exact ⟨hF, _, upd_same⟩
  · rcases sp n a _ e1 e2 with ⟨e1, e2⟩ | ⟨e1, e2⟩
    · obtain ⟨ws, h1, h2⟩ := r.lst n a ys e1 e2
      exact ⟨ws, hs _ _ h1, RepL.mono hx (Same.refl _) _ _ h2⟩
    · cases e1
      subst e2
      exact ⟨vs, upd_same, RepL.mono hx (Same.refl _) _ _ q⟩
  · rcases sp n a _ e1 e2 with ⟨e1, e2⟩ | ⟨e1, e2⟩
    · obtain ⟨ws, h1, h2⟩ := r.dct n a ys e1 e2
      exact ⟨ws, hs _ _ h1, RepD.mono hx (Same.refl _) _ _ h2⟩
    · cases e1
  · rcases sp n a _ e1 e2 with ⟨e1, e2⟩ | ⟨e1, e2⟩
    · obtain ⟨C, dx, ws, h0, h1, h2⟩ := r.ins n a c fs e1 e2
      exact ⟨C, dx, ws, h0, hs _ _ h1, RepF.mono hx (Same.refl _) _ _ h2⟩
    · cases e1
  · obtain ⟨h1, h2, h3⟩ := r.hid z hz
    exact ⟨hs _ _ h1, h2, fun hm => (List.mem_append.mp hm).elim h3 fun hp => ne_of_none h1 h (List.mem_singleton.mp hp)⟩
/-- a list that is changed -/
theorem SR.setL {n : Nat} {a : Addr} {xs : List PV} {vs : List V} (r : SR K ca μ F H S) (hm : μ[n]? = some a) (q : RepL K ca μ F xs vs) : SR K ca μ F (upd H a (.lst vs)) (S.set n (.lst xs)) := by
  obtain ⟨hF, u, hu⟩ := r.off n a hm
  have hn : n < S.length := by rw [← r.len]; exact (List.getElem?_eq_some_iff.mp hm).1
  have ne : ∀ (m : Nat) (b : Addr), m ≠ n → μ[m]? = some b → b ≠ a := fun m b hmn e z => by
    subst z
    exact hmn ((nd_ix r.nd e hm))
  have sp : ∀ (m : Nat) (b : Addr) (c : Cell), (S.set n (Cell.lst xs))[m]? = some c → μ[m]? = some b → (m ≠ n ∧ S[m]? = some c) ∨ (m = n ∧ c = Cell.lst xs ∧ b = a) := fun m b c e1 e2 => by
    by_cases z : m = n
    · subst z
      rw [List.getElem?_set_self hn] at e1
      rw [hm] at e2
      exact .inr ⟨rfl, (Option.some.inj e1).symm, (Option.some.inj e2).symm⟩
    · rw [List.getElem?_set_ne (Ne.symm z)] at e1
      exact .inl ⟨z, e1⟩
  refine ⟨fun b o e => ?_, by rw [List.length_set]; exact r.len, r.nd, fun m b e => ?_, fun m b ys e1 e2 => ?_, fun m b ys e1 e2 => ?_, fun m b c fs e1 e2 => ?_, fun z hz => ?_⟩
  · rw [upd_ne (ne_of_none e hF)]; exact r.sub _ _ e
  · obtain ⟨h1, w, h2⟩ := r.off m b e
    refine ⟨h1, ?_⟩
    by_cases z : b = a
    · subst z; exact ⟨_, upd_same⟩
    · rw [upd_ne z]; exact ⟨w, h2⟩
  · rcases sp m b _ e1 e2 with ⟨z, e1⟩ | ⟨z, e1, e2⟩
    · obtain ⟨ws, h1, h2⟩ := r.lst m b ys e1 e2
      exact ⟨ws, by rw [upd_ne (ne m b z e2)]; exact h1, h2⟩
    · cases e1
      subst e2
      exact ⟨vs, upd_same, q⟩
  · rcases sp m b _ e1 e2 with ⟨z, e1⟩ | ⟨z, e1, e2⟩
    · obtain ⟨ws, h1, h2⟩ := r.dct m b ys e1 e2
      exact ⟨ws, by rw [upd_ne (ne m b z e2)]; exact h1, h2⟩
    · cases e1
  · rcases sp m b _ e1 e2 with ⟨z, e1⟩ | ⟨z, e1, e2⟩
    · obtain ⟨C, dx, ws, h0, h1, h2⟩ := r.ins m b c fs e1 e2
      exact ⟨C, dx, ws, h0, by rw [upd_ne (ne m b z e2)]; exact h1, h2⟩
    · cases e1
  · obtain ⟨h1, h2, h3⟩ := r.hid z hz
    have hne : z.1 ≠ a := fun e => h3 (by rw [e]; exact List.mem_of_getElem? hm)
    exact ⟨by rw [upd_ne hne]; exact h1, h2, h3⟩

/-- another list of hidden things -/
def CA.with (ca : CA) (h : List (Addr × HO)) : CA := ⟨ca.cls, h⟩
mutual
theorem Rep.ca {h : List (Addr × HO)} : ∀ (x : PV) (v : V), Rep K ca μ F x v → Rep K (ca.with h) μ F x v
  | .non, v, h => h
  | .bl _, v, h => h
  | .int _, v, h => h
  | .str _, v, h => h
  | .tup xs, v, h => by
    obtain ⟨a, vs, e, q, r⟩ := h
    exact ⟨a, vs, e, q, RepL.ca xs vs r⟩
  | .lst xs, v, h => by
    obtain ⟨a, vs, e, q, r⟩ := h
    exact ⟨a, vs, e, q, RepL.ca xs vs r⟩
  | .scr xs, v, h => h
  | .dct kvs, v, h => by
    obtain ⟨a, ks, e, q, r⟩ := h
    exact ⟨a, ks, e, q, RepD.ca kvs ks r⟩
  | .ins c fs, v, h => by
    obtain ⟨a, C, dx, vs, e, hc, q, r⟩ := h
    exact ⟨a, C, dx, vs, e, hc, q, RepF.ca fs vs r⟩
  | .ref n, v, h => h
  | .txt _, v, h => h
theorem RepL.ca {h : List (Addr × HO)} : ∀ (xs : List PV) (vs : List V), RepL K ca μ F xs vs → RepL K (ca.with h) μ F xs vs
  | [], vs, h => h
  | x :: xs, vs, h => by
    obtain ⟨v, r, e, q, t⟩ := h
    exact ⟨v, r, e, Rep.ca x v q, RepL.ca xs r t⟩
theorem RepD.ca {h : List (Addr × HO)} : ∀ (xs : List (PV × PV)) (vs : List (Key × V)), RepD K ca μ F xs vs → RepD K (ca.with h) μ F xs vs
  | [], vs, h => h
  | (k, x) :: xs, vs, h => by
    obtain ⟨kk, v, r, e, hk, q, t⟩ := h
    exact ⟨kk, v, r, e, hk, Rep.ca x v q, RepD.ca xs r t⟩
theorem RepF.ca {h : List (Addr × HO)} : ∀ (xs : List (String × PV)) (vs : List (Str × V)), RepF K ca μ F xs vs → RepF K (ca.with h) μ F xs vs
  | [], vs, h => h
  | (k, x) :: xs, vs, h => by
    obtain ⟨v, r, e, q, t⟩ := h
    exact ⟨v, r, e, Rep.ca x v q, RepF.ca xs r t⟩
end
/-- other hidden things -/
theorem SR.caW {h : List (Addr × HO)} (r : SR K ca μ F H S) (hh : ∀ p ∈ h, H p.1 = some p.2 ∧ F p.1 = none ∧ p.1 ∉ μ) : SR K (ca.with h) μ F H S :=
  ⟨r.sub, r.len, r.nd, r.off, fun n a xs e1 e2 => let ⟨vs, h1, h2⟩ := r.lst n a xs e1 e2; ⟨vs, h1, RepL.ca _ _ h2⟩, fun n a xs e1 e2 => let ⟨vs, h1, h2⟩ := r.dct n a xs e1 e2; ⟨vs, h1, RepD.ca _ _ h2⟩,
    fun n a c fs e1 e2 => let ⟨C, dx, vs, h0, h1, h2⟩ := r.ins n a c fs e1 e2; ⟨C, dx, vs, h0, h1, RepF.ca _ _ h2⟩, hh⟩
theorem CA.with_self : ca.with ca.hid = ca := rfl
theorem CA.with_with {h h' : List (Addr × HO)} : (ca.with h).with h' = ca.with h' := rfl
/-- a thing that no value names is changed -/
theorem SR.hidden {h : List (Addr × HO)} {p : Addr} {o o' : HO} (r : SR K (ca.with ((p, o) :: h)) μ F H S) (hn : ∀ q ∈ h, q.1 ≠ p) : SR K (ca.with ((p, o') :: h)) μ F (upd H p o') S := by
  have hp := r.hid (p, o) List.mem_cons_self
  have nF : ∀ b u, F b = some u → b ≠ p := fun b u e z => by subst z; rw [hp.2.1] at e; cases e
  have nm : ∀ (n : Nat) (a : Addr), μ[n]? = some a → a ≠ p := fun n a e z => by subst z; exact hp.2.2 (List.mem_of_getElem? e)
  refine ⟨fun b u e => by rw [upd_ne (nF b u e)]; exact r.sub _ _ e, r.len, r.nd, fun n a e => ?_, fun n a xs e1 e2 => ?_, fun n a xs e1 e2 => ?_, fun n a c fs e1 e2 => ?_, fun q hq => ?_⟩
  · obtain ⟨h1, u, h2⟩ := r.off n a e
    exact ⟨h1, u, by rw [upd_ne (nm n a e)]; exact h2⟩
  · obtain ⟨vs, h1, h2⟩ := r.lst n a xs e1 e2
    exact ⟨vs, by rw [upd_ne (nm n a e2)]; exact h1, RepL.ca (ca := ca.with ((p, o) :: h)) (h := (p, o') :: h) _ _ h2⟩
  · obtain ⟨vs, h1, h2⟩ := r.dct n a xs e1 e2
    exact ⟨vs, by rw [upd_ne (nm n a e2)]; exact h1, RepD.ca (ca := ca.with ((p, o) :: h)) (h := (p, o') :: h) _ _ h2⟩
  · obtain ⟨C, dx, vs, h0, h1, h2⟩ := r.ins n a c fs e1 e2
    exact ⟨C, dx, vs, h0, by rw [upd_ne (nm n a e2)]; exact h1, RepF.ca (ca := ca.with ((p, o) :: h)) (h := (p, o') :: h) _ _ h2⟩
  · rcases List.mem_cons.mp hq with rfl | hq
    · exact ⟨upd_same, hp.2.1, hp.2.2⟩
    · obtain ⟨h1, h2, h3⟩ := r.hid q (List.mem_cons_of_mem _ hq)
      exact ⟨by rw [upd_ne (hn q hq)]; exact h1, h2, h3⟩
end
end PL
set_option maxRecDepth 100000
set_option maxHeartbeats 4000000
/-! PL1b: operations by values: what wBin, wCmpB, wIx .. want is what the machine's operation wants. -/
namespace PL
open PySem PySem.Spec PyProof.Rows L2

/-- what follows, from a value without addresses -/
def Kv (K : PySem.W.Frag) (ca : CA) (μ : List Addr) (F : Hp) (Q : VK) : K1 := fun x S' => ∀ (v : V) (H' : Hp) (μ' : List Addr) (F' : Hp), Ext μ μ' → Same F F' → SR K ca μ' F' H' S' → Rep K ca μ' F' x v → Q v H'
def KvB (K : PySem.W.Frag) (ca : CA) (μ : List Addr) (F : Hp) (Q : Bool → Hp → Prop) : KB := fun b S' => ∀ (H' : Hp) (μ' : List Addr) (F' : Hp), Ext μ μ' → Same F F' → SR K ca μ' F' H' S' → Q b H'

section
variable {K : PySem.W.Frag} {ca : CA} {μ μ' : List Addr} {F F' H H' : Hp} {S : Sto} {Q : VK} {x y : PV} {v w : V}
theorem line_eq : sizeLine = line := by rw [sizeLine_eq]; rfl
theorem Kv.here (h : Kv K ca μ F Q x S) (r : SR K ca μ F H S) (q : Rep K ca μ F x v) : Q v H := h v H μ F (Ext.refl _) (Same.refl _) r q
theorem Kv.newL {zs : List PV} {us : List V} (h : Kv K ca μ F Q (.lst zs) S) (r : SR K ca μ F H S) (q : RepL K ca μ F zs us) {p : Addr} (hp : H p = none) : Q (.ref p) (upd H p (.lst us)) :=
  h _ _ μ (upd F p (.lst us)) (Ext.refl _) (same_upd (r.fresh hp)) (r.fix hp) ⟨p, us, rfl, upd_same, RepL.mono (Ext.refl _) (same_upd (r.fresh hp)) _ _ q⟩
theorem Kv.newT {zs : List PV} {us : List V} (h : Kv K ca μ F Q (.tup zs) S) (r : SR K ca μ F H S) (q : RepL K ca μ F zs us) {p : Addr} (hp : H p = none) : Q (.ref p) (upd H p (.tup us)) :=
  h _ _ μ (upd F p (.tup us)) (Ext.refl _) (same_upd (r.fresh hp)) (r.fix hp) ⟨p, us, rfl, SqT.of upd_same, RepL.mono (Ext.refl _) (same_upd (r.fresh hp)) _ _ q⟩
theorem Kv.newC {zs : List PV} {us : List V} (h : Kv K ca μ F Q (.ref S.length) (S ++ [.lst zs])) (r : SR K ca μ F H S) (q : RepL K ca μ F zs us) {p : Addr} (hp : H p = none) : Q (.ref p) (upd H p (.lst us)) := by
  refine h _ _ (μ ++ [p]) F (Ext.app _ _) (Same.refl _) (r.newL hp q) ⟨p, ?_, rfl⟩
  rw [← r.len]; simp
theorem Kv.new {m : Bool} {zs : List PV} {us : List V} (h : wNew m S zs (Kv K ca μ F Q)) (r : SR K ca μ F H S) (q : RepL K ca μ F zs us) {p : Addr} (hp : H p = none) : Q (.ref p) (upd H p (.lst us)) := by
  unfold wNew at h
  cases m with
  | true => exact Kv.newC (by simpa using h) r q hp
  | false => exact Kv.newL (by simpa using h) r q hp
theorem Kv.setL {n : Nat} {a : Addr} {zs : List PV} {us : List V} (h : Kv K ca μ F Q x (S.set n (.lst zs))) (r : SR K ca μ F H S) (hm : μ[n]? = some a) (q : RepL K ca μ F zs us) (hx : Rep K ca μ F x v) : Q v (upd H a (.lst us)) :=
  h _ _ μ F (Ext.refl _) (Same.refl _) (r.setL hm q) hx

theorem drf_lst {xs : List PV} (e : drf S x = .lst xs) : x = .lst xs ∨ ∃ n, x = .ref n ∧ S[n]? = some (.lst xs) := by
  cases x with
  | ref n =>
    right
    refine ⟨n, rfl, ?_⟩
    have e : drfC n S[n]? = _ := e
    cases q : S[n]? with
    | none => rw [q] at e; cases e
    | some c =>
      rw [q] at e
      cases c with
      | lst ys => cases e; rfl
      | dct _ => cases e
      | ins _ _ => cases e
      | dead => cases e
  | _ => exact .inl e
theorem drf_dct {xs : List (PV × PV)} (e : drf S x = .dct xs) : x = .dct xs ∨ ∃ n, x = .ref n ∧ S[n]? = some (.dct xs) := by
  cases x with
  | ref n =>
    right
    refine ⟨n, rfl, ?_⟩
    have e : drfC n S[n]? = _ := e
    cases q : S[n]? with
    | none => rw [q] at e; cases e
    | some c =>
      rw [q] at e
      cases c with
      | dct ys => cases e; rfl
      | lst _ => cases e
      | ins _ _ => cases e
      | dead => cases e
  | _ => exact .inl e
theorem drf_ref {n : Nat} {c : PV} (e : drf S (.ref n) = c) (h : ∀ m, c ≠ .ref m) : (∃ xs, c = .lst xs ∧ S[n]? = some (.lst xs)) ∨ (∃ xs, c = .dct xs ∧ S[n]? = some (.dct xs)) ∨ (∃ k fs, c = .ins k fs ∧ S[n]? = some (.ins k fs)) := by
  subst e
  have z : drf S (.ref n) = drfC n S[n]? := rfl
  rw [z] at h ⊢
  cases q : S[n]? with
  | none => rw [q] at h; exact absurd rfl (h n)
  | some c =>
    rw [q] at h
    cases c with
    | lst ys => exact .inl ⟨_, rfl, rfl⟩
    | dct _ => exact .inr (.inl ⟨_, rfl, rfl⟩)
    | ins _ _ => exact .inr (.inr ⟨_, _, rfl, rfl⟩)
    | dead => exact absurd rfl (h n)
theorem SR.asL {xs : List PV} (r : SR K ca μ F H S) (h : Rep K ca μ F x v) (e : drf S x = .lst xs) : ∃ a vs, v = .ref a ∧ H a = some (.lst vs) ∧ RepL K ca μ F xs vs := by
  rcases drf_lst e with e | ⟨n, e, q⟩
  · subst e
    obtain ⟨a, vs, e1, e2, e3⟩ := h
    exact ⟨a, vs, e1, r.sub _ _ e2, e3⟩
  · subst e
    obtain ⟨a, e1, e2⟩ := h
    obtain ⟨vs, h1, h2⟩ := r.lst n a xs q e1
    exact ⟨a, vs, e2, h1, h2⟩
theorem SR.asD {xs : List (PV × PV)} (r : SR K ca μ F H S) (h : Rep K ca μ F x v) (e : drf S x = .dct xs) : ∃ a vs, v = .ref a ∧ H a = some (.dK vs) ∧ RepD K ca μ F xs vs := by
  rcases drf_dct e with e | ⟨n, e, q⟩
  · subst e
    obtain ⟨a, vs, e1, e2, e3⟩ := h
    exact ⟨a, vs, e1, r.sub _ _ e2, e3⟩
  · subst e
    obtain ⟨a, e1, e2⟩ := h
    obtain ⟨vs, h1, h2⟩ := r.dct n a xs q e1
    exact ⟨a, vs, e2, h1, h2⟩
theorem drf_tup {xs : List PV} (e : drf S x = .tup xs) : x = .tup xs := by
  cases x with
  | ref n =>
    rcases drf_ref e (fun m z => by cases z) with ⟨_, z, _⟩ | ⟨_, z, _⟩ | ⟨_, _, z, _⟩ <;> cases z
  | _ => exact e
theorem drf_str {s : List Nat} (e : drf S x = .str s) : x = .str s := by
  cases x with
  | ref n =>
    rcases drf_ref e (fun m z => by cases z) with ⟨_, z, _⟩ | ⟨_, z, _⟩ | ⟨_, _, z, _⟩ <;> cases z
  | _ => exact e
theorem drf_scr {s : List Int} (e : drf S x = .scr s) : x = .scr s := by
  cases x with
  | ref n =>
    rcases drf_ref e (fun m z => by cases z) with ⟨_, z, _⟩ | ⟨_, z, _⟩ | ⟨_, _, z, _⟩ <;> cases z
  | _ => exact e
theorem SR.asT {xs : List PV} (r : SR K ca μ F H S) (h : Rep K ca μ F x v) (e : drf S x = .tup xs) : ∃ a vs, v = .ref a ∧ SqT K F a vs ∧ SqT K H a vs ∧ RepL K ca μ F xs vs := by
  rw [drf_tup e] at h
  obtain ⟨a, vs, e1, e2, e3⟩ := h
  exact ⟨a, vs, e1, e2, sqT_mono r.sub e2, e3⟩
theorem SR.asS {s : List Nat} (r : SR K ca μ F H S) (h : Rep K ca μ F x v) (e : drf S x = .str s) : okS s = true ∧ v = .str (sOf s) := by
  rw [drf_str e] at h
  exact h
theorem SR.asC {s : List Int} (r : SR K ca μ F H S) (h : Rep K ca μ F x v) (e : drf S x = .scr s) : ∃ a, v = .ref a ∧ SqL K H a (s.map V.int) := by
  rw [drf_scr e] at h
  obtain ⟨a, e1, e2⟩ := h
  exact ⟨a, e1, r.sub.seq e2⟩
theorem drf_int {i : Int} (e : drf S x = .int i) : x = .int i := by
  cases x with
  | ref n =>
    rcases drf_ref e (fun m z => by cases z) with ⟨_, z, _⟩ | ⟨_, z, _⟩ | ⟨_, _, z, _⟩ <;> cases z
  | _ => exact e

/-! ### texts -/
theorem sOf_len (s : List Nat) : (sOf s).length = s.length := by simp [sOf, Str.length]
theorem sOf_app (a b : List Nat) : sOf (a ++ b) = sOf a ++ sOf b := by
  show sOf (a ++ b) = Str.append (sOf a) (sOf b)
  simp [sOf, Str.append]
theorem sOf_list (s : List Nat) : (sOf s).cps.toList = s := by simp [sOf]
theorem okS_len {s : List Nat} (h : okS s = true) : s.length ≤ line := by
  unfold okS at h
  rw [Bool.and_eq_true] at h
  exact of_decide_eq_true h.1
theorem okS_all {s : List Nat} (h : okS s = true) : ∀ c ∈ s, c < 1114112 := fun c hc => by
  unfold okS at h
  rw [Bool.and_eq_true, List.all_eq_true] at h
  exact of_decide_eq_true (h.2 c hc)
theorem okS_mk {s : List Nat} (h : s.length ≤ line) (g : ∀ c ∈ s, c < 1114112) : okS s = true := by
  unfold okS
  rw [Bool.and_eq_true, List.all_eq_true]
  exact ⟨decide_eq_true h, fun c hc => decide_eq_true (g c hc)⟩
theorem okS_app {a b : List Nat} (ha : okS a = true) (hb : okS b = true) (h : a.length + b.length ≤ line) : okS (a ++ b) = true := by
  refine okS_mk (by rw [List.length_append]; exact h) fun c hc => ?_
  rcases List.mem_append.mp hc with z | z
  · exact okS_all ha c z
  · exact okS_all hb c z
theorem okS_sub {a b : List Nat} (hb : okS b = true) (h : a.Sublist b) : okS a = true :=
  okS_mk (Nat.le_trans h.length_le (okS_len hb)) fun c hc => okS_all hb c (h.subset hc)
theorem okS_one {s : List Nat} {c : Nat} (h : okS s = true) (hc : c ∈ s) : okS [c] = true :=
  okS_mk (by show 1 ≤ line; decide) fun d hd => by rw [List.mem_singleton.mp hd]; exact okS_all h c hc
theorem sOf_inj {a b : List Nat} (h : sOf a = sOf b) : a = b := by
  have := congrArg (fun z : Str => z.cps.toList) h
  simpa [sOf] using this
end

/-! ### arithmetic -/
def opOf : Bop → Operator
  | .add => .Add | .sub => .Sub | .mul => .Mult | .fdiv => .FloorDiv | .mod => .Mod | .pow => .Pow
theorem mulOk {i j : Int} (h3 : i.natAbs.log2 + j.natAbs.log2 < 100000000) : IntMulOk i j := by
  have b : ∀ x : Int, Builtin.Int.intBits x ≤ x.natAbs.log2 + 1 := fun x => by
    unfold Builtin.Int.intBits
    split <;> omega
  have h1 := b i
  have h2 := b j
  have e : bitsLine = 134217728 := by decide
  unfold IntMulOk
  intro z
  rw [Bool.and_eq_true] at z
  have z2 := z.2
  unfold Builtin.Int.intTooBig at z2
  have z3 := of_decide_eq_true z2
  rw [e] at z3
  omega
theorem op_mulB {X : Cx} : OpR X (binaryOp .Mult) (rI (fun i j => i.natAbs.log2 + j.natAbs.log2 < 100000000) fun i j => .int (i * j)) := opI fun _ _ _ _ _ _ _ hc q => mul_int q (mulOk hc)
def rBin (K : PySem.W.Frag) (ca : CA) (o : Bop) : R2 := fun v w H Q => ∃ μ F S x y, SR K ca μ F H S ∧ Rep K ca μ F x v ∧ Rep K ca μ F y w ∧ wBin o S x y (Kv K ca μ F Q)
section
variable {X : Cx} {ca : CA}
theorem op_bin (o : Bop) : OpR X (binaryOp (opOf o)) (rBin X.K ca o) := by
  intro pins s σ H v w u u' Q I rv rw' h
  obtain ⟨μ, F, S, x, y, r, hx, hy, q⟩ := h
  cases o with
  | add =>
    have q' : wAdd S (drf S x) (drf S y) (Kv X.K ca μ F Q) := q
    generalize ex : drf S x = x' at q'
    generalize ey : drf S y = y' at q'
    unfold wAdd at q'
    split at q'
    · have e1 := drf_int ex
      have e2 := drf_int ey
      subst e1; subst e2
      exact op_add pins s σ H v w u u' Q I rv rw' ⟨_, _, hx, hy, Kv.here q' r rfl⟩
    · obtain ⟨o1, e1⟩ := r.asS hx ex
      obtain ⟨o2, e2⟩ := r.asS hy ey
      subst e1; subst e2
      refine op_add_str pins s σ H _ _ u u' Q I rv rw' ⟨_, _, rfl, rfl, by rw [sOf_len, sOf_len, line_eq]; exact q'.1, ?_⟩
      rw [← sOf_app]
      exact Kv.here q'.2 r ⟨okS_app o1 o2 q'.1, rfl⟩
    · obtain ⟨a, vs, e1, h1, r1⟩ := r.asL hx ex
      obtain ⟨b, ws, e2, h2, r2⟩ := r.asL hy ey
      subst e1; subst e2
      refine op_cat pins s σ H _ _ u u' Q I rv rw' ⟨_, _, _, _, rfl, rfl, h1, h2, by rw [← r1.length, ← r2.length, line_eq]; exact q'.1, fun p hp => ?_⟩
      exact Kv.newL q'.2 r (r1.append r2) hp
    · obtain ⟨a, vs, e1, f1, h1, r1⟩ := r.asT hx ex
      obtain ⟨b, ws, e2, f2, h2, r2⟩ := r.asT hy ey
      subst e1; subst e2
      refine op_catA pins s σ H _ _ u u' Q I rv rw' ⟨_, _, _, _, rfl, rfl, h1, h2, by rw [← r1.length, ← r2.length, line_eq]; exact q'.1, fun z => ?_, fun _ z => ?_, fun _ _ p hp => ?_⟩
      · refine Kv.here q'.2 r ⟨b, ws, rfl, f2, ?_⟩
        have := r1.append r2
        rw [z] at this
        exact this
      · refine Kv.here q'.2 r ⟨a, vs, rfl, f1, ?_⟩
        have := r1.append r2
        rw [z, List.append_nil] at this
        exact this
      · exact Kv.newT q'.2 r (r1.append r2) hp
    · exact q'.elim
  | sub =>
    have q' : wSub S x y (Kv X.K ca μ F Q) := q
    unfold wSub at q'
    split at q'
    · exact op_sub pins s σ H v w u u' Q I rv rw' ⟨_, _, hx, hy, Kv.here q' r rfl⟩
    · exact q'.elim
  | mul =>
    have q' : wMul S (drf S x) y (Kv X.K ca μ F Q) := q
    generalize ex : drf S x = x' at q'
    unfold wMul at q'
    split at q'
    · have e1 := drf_int ex
      subst e1
      exact op_mulB pins s σ H v w u u' Q I rv rw' ⟨_, _, hx, hy, q'.1, Kv.here q'.2 r rfl⟩
    · obtain ⟨a, vs, e1, h1, r1⟩ := r.asL hx ex
      subst e1
      obtain ⟨k1, k2, k3, q'⟩ := q'
      have e2 : w = V.int _ := hy
      subst e2
      refine op_rep pins s σ H _ _ u u' Q I rv rw' ⟨_, _, _, rfl, rfl, h1, by omega, by omega, by rw [← r1.length, line_eq]; exact k3, fun p hp => ?_⟩
      exact Kv.newL q' r (r1.replicate _) hp
    · exact q'.elim
  | fdiv =>
    have q' : wFdiv S x y (Kv X.K ca μ F Q) := q
    unfold wFdiv at q'
    split at q'
    · exact op_fdivW pins s σ H v w u u' Q I rv rw' ⟨_, _, hx, hy, ⟨q'.1, q'.2.1⟩, Kv.here q'.2.2 r rfl⟩
    · exact q'.elim
  | mod =>
    have q' : wMod S x y (Kv X.K ca μ F Q) := q
    unfold wMod at q'
    split at q'
    · exact op_mod pins s σ H v w u u' Q I rv rw' ⟨_, _, hx, hy, q'.1, Kv.here q'.2 r rfl⟩
    · exact q'.elim
  | pow =>
    have q' : wPow S x y (Kv X.K ca μ F Q) := q
    unfold wPow at q'
    split at q'
    · exact op_pow pins s σ H v w u u' Q I rv rw' ⟨_, _, hx, hy, ⟨q'.1, q'.2.1, q'.2.2.1⟩, Kv.here q'.2.2.2 r rfl⟩
    · exact q'.elim
def rNegR (K : PySem.W.Frag) (ca : CA) : V → Hp → VK → Prop := fun v H Q => ∃ μ F S x, SR K ca μ F H S ∧ Rep K ca μ F x v ∧ wNeg S x (Kv K ca μ F Q)
theorem un_ok : UnR X (unaryOp .USub) (rNegR X.K ca) := by
  intro pins s σ H v u Q I rv h
  obtain ⟨μ, F, S, x, r, hx, q⟩ := h
  unfold wNeg at q
  split at q
  · exact un_neg pins s σ H v u Q I rv ⟨_, hx, Kv.here q r rfl⟩
  · exact q.elim
end

/-! ### data -/
mutual
theorem toD_eqv : ∀ x y : PV, isData x = true → isData y = true → PyData.eqv (toD x) (toD y) = eqv x y
  | .non, y, _, hy => by cases y <;> first | rfl | (simp [isData] at hy)
  | .bl a, y, _, hy => by cases y <;> first | rfl | (simp [isData] at hy)
  | .int a, y, _, hy => by cases y <;> first | rfl | (simp [isData] at hy)
  | .str a, y, _, hy => by
    cases y with
    | str b =>
      show (sOf a == sOf b) = (a == b)
      rw [Bool.eq_iff_iff, beq_iff_eq, beq_iff_eq]
      exact ⟨sOf_inj, fun h => by rw [h]⟩
    | _ => first | rfl | (simp [isData] at hy)
  | .tup xs, y, hx, hy => by
    cases y with
    | tup ys =>
      show PyData.eqv (.tuple (toDL xs)) (.tuple (toDL ys)) = eqvL xs ys
      rw [PyData.eqv]
      exact toDL_eqv xs ys (by simpa [isData] using hx) (by simpa [isData] using hy)
    | _ => first | rfl | (simp [isData] at hy)
  | .lst xs, y, hx, hy => by
    cases y with
    | lst ys =>
      show PyData.eqv (.list (toDL xs)) (.list (toDL ys)) = eqvL xs ys
      rw [PyData.eqv]
      exact toDL_eqv xs ys (by simpa [isData] using hx) (by simpa [isData] using hy)
    | _ => first | rfl | (simp [isData] at hy)
  | .scr _, _, hx, _ => by simp [isData] at hx
  | .dct _, _, hx, _ => by simp [isData] at hx
  | .ins _ _, _, hx, _ => by simp [isData] at hx
  | .ref _, _, hx, _ => by simp [isData] at hx
  | .txt _, _, hx, _ => by simp [isData] at hx
theorem toDL_eqv : ∀ xs ys : List PV, isDataL xs = true → isDataL ys = true → PyData.eqvAll (toDL xs) (toDL ys) = eqvL xs ys
  | [], [], _, _ => rfl
  | [], _ :: _, _, _ => rfl
  | _ :: _, [], _, _ => rfl
  | x :: xs, y :: ys, hx, hy => by
    rw [isDataL, Bool.and_eq_true] at hx hy
    show PyData.eqvAll (toD x :: toDL xs) (toD y :: toDL ys) = eqvL (x :: xs) (y :: ys)
    rw [PyData.eqvAll, eqvL, toD_eqv x y hx.1 hy.1, toDL_eqv xs ys hx.2 hy.2]
end
mutual
theorem toD_depth : ∀ x : PV, isData x = true → (toD x).depth = depth x
  | .non, _ => rfl | .bl _, _ => rfl | .int _, _ => rfl | .str _, _ => rfl
  | .tup xs, h => by
    show PyData.depthAll (toDL xs) + 1 = depthL xs + 1
    rw [toDL_depth xs (by simpa [isData] using h)]
  | .lst xs, h => by
    show PyData.depthAll (toDL xs) + 1 = depthL xs + 1
    rw [toDL_depth xs (by simpa [isData] using h)]
  | .scr _, h => by simp [isData] at h
  | .dct _, h => by simp [isData] at h
  | .ins _ _, h => by simp [isData] at h
  | .ref _, h => by simp [isData] at h
  | .txt _, h => by simp [isData] at h
theorem toDL_depth : ∀ xs : List PV, isDataL xs = true → PyData.depthAll (toDL xs) = depthL xs
  | [], _ => rfl
  | x :: xs, h => by
    rw [isDataL, Bool.and_eq_true] at h
    show max (toD x).depth (PyData.depthAll (toDL xs)) = max (depth x) (depthL xs)
    rw [toD_depth x h.1, toDL_depth xs h.2]
end
section
variable {K : PySem.W.Frag} {ca : CA} {μ : List Addr} {F H : Hp}
theorem strOk_of {s : List Nat} (h : okS s = true) : PyData.strOk (sOf s) = true := by
  unfold PyData.strOk sOf
  rw [Array.all_eq_true]
  intro i hi
  exact decide_eq_true (okS_all h _ (by simp))
mutual
theorem rep_dp : ∀ (x : PV) (v : V), isData x = true → Rep K ca μ H x v → Dp K H v (toD x) ∧ (toD x).canLay0 = true
  | .non, v, _, h => by
    have e : v = V.non := h
    subst e; exact ⟨.non, rfl⟩
  | .bl b, v, _, h => by
    have e : v = V.bl b := h
    subst e; exact ⟨.bl b, rfl⟩
  | .int i, v, _, h => by
    have e : v = V.int i := h
    subst e; exact ⟨.int i, rfl⟩
  | .str s, v, _, h => by
    obtain ⟨o, e⟩ := h
    subst e; exact ⟨.str _, strOk_of o⟩
  | .tup xs, v, d, h => by
    obtain ⟨a, vs, e, q, t⟩ := h
    subst e
    obtain ⟨g1, g2⟩ := rep_dpL xs vs (by simpa [isData] using d) t
    exact ⟨.tup q g1, g2⟩
  | .lst xs, v, d, h => by
    obtain ⟨a, vs, e, q, t⟩ := h
    subst e
    obtain ⟨g1, g2⟩ := rep_dpL xs vs (by simpa [isData] using d) t
    exact ⟨.lst (SqL.of q) g1, g2⟩
  | .scr _, _, d, _ => by simp [isData] at d
  | .dct _, _, d, _ => by simp [isData] at d
  | .ins _ _, _, d, _ => by simp [isData] at d
  | .ref _, _, d, _ => by simp [isData] at d
  | .txt _, _, d, _ => by simp [isData] at d
theorem rep_dpL : ∀ (xs : List PV) (vs : List V), isDataL xs = true → RepL K ca μ H xs vs → DpAll K H vs (toDL xs) ∧ PyData.canLayAll0 (toDL xs) = true
  | [], vs, _, h => by
    have e : vs = [] := h
    subst e; exact ⟨.nil, rfl⟩
  | x :: xs, vs, d, h => by
    rw [isDataL, Bool.and_eq_true] at d
    obtain ⟨v, r, e, q, t⟩ := h
    subst e
    obtain ⟨g1, g2⟩ := rep_dp x v d.1 q
    obtain ⟨f1, f2⟩ := rep_dpL xs r d.2 t
    exact ⟨.cons g1 f1, by show (PyData.canLay0 _ && PyData.canLayAll0 _) = true; rw [g2, f2]; rfl⟩
end
theorem okData_shaped {x : PV} {v : V} (h : okData x = true) (q : Rep K ca μ H x v) : Dp K H v (toD x) ∧ SeqAt.shaped (toD x) = true := by
  unfold okData at h
  rw [Bool.and_eq_true] at h
  obtain ⟨g1, g2⟩ := rep_dp x v h.1 q
  refine ⟨g1, ?_⟩
  unfold SeqAt.shaped
  rw [Bool.and_eq_true]
  refine ⟨g2, decide_eq_true ?_⟩
  rw [toD_depth x h.1]
  have := of_decide_eq_true h.2
  omega
theorem okData_data {x : PV} (h : okData x = true) : isData x = true := by
  unfold okData at h
  rw [Bool.and_eq_true] at h
  exact h.1
theorem SR.drfRep {S : Sto} {x : PV} {v : V} (r : SR K ca μ F H S) (h : Rep K ca μ F x v) : Rep K ca μ H (drf S x) v := by
  cases x with
  | ref n =>
    have hh := h
    obtain ⟨a, e1, e2⟩ := h
    show Rep K ca μ H (drfC n S[n]?) v
    cases q : S[n]? with
    | none => exact Rep.mono (Ext.refl _) r.sub _ _ hh
    | some c =>
      cases c with
      | lst xs =>
        obtain ⟨vs, h1, h2⟩ := r.lst n a xs q e1
        exact ⟨a, vs, e2, h1, RepL.mono (Ext.refl _) r.sub _ _ h2⟩
      | dct xs =>
        obtain ⟨vs, h1, h2⟩ := r.dct n a xs q e1
        exact ⟨a, vs, e2, h1, RepD.mono (Ext.refl _) r.sub _ _ h2⟩
      | ins c fs =>
        obtain ⟨C, dx, vs, h0, h1, h2⟩ := r.ins n a c fs q e1
        exact ⟨a, C, dx, vs, e2, h0, h1, RepF.mono (Ext.refl _) r.sub _ _ h2⟩
      | dead => exact Rep.mono (Ext.refl _) r.sub _ _ hh
  | _ => exact Rep.mono (Ext.refl _) r.sub _ _ h
theorem flat_rep {x : PV} {v : V} (h : Rep K ca μ F x v) (f : flat x = true) : flatV v = true := by
  cases x with
  | non => have e : v = V.non := h; subst e; rfl
  | bl b => have e : v = V.bl b := h; subst e; rfl
  | int b => have e : v = V.int b := h; subst e; rfl
  | str b => obtain ⟨_, e⟩ := h; subst e; rfl
  | _ => exact absurd (show false = true from f) Bool.false_ne_true
theorem flat_eqv {x y : PV} {v w : V} (h : Rep K ca μ F x v) (g : Rep K ca μ F y w) (f : flat x = true) (f' : flat y = true) : eqV v w = eqv x y := by
  cases x with
  | non =>
    have e : v = V.non := h; subst e
    cases y with
    | non => have e : w = V.non := g; subst e; rfl
    | bl b => have e : w = V.bl b := g; subst e; rfl
    | int b => have e : w = V.int b := g; subst e; rfl
    | str b => obtain ⟨_, e⟩ := g; subst e; rfl
    | _ => exact absurd (show false = true from f') Bool.false_ne_true
  | bl a =>
    have e : v = V.bl a := h; subst e
    cases y with
    | non => have e : w = V.non := g; subst e; rfl
    | bl b => have e : w = V.bl b := g; subst e; rfl
    | int b => have e : w = V.int b := g; subst e; rfl
    | str b => obtain ⟨_, e⟩ := g; subst e; rfl
    | _ => exact absurd (show false = true from f') Bool.false_ne_true
  | int a =>
    have e : v = V.int a := h; subst e
    cases y with
    | non => have e : w = V.non := g; subst e; rfl
    | bl b => have e : w = V.bl b := g; subst e; rfl
    | int b => have e : w = V.int b := g; subst e; rfl
    | str b => obtain ⟨_, e⟩ := g; subst e; rfl
    | _ => exact absurd (show false = true from f') Bool.false_ne_true
  | str a =>
    obtain ⟨_, e⟩ := h; subst e
    cases y with
    | non => have e : w = V.non := g; subst e; rfl
    | bl b => have e : w = V.bl b := g; subst e; rfl
    | int b => have e : w = V.int b := g; subst e; rfl
    | str b =>
      obtain ⟨_, e⟩ := g; subst e
      show (sOf a == sOf b) = (a == b)
      rw [Bool.eq_iff_iff, beq_iff_eq, beq_iff_eq]
      exact ⟨sOf_inj, fun h => by rw [h]⟩
    | _ => exact absurd (show false = true from f') Bool.false_ne_true
  | _ => exact absurd (show false = true from f) Bool.false_ne_true
theorem any_eqv {x : PV} {v : V} (h : Rep K ca μ F x v) (f : flat x = true) : ∀ {ys : List PV} {ws : List V}, RepL K ca μ F ys ws → ys.all flat = true → ws.all flatV = true ∧ inV v ws = ys.any fun z => eqv z x
  | [], ws, q, _ => by rw [show ws = [] from q]; exact ⟨rfl, rfl⟩
  | y :: ys, ws, q, a => by
    obtain ⟨w, r, e, q1, t⟩ := q
    subst e
    rw [List.all_cons, Bool.and_eq_true] at a
    obtain ⟨g1, g2⟩ := any_eqv h f t a.2
    refine ⟨by rw [List.all_cons, flat_rep q1 a.1, g1]; rfl, ?_⟩
    unfold inV at g2 ⊢
    rw [List.any_cons, List.any_cons, g2, flat_eqv q1 h a.1 f]
theorem any_toD {x : PV} (hx : isData x = true) : ∀ ys : List PV, isDataL ys = true → ((toDL ys).any fun z => PyData.eqv z (toD x)) = ys.any fun z => eqv z x
  | [], _ => rfl
  | y :: ys, h => by
    rw [isDataL, Bool.and_eq_true] at h
    show ((toD y :: toDL ys).any fun z => PyData.eqv z (toD x)) = (y :: ys).any fun z => eqv z x
    rw [List.any_cons, List.any_cons, any_toD hx ys h.2, toD_eqv y x h.1 hx]
end
end PL
set_option maxRecDepth 100000
set_option maxHeartbeats 4000000
/-! PL1c: comparisons, subscripts, slices by values. -/
namespace PL
open PySem PySem.Spec PyProof.Rows L2

theorem wEq_mono {S : Sto} {x y : PV} {k k' : Bool → Prop} (h : wEq S x y k) (g : ∀ b, k b → k' b) : wEq S x y k' := by
  unfold wEq at h ⊢
  generalize drf S x = x' at h ⊢
  generalize drf S y = y' at h ⊢
  unfold eqW at h ⊢
  split at h
  · exact ⟨h.1, g _ h.2⟩
  · exact ⟨h.1, h.2.1, g _ h.2.2⟩
theorem wIn_mono {S : Sto} {x y : PV} {k k' : Bool → Prop} (h : wIn S x y k) (g : ∀ b, k b → k' b) : wIn S x y k' := by
  unfold wIn at h ⊢
  split at h
  · split at h
    · exact g _ h
    · exact h.elim
  · exact ⟨h.1, g _ h.2⟩
  · exact ⟨h.1, g _ h.2⟩
  · exact h.elim
theorem wLt_mono {x y : PV} {k k' : Bool → Prop} (h : wLt x y k) (g : ∀ b, k b → k' b) : wLt x y k' := by
  unfold wLt at h ⊢
  split at h
  · exact g _ h
  · exact g _ h
  · exact h.elim
theorem wIs_mono {x y : PV} {k k' : Bool → Prop} (h : wIs x y k) (g : ∀ b, k b → k' b) : wIs x y k' := by
  unfold wIs at h ⊢
  split at h <;> first | exact g _ h | exact h.elim
theorem wCmpB_mono {o : Cop} {S : Sto} {x y : PV} {k k' : Bool → Prop} (h : wCmpB o S x y k) (g : ∀ b, k b → k' b) : wCmpB o S x y k' := by
  cases o with
  | eq =>
    have h' : wEq S x y k := h
    exact (wEq_mono h' g : wEq S x y k')
  | ne =>
    have h' : wEq S x y fun b => k (!b) := h
    have : wEq S x y fun b => k' (!b) := wEq_mono h' fun b => g _
    exact this
  | lt => exact (wLt_mono (show wLt x y k from h) g : wLt x y k')
  | gt => exact (wLt_mono (show wLt y x k from h) g : wLt y x k')
  | le => exact (wLt_mono (show wLt y x (fun b => k (!b)) from h) fun b => g _ : wLt y x fun b => k' (!b))
  | ge => exact (wLt_mono (show wLt x y (fun b => k (!b)) from h) fun b => g _ : wLt x y fun b => k' (!b))
  | in_ => exact (wIn_mono (show wIn S (drf S x) (drf S y) k from h) g : wIn S (drf S x) (drf S y) k')
  | nin => exact (wIn_mono (show wIn S (drf S x) (drf S y) (fun b => k (!b)) from h) fun b => g _ : wIn S (drf S x) (drf S y) fun b => k' (!b))
  | is_ => exact (wIs_mono (show wIs x y k from h) g : wIs x y k')
  | isn => exact (wIs_mono (show wIs x y (fun b => k (!b)) from h) fun b => g _ : wIs x y fun b => k' (!b))

def copOf : Cop → CmpOp
  | .eq => .Eq | .ne => .NotEq | .lt => .Lt | .le => .LtE | .gt => .Gt | .ge => .GtE | .in_ => .In | .nin => .NotIn | .is_ => .Is | .isn => .IsNot
def rCmp (K : PySem.W.Frag) (ca : CA) (o : Cop) : R2 := fun v w H Q => ∃ μ F S x y, SR K ca μ F H S ∧ Rep K ca μ F x v ∧ Rep K ca μ F y w ∧ wCmpB o S x y fun b => Q (.bl b) H
section
variable {X : Cx} {ca : CA}
theorem rep_ne_non {K : PySem.W.Frag} {μ : List Addr} {F : Hp} {x : PV} {v : V} (h : Rep K ca μ F x v) (hx : x ≠ .non) : v ≠ V.non := by
  cases x with
  | non => exact absurd rfl hx
  | bl _ => have e : v = V.bl _ := h; subst e; exact fun z => by cases z
  | int _ => have e : v = V.int _ := h; subst e; exact fun z => by cases z
  | str _ => obtain ⟨_, e⟩ := h; subst e; exact fun z => by cases z
  | tup _ => obtain ⟨_, _, e, _⟩ := h; subst e; exact fun z => by cases z
  | lst _ => obtain ⟨_, _, e, _⟩ := h; subst e; exact fun z => by cases z
  | scr _ => obtain ⟨_, e, _⟩ := h; subst e; exact fun z => by cases z
  | dct _ => obtain ⟨_, _, e, _⟩ := h; subst e; exact fun z => by cases z
  | ins _ _ => obtain ⟨_, _, _, _, e, _⟩ := h; subst e; exact fun z => by cases z
  | ref _ => obtain ⟨_, _, e⟩ := h; subst e; exact fun z => by cases z
  | txt _ => have e : v = V.str _ := h; subst e; exact fun z => by cases z
theorem eqW_cases {x y : PV} {k : Bool → Prop} (h : eqW x y k) : (∃ a, x = .txt a ∧ y = .txt a ∧ k true) ∨ (okData x = true ∧ okData y = true ∧ k (eqv x y)) := by
  unfold eqW at h
  split at h
  · obtain ⟨e, h⟩ := h
    subst e
    exact .inl ⟨_, rfl, rfl, h⟩
  · exact .inr h
theorem wIs_cases {x y : PV} {k : Bool → Prop} (h : wIs x y k) : (y = .non ∧ x = .non ∧ k true) ∨ (y = .non ∧ x ≠ .non ∧ k false) ∨ ∃ a b, x = .bl a ∧ y = .bl b ∧ k (a == b) := by
  unfold wIs at h
  split at h
  · exact .inl ⟨rfl, rfl, h⟩
  · exact .inr (.inr ⟨_, _, rfl, rfl, h⟩)
  all_goals first | exact .inr (.inl ⟨rfl, (fun z => by cases z), h⟩) | exact False.elim h
theorem is_ok (pins : List (Addr × Obj)) (s : Shared) (σ : L2.St) (H : Hp) (neg : Bool) {K : PySem.W.Frag} {μ : List Addr} {F : Hp} {x y : PV} {v w : V} {u u' : Value} {Q : VK} (I : Inv X pins σ H s) (rv : RelV v u) (rw' : RelV w u')
    (hx : Rep K ca μ F x v) (hy : Rep K ca μ F y w) (h : wIs x y fun b => Q (.bl (if neg then !b else b)) H) :
    wpAny (model X.prog X.w) X.A (compareOp (if neg then .IsNot else .Is) u u') (EP X pins σ Q) X.xe s := by
  rcases wIs_cases h with ⟨e1, e2, q⟩ | ⟨e1, e2, q⟩ | ⟨a, b, e1, e2, q⟩
  · subst e1; subst e2
    have f1 : v = V.non := hx
    have f2 : w = V.non := hy
    subst f1; subst f2
    cases neg with
    | true => exact op_notN pins s σ H _ _ u u' Q I rv rw' ⟨rfl, by simpa using q⟩
    | false => exact op_isN pins s σ H _ _ u u' Q I rv rw' ⟨rfl, by simpa using q⟩
  · subst e1
    have f2 : w = V.non := hy
    subst f2
    have f1 : v ≠ V.non := rep_ne_non hx e2
    cases neg with
    | true => exact op_notN pins s σ H _ _ u u' Q I rv rw' ⟨rfl, by rw [decide_eq_false f1]; exact q⟩
    | false => exact op_isN pins s σ H _ _ u u' Q I rv rw' ⟨rfl, by rw [decide_eq_false f1]; exact q⟩
  · subst e1; subst e2
    have f1 : v = V.bl a := hx
    have f2 : w = V.bl b := hy
    subst f1; subst f2
    have z : decide (a = b) = (a == b) := (Bool.beq_eq_decide_eq a b).symm
    cases neg with
    | true => exact op_notBl pins s σ H _ _ u u' Q I rv rw' ⟨_, _, rfl, rfl, by rw [z]; exact q⟩
    | false => exact op_isBl pins s σ H _ _ u u' Q I rv rw' ⟨_, _, rfl, rfl, by rw [z]; exact q⟩
theorem wLt_cases {x y : PV} {k : Bool → Prop} (h : wLt x y k) : (∃ i j, x = .int i ∧ y = .int j ∧ k (decide (i < j))) ∨ ∃ a b, x = .str a ∧ y = .str b ∧ k (ltS a b) := by
  unfold wLt at h
  split at h
  · exact .inl ⟨_, _, rfl, rfl, h⟩
  · exact .inr ⟨_, _, rfl, rfl, h⟩
  · exact h.elim
theorem le_not {i j : Int} : decide (i ≤ j) = !decide (j < i) := by
  by_cases h : i ≤ j
  · rw [decide_eq_true h, decide_eq_false (by omega)]; rfl
  · rw [decide_eq_false h, decide_eq_true (by omega)]; rfl
theorem in_ok (hu : X.A.units + 65 < cLine) (pins : List (Addr × Obj)) (s : Shared) (σ : L2.St) (H : Hp) (neg : Bool) {μ : List Addr} {F : Hp} {S : Sto} {x y : PV} {v w : V} {u u' : Value} {Q : VK} (I : Inv X pins σ H s) (rv : RelV v u) (rw' : RelV w u')
    (r : SR X.K ca μ F H S) (hx : Rep X.K ca μ F x v) (hy : Rep X.K ca μ F y w) (h : wIn S (drf S x) (drf S y) fun b => Q (.bl (if neg then !b else b)) H) :
    wpAny (model X.prog X.w) X.A (compareOp (if neg then .NotIn else .In) u u') (EP X pins σ Q) X.xe s := by
  generalize ex : drf S x = x' at h
  generalize ey : drf S y = y' at h
  have dx : Rep X.K ca μ H x' v := ex ▸ r.drfRep hx
  have fx : ∀ {c : List Nat}, x' = .str c → x = .str c := fun {c} e => drf_str (ex.trans e)
  unfold wIn at h
  split at h
  · split at h
    · obtain ⟨_, e1⟩ := dx
      obtain ⟨_, e2⟩ := r.asS hy ey
      subst e1; subst e2
      cases neg with
      | true => exact op_notIn_sign pins s σ H _ _ u u' Q I rv rw' ⟨_, _, rfl, rfl, by rw [sOf_list]; exact h⟩
      | false => exact op_in_sign pins s σ H _ _ u u' Q I rv rw' ⟨_, _, rfl, rfl, by rw [sOf_list]; exact h⟩
    · exact h.elim
  · obtain ⟨a, vs, e2, h2, r2⟩ := r.asL hy ey
    subst e2
    have r3 : RepL X.K ca μ H _ vs := r.repL r2
    rcases h.1 with ⟨f1, f2⟩ | ⟨d1, d2⟩
    · obtain ⟨g1, g2⟩ := any_eqv dx f1 r3 f2
      have g0 := flat_rep dx f1
      cases neg with
      | true => exact op_notIn_seq pins s σ H _ _ u u' Q I rv rw' ⟨a, vs, rfl, .inl (SqL.of h2), g0, g1, by rw [g2]; exact h.2⟩
      | false => exact op_in_seq pins s σ H _ _ u u' Q I rv rw' ⟨a, vs, rfl, .inl (SqL.of h2), g0, g1, by rw [g2]; exact h.2⟩
    · obtain ⟨p1, p2⟩ := okData_shaped d1 dx
      obtain ⟨q1, q2⟩ := okData_shaped d2 (show Rep X.K ca μ H (.lst _) (.ref a) from ⟨a, vs, rfl, h2, r3⟩)
      have z := any_toD (okData_data d1) _ (by simpa [isData] using okData_data d2)
      cases neg with
      | true => exact op_notInD hu pins s σ H _ _ u u' Q I rv rw' ⟨_, _, p1, q1, p2, q2, by rw [z]; exact h.2⟩
      | false => exact op_inD hu pins s σ H _ _ u u' Q I rv rw' ⟨_, _, p1, q1, p2, q2, by rw [z]; exact h.2⟩
  · obtain ⟨a, vs, e2, _, h2, r2⟩ := r.asT hy ey
    subst e2
    have r3 : RepL X.K ca μ H _ vs := r.repL r2
    obtain ⟨f1, f2⟩ := h.1
    obtain ⟨g1, g2⟩ := any_eqv dx f1 r3 f2
    have g0 := flat_rep dx f1
    cases neg with
    | true => exact op_notIn_seq pins s σ H _ _ u u' Q I rv rw' ⟨a, vs, rfl, .inr h2, g0, g1, by rw [g2]; exact h.2⟩
    | false => exact op_in_seq pins s σ H _ _ u u' Q I rv rw' ⟨a, vs, rfl, .inr h2, g0, g1, by rw [g2]; exact h.2⟩
  · exact h.elim
theorem op_cmp (o : Cop) (hu : X.A.units + 65 < cLine) : OpR X (compareOp (copOf o)) (rCmp X.K ca o) := by
  intro pins s σ H v w u u' Q I rv rw' h
  obtain ⟨μ, F, S, x, y, r, hx, hy, q⟩ := h
  have hu64 : X.A.units + 64 < cLine := by omega
  cases o with
  | eq =>
    have q' : eqW (drf S x) (drf S y) fun b => Q (.bl b) H := q
    have hx' := r.drfRep hx
    have hy' := r.drfRep hy
    rcases eqW_cases q' with ⟨a, e1, e2, q'⟩ | ⟨d1, d2, q'⟩
    · rw [e1] at hx'; rw [e2] at hy'
      have f1 : v = V.str _ := hx'
      have f2 : w = V.str _ := hy'
      subst f1; subst f2
      exact op_eq pins s σ H _ _ u u' Q I rv rw' ⟨rfl, by rw [decide_eq_true rfl]; exact q'⟩
    · obtain ⟨p1, p2⟩ := okData_shaped d1 hx'
      obtain ⟨q1, q2⟩ := okData_shaped d2 hy'
      exact op_eqD hu64 pins s σ H v w u u' Q I rv rw' ⟨_, _, p1, q1, p2, q2, by rw [toD_eqv _ _ (okData_data d1) (okData_data d2)]; exact q'⟩
  | ne =>
    have q' : eqW (drf S x) (drf S y) fun b => Q (.bl (!b)) H := q
    have hx' := r.drfRep hx
    have hy' := r.drfRep hy
    rcases eqW_cases q' with ⟨a, e1, e2, q'⟩ | ⟨d1, d2, q'⟩
    · rw [e1] at hx'; rw [e2] at hy'
      have f1 : v = V.str _ := hx'
      have f2 : w = V.str _ := hy'
      subst f1; subst f2
      exact op_ne pins s σ H _ _ u u' Q I rv rw' ⟨rfl, by rw [decide_eq_true rfl]; exact q'⟩
    · obtain ⟨p1, p2⟩ := okData_shaped d1 hx'
      obtain ⟨q1, q2⟩ := okData_shaped d2 hy'
      exact op_neD hu64 pins s σ H v w u u' Q I rv rw' ⟨_, _, p1, q1, p2, q2, by rw [toD_eqv _ _ (okData_data d1) (okData_data d2)]; exact q'⟩
  | lt =>
    rcases wLt_cases q with ⟨i, j, e1, e2, q'⟩ | ⟨a, b, e1, e2, q'⟩
    · subst e1; subst e2
      exact op_lt pins s σ H v w u u' Q I rv rw' ⟨_, _, hx, hy, q'⟩
    · subst e1; subst e2
      obtain ⟨_, f1⟩ := hx
      obtain ⟨_, f2⟩ := hy
      exact op_lt_str pins s σ H v w u u' Q I rv rw' ⟨_, _, f1, f2, by rw [sOf_list, sOf_list]; exact q'⟩
  | gt =>
    rcases wLt_cases q with ⟨i, j, e1, e2, q'⟩ | ⟨a, b, e1, e2, q'⟩
    · subst e1; subst e2
      exact op_gt pins s σ H v w u u' Q I rv rw' ⟨_, _, hx, hy, q'⟩
    · subst e1; subst e2
      obtain ⟨_, f1⟩ := hx
      obtain ⟨_, f2⟩ := hy
      exact op_gt_str pins s σ H v w u u' Q I rv rw' ⟨_, _, f1, f2, by rw [sOf_list, sOf_list]; exact q'⟩
  | le =>
    rcases wLt_cases q with ⟨i, j, e1, e2, q'⟩ | ⟨a, b, e1, e2, q'⟩
    · subst e1; subst e2
      exact op_le pins s σ H v w u u' Q I rv rw' ⟨_, _, hx, hy, (by show Q (V.bl (decide (_ ≤ _))) H; rw [le_not]; exact q')⟩
    · subst e1; subst e2
      obtain ⟨_, f1⟩ := hx
      obtain ⟨_, f2⟩ := hy
      exact op_le_str pins s σ H v w u u' Q I rv rw' ⟨_, _, f1, f2, by rw [sOf_list, sOf_list]; exact q'⟩
  | ge =>
    rcases wLt_cases q with ⟨i, j, e1, e2, q'⟩ | ⟨a, b, e1, e2, q'⟩
    · subst e1; subst e2
      exact op_ge pins s σ H v w u u' Q I rv rw' ⟨_, _, hx, hy, (by show Q (V.bl (decide (_ ≤ _))) H; rw [le_not]; exact q')⟩
    · subst e1; subst e2
      obtain ⟨_, f1⟩ := hx
      obtain ⟨_, f2⟩ := hy
      exact op_ge_str pins s σ H v w u u' Q I rv rw' ⟨_, _, f1, f2, by rw [sOf_list, sOf_list]; exact q'⟩
  | is_ => exact is_ok (ca := ca) pins s σ H false I rv rw' hx hy q
  | isn => exact is_ok (ca := ca) pins s σ H true I rv rw' hx hy q
  | in_ => exact in_ok hu pins s σ H false I rv rw' r hx hy q
  | nin => exact in_ok hu pins s σ H true I rv rw' r hx hy q

/-! ### subscripts, slices -/
theorem ixN_eq : PL.ixN = L2.ixN := rfl
theorem sIx_eq (n d : Nat) (o : Option Int) : PL.sIx n d o = HT.sIx n d o := by cases o <;> rfl
theorem cut_eq (vs : List V) (lo hi : Option Int) : cutV vs lo hi = cut vs lo hi := by
  unfold cutV cut
  rw [sIx_eq, sIx_eq]
def rIxP (K : PySem.W.Frag) (ca : CA) : R2 := fun v w H Q => ∃ μ F S x y, SR K ca μ F H S ∧ Rep K ca μ F x v ∧ Rep K ca μ F y w ∧ (∀ kvs, drf S x ≠ .dct kvs) ∧ wIx S y (drf S x) (Kv K ca μ F Q)
theorem bind_ix {α : Type} {xs : List α} {i : Int} {v : α} (h : (PL.ixN xs.length i).bind (xs[·]?) = some v) : ∃ j, PL.ixN xs.length i = some j ∧ xs[j]? = some v := by
  cases e : PL.ixN xs.length i with
  | none => rw [e] at h; cases h
  | some j => rw [e] at h; exact ⟨j, rfl, h⟩
theorem ix_ok : IxR X (rIxP X.K ca) := by
  intro value slice pins s σ H v w u u' Q I rv rw' h hs
  obtain ⟨μ, F, S, x, y, r, hx, hy, nd, q⟩ := h
  generalize ex : drf S x = x' at q nd
  have key : rIx X.K v w H Q := by
    unfold wIx at q
    split at q
    · split at q
      · obtain ⟨z, hz, q⟩ := q
        obtain ⟨j, h1, h2⟩ := bind_ix hz
        obtain ⟨a, vs, e1, g1, g2⟩ := r.asL hx ex
        obtain ⟨t, t1, t2⟩ := g2.get h2
        refine .inl ⟨a, vs, _, t, e1, hy, SqL.of g1, ?_, Kv.here q r t2⟩
        unfold atI
        rw [← g2.length, ← ixN_eq, h1]; exact t1
      · exact q.elim
    · split at q
      · obtain ⟨z, hz, q⟩ := q
        obtain ⟨j, h1, h2⟩ := bind_ix hz
        obtain ⟨a, vs, e1, _, g1, g2⟩ := r.asT hx ex
        obtain ⟨t, t1, t2⟩ := g2.get h2
        refine .inr (.inl ⟨a, vs, _, t, e1, hy, g1, ?_, Kv.here q r t2⟩)
        unfold atI
        rw [← g2.length, ← ixN_eq, h1]; exact t1
      · exact q.elim
    · split at q
      · obtain ⟨z, hz, q⟩ := q
        obtain ⟨j, h1, h2⟩ := bind_ix hz
        obtain ⟨a, e1, g1⟩ := r.asC hx ex
        refine .inl ⟨a, _, _, .int z, e1, hy, g1, ?_, Kv.here q r rfl⟩
        unfold atI
        rw [List.length_map, ← ixN_eq, h1]
        show ((_ : List Int).map V.int)[j]? = _
        rw [List.getElem?_map, h2]; rfl
      · exact q.elim
    · split at q
      · obtain ⟨z, hz, q⟩ := q
        obtain ⟨j, h1, h2⟩ := bind_ix hz
        obtain ⟨o, e1⟩ := r.asS hx ex
        refine .inr (.inr ⟨_, _, z, e1, hy, by rw [sOf_len, line_eq]; exact okS_len o, ?_, Kv.here q r ⟨okS_one o (List.mem_of_getElem? h2), rfl⟩⟩)
        unfold atI
        rw [sOf_list, ← ixN_eq, h1]; exact h2
      · exact q.elim
    · exact absurd rfl (nd _)
    · exact q.elim
  exact ix_seq value slice pins s σ H v w u u' Q I rv rw' key hs
def rSlP (K : PySem.W.Frag) (ca : CA) : V → Option Int → Option Int → Hp → VK → Prop := fun v lo hi H Q => ∃ μ F S x, SR K ca μ F H S ∧ Rep K ca μ F x v ∧ wSl S lo hi (drf S x) (Kv K ca μ F Q)
theorem cut_map {α β : Type} (f : α → β) (xs : List α) (lo hi : Option Int) : cut (xs.map f) lo hi = (cut xs lo hi).map f := by
  unfold cut
  rw [List.length_map, List.map_take, List.map_drop]
theorem cut_sub {α : Type} (xs : List α) (lo hi : Option Int) : (cut xs lo hi).Sublist xs := (List.take_sublist _ _).trans (List.drop_sublist _ _)
theorem repL_cut {K : PySem.W.Frag} {μ : List Addr} {F : Hp} {xs : List PV} {vs : List V} (h : RepL K ca μ F xs vs) (lo hi : Option Int) : RepL K ca μ F (cut xs lo hi) (cut vs lo hi) := by
  unfold cut
  rw [h.length]
  exact RepL.take _ (RepL.drop _ h)
theorem sl_ok : SlR X (rSlP X.K ca) := by
  intro pins s σ H v u vl vu lo hi sl Q I rv hs pl pu h
  obtain ⟨μ, F, S, x, r, hx, q⟩ := h
  generalize ex : drf S x = x' at q
  unfold wSl at q
  split at q
  · obtain ⟨a, vs, e1, g1, g2⟩ := r.asL hx ex
    subst e1
    refine sl_list pins s σ H _ u vl vu lo hi sl Q I rv hs pl pu ⟨a, vs, rfl, SqL.of g1, fun p hp => ?_⟩
    rw [cut_eq]
    exact Kv.newL q r (repL_cut g2 lo hi) hp
  · obtain ⟨a, vs, e1, g0, g1, g2⟩ := r.asT hx ex
    subst e1
    refine sl_tupA pins s σ H _ u vl vu lo hi sl Q I rv hs pl pu ⟨a, vs, rfl, g1, fun z => ?_, fun _ p hp => ?_⟩
    · refine Kv.here q r ⟨a, vs, rfl, g0, ?_⟩
      have e : cut vs lo hi = vs := by
        unfold cut
        rw [sIx_eq, sIx_eq, z.1, z.2]; simp
      have := repL_cut g2 lo hi
      rw [e] at this
      exact this
    · rw [cut_eq]
      exact Kv.newT q r (repL_cut g2 lo hi) hp
  · obtain ⟨a, e1, g1⟩ := r.asC hx ex
    subst e1
    refine sl_list pins s σ H _ u vl vu lo hi sl Q I rv hs pl pu ⟨a, _, rfl, g1, fun p hp => ?_⟩
    rw [cut_eq, cut_map]
    exact Kv.newL q r repL_ints hp
  · obtain ⟨o, e1⟩ := r.asS hx ex
    subst e1
    refine sl_str pins s σ H _ u vl vu lo hi sl Q I rv hs pl pu ⟨_, rfl, by rw [sOf_len, line_eq]; exact okS_len o, ?_⟩
    have e : ∀ t : List Nat, cutS (sOf t) lo hi = sOf (cut t lo hi) := fun t => by
      unfold cutS cut
      rw [sOf_list, sOf_len, sIx_eq, sIx_eq]; rfl
    rw [e]
    exact Kv.here q r ⟨okS_sub o (cut_sub _ _ _), rfl⟩
  · exact q.elim
end
end PL
set_option maxRecDepth 100000
set_option maxHeartbeats 4000000
/-! PL1t: list(text), sorted(text). -/
namespace PySem
open Sem (wp)
section
variable {prog : Program} {w : World} {A : Around} {E : Value → Shared → Prop} {s : Shared}
theorem pl_text_extend {R : Result → Shared → Prop} (hh : A.handled = none) (x : Str) (t : Tok) (S : Addr) (res : Value) (hS : s.heap.get? S = some { cls := .type "list", data := .seq #[] c0 })
    (hR : ∀ (s' : Shared) (acc' : Array Value) (c' : Nat), (∀ b o, b ≠ S → s.heap.get? b = some o → s'.heap.get? b = some o) → s'.gens = s.gens → s'.drawn = s.drawn → s'.os = s.os →
      s'.heap.get? S = some { cls := .type "list", dict := none, data := .seq acc' c', slots := #[] } → ItemsOf (SignAt x) acc' x.cps.size → R (.ok (.ret res)) s') (hn : x.cps.size ≤ sizeLine) :
    wpAny (model prog w) A.in1 (Builtin.List.listExtendWith (.ref S) (.str x t) res)
      (fun fin s' => match fin with | .done f => R (.ok f) s' | .again c' => c'.quiet = true ∧ codeAny (model prog w) A c' R s') (fun e s' => R (.error e) s') s := by
  unfold Builtin.List.listExtendWith
  refine wpAny_bind (wpAny_typeOf (T := "str") (v := .str x t) rfl ?_)
  have h1 : Builtin.List.listSameRef (.ref S) (.str x t) = false := rfl
  have h2 : (Value.type "str" == Value.type "list") = false := by decide
  have h3 : (Value.type "str" == Value.type "tuple") = false := by decide
  simp only [h1, h2, h3, Bool.or_false, Bool.false_eq_true, if_false]
  refine wpAny_bind (wpAny_pyIter_str fun o St W hst => ?_)
  refine wpAny_bind (wpAny_holding ?_)
  unfold Builtin.List.listLengthHint
  refine wpAny_bind (wpAny_specialOf (T := "str") (v := .str x t) rfl F.str_len ?_)
  wp_delta
  refine wpAny_bind (wpAny_isInstance (T := "str") (v := .str x t) (b := true) rfl (by rw [isSubtype_type]; kernel_rfl) ?_)
  show wpAny _ A.in1 (typeOf (Value.str x t) >>= _) _ _ _
  refine wpAny_bind (wpAny_typeOf (T := "str") (v := .str x t) rfl ?_)
  refine wpAny_pure ?_
  rw [if_neg (by decide)]
  have hlt := Heap.lt_size hS
  have hSf : S ∉ [s.heap.objs.size] := fun hm => by rw [List.mem_singleton.mp hm] at hlt; exact absurd hlt (Nat.lt_irrefl _)
  have hS2 : (s.heap.push o).get? S = some { cls := .type "list", data := .seq #[] c0 } := Heap.get?_push_of_some _ hS
  refine wpAny_pure ⟨plainId_quiet F.plain_extend_loop _, codeAny_extend_loopS (W A.in1 hh).toS hn _ hSf _ x.cps.size 0 _ _ _ rfl (Nat.zero_le _) hst hS2 (ItemsOf.nil _) fun s' acc' c' hm hS' hacc => ?_⟩
  refine hR s' acc' c' (fun b ob hbS e => hm.heap b ob (fun hb => ?_) (Heap.get?_push_of_some _ e)) hm.gens hm.drawn hm.os hS' hacc
  have hlt2 := Heap.lt_size e
  rcases List.mem_cons.mp hb with h | h
  · exact hbS h
  · rw [List.mem_singleton.mp h] at hlt2; exact absurd hlt2 (Nat.lt_irrefl _)
theorem pl_text_init {R : Result → Shared → Prop} (hh : A.handled = none) (x : Str) (t : Tok) (S : Addr) (hS : s.heap.get? S = some { cls := .type "list", data := .seq #[] })
    (hR : ∀ (s' : Shared) (acc' : Array Value) (c' : Nat), (∀ b o, b ≠ S → s.heap.get? b = some o → s'.heap.get? b = some o) → s'.gens = s.gens → s'.drawn = s.drawn → s'.os = s.os →
      s'.heap.get? S = some { cls := .type "list", dict := none, data := .seq acc' c', slots := #[] } → ItemsOf (SignAt x) acc' x.cps.size → R (.ok (.ret .none)) s') (hn : x.cps.size ≤ sizeLine) :
    wpAny (model prog w) A.in1 (Builtin.«list.__init__» ⟨[.ref S, .str x t], []⟩)
      (fun fin s' => match fin with | .done f => R (.ok f) s' | .again c' => c'.quiet = true ∧ codeAny (model prog w) A c' R s') (fun e s' => R (.error e) s') s := by
  show wpAny _ _ (do let old ← Builtin.List.listItems (.ref S); Builtin.List.listUpdate (.ref S) (fun _ => #[]); letGo old.toList.reverse; Builtin.List.listExtendWith (.ref S) (.str x t) .none) _ _ s
  refine wpAny_bind ?_
  unfold Builtin.List.listItems
  refine wpAny_bind (wpAny_seqItems hS rfl (wpAny_pure ?_))
  show wpAny _ _ (updateSeq S (fun _ => #[]) >>= fun _ => letGo (#[] : Array Value).toList.reverse >>= fun _ => Builtin.List.listExtendWith (.ref S) (.str x t) .none) _ _ s
  refine wpAny_bind (wpAny_updateSeq hS rfl ?_)
  have hS₂ := Heap.get?_update_self (Obj.mapSeq (fun _ => (#[] : Array Value))) hS rfl
  have oth : ∀ b o, b ≠ S → s.heap.get? b = some o → (s.heap.update S (Obj.mapSeq (fun _ => (#[] : Array Value)))).get? b = some o :=
    fun b o hb e => (Heap.get?_update_other _ _ (Ne.symm hb)).trans e
  refine wpAny_bind (wpAny_letGo ?_)
  refine pl_text_extend (s := { s with heap := s.heap.update S (Obj.mapSeq (fun _ => (#[] : Array Value))) }) hh x t S .none hS₂ (fun s' acc' c' hk g1 g2 g3 hS' hacc => ?_) hn
  exact hR s' acc' c' (fun b o hb e => hk b o hb (oth b o hb e)) g1 g2 g3 hS' hacc
theorem pl_list_text {Q : Value → Shared → Prop} (hh : A.handled = none) (x : Str) (t : Tok) (hn : x.cps.size ≤ sizeLine)
    (hQ : ∀ (s' : Shared) (acc' : Array Value) (c' : Nat), (∀ b o, s.heap.get? b = some o → s'.heap.get? b = some o) → s'.gens = s.gens → s'.drawn = s.drawn → s'.os = s.os →
      s'.heap.get? s.heap.objs.size = some { cls := .type "list", dict := none, data := .seq acc' c', slots := #[] } → ItemsOf (SignAt x) acc' x.cps.size → Q (.ref s.heap.objs.size) s') :
    wpAny (model prog w) A (call (.type "list") [.str x t]) Q E s := by
  refine callType_codes (Q₁ := fun obj s₁ => obj = .ref s.heap.objs.size ∧ s₁ = { s with heap := s.heap.push { cls := .type "list", data := .seq #[] } }) PySem.F.called_list (PySem.F.typeCall_list_1 _) PySem.F.entry_list_init
    (code_list_new _ ⟨rfl, rfl⟩) fun obj s₁ h₁ => ?_
  obtain ⟨rfl, rfl⟩ := h₁
  have hS : (s.heap.push { cls := .type "list", data := .seq #[] }).get? s.heap.objs.size = some { cls := .type "list", data := .seq #[] } := Heap.get?_push_size _ rfl
  refine ⟨⟨_, hS, rfl⟩, PySem.F.args_list_init_2 _ _, pl_text_init (A := A.in1) hh x t _ hS (fun s' acc' c' hk g1 g2 g3 hS' hacc => ?_) hn⟩
  exact ⟨rfl, hQ s' acc' c' (fun b o e => hk b o (Nat.ne_of_lt (Heap.lt_size e)) (Heap.get?_push_of_some _ e)) g1 g2 g3 hS' hacc⟩
end
end PySem
set_option maxRecDepth 100000
set_option maxHeartbeats 4000000
/-! PL1d: built-in functions and methods by values. -/
namespace PL
open PySem PySem.Spec PyProof.Rows L2

/-! ### sorted texts: one only -/
def LeS (a b : List Nat) : Prop := ¬ b < a
theorem LeS.trans {a b c : List Nat} (h : LeS a b) (g : LeS b c) : LeS a c := List.not_lt.mpr (List.le_trans (List.not_lt.mp h) (List.not_lt.mp g))
theorem LeS.anti {a b : List Nat} (h : LeS a b) (g : LeS b a) : a = b := List.le_antisymm (List.not_lt.mp h) (List.not_lt.mp g)
theorem insS_perm (x : List Nat) : ∀ l : List (List Nat), (insS x l).Perm (x :: l)
  | [] => List.Perm.refl _
  | y :: r => by
    unfold insS
    split
    · exact ((insS_perm x r).cons y).trans (List.Perm.swap x y r)
    · exact List.Perm.refl _
theorem sortS_perm : ∀ l : List (List Nat), (sortS l).Perm l
  | [] => List.Perm.refl _
  | x :: r => (insS_perm x (sortS r)).trans ((sortS_perm r).cons x)
theorem insS_sorted (x : List Nat) : ∀ l : List (List Nat), l.Pairwise LeS → (insS x l).Pairwise LeS
  | [], _ => by
    unfold insS
    exact List.pairwise_singleton _ _
  | y :: r, h => by
    obtain ⟨h1, h2⟩ := List.pairwise_cons.mp h
    unfold insS
    split
    · rename_i hc
      have hyx : y < x := of_decide_eq_true hc
      refine List.pairwise_cons.mpr ⟨fun z hz => ?_, insS_sorted x r h2⟩
      rcases List.mem_cons.mp ((insS_perm x r).mem_iff.mp hz) with e | e
      · rw [e]; exact List.lt_asymm hyx
      · exact h1 z e
    · rename_i hc
      have hxy : ¬ y < x := fun q => hc (decide_eq_true q)
      refine List.pairwise_cons.mpr ⟨fun z hz => ?_, h⟩
      rcases List.mem_cons.mp hz with e | e
      · rw [e]; exact hxy
      · exact LeS.trans hxy (h1 z e)
theorem sortS_sorted : ∀ l : List (List Nat), (sortS l).Pairwise LeS
  | [] => List.Pairwise.nil
  | x :: r => insS_sorted x _ (sortS_sorted r)
theorem risingS_pw : ∀ (l : List Str) (p : Str), risingS p l = true → ((p :: l).map fun y : Str => y.cps.toList).Pairwise LeS
  | [], p, _ => List.pairwise_singleton _ _
  | x :: r, p, h => by
    have h' : (!ltCps x.cps.toList p.cps.toList && risingS x r) = true := h
    rw [Bool.and_eq_true] at h'
    have ih := risingS_pw r x h'.2
    have hpx : LeS p.cps.toList x.cps.toList := fun q => by
      have := h'.1
      rw [ltCps_eq, decide_eq_true q] at this
      simp at this
    refine List.pairwise_cons.mpr ⟨fun z hz => ?_, ih⟩
    have hz' : z ∈ x.cps.toList :: r.map fun y : Str => y.cps.toList := hz
    rcases List.mem_cons.mp hz' with e | e
    · rw [e]; exact hpx
    · exact LeS.trans hpx ((List.pairwise_cons.mp ih).1 z e)
theorem sortedS_pw (l : List Str) (h : sortedS l = true) : (l.map fun y : Str => y.cps.toList).Pairwise LeS := by
  cases l with
  | nil => exact List.Pairwise.nil
  | cons x r => exact risingS_pw r x h
theorem sOf_cps (y : Str) : sOf y.cps.toList = y := by
  obtain ⟨c⟩ := y
  simp [sOf]
theorem sortS_only {ys : List Str} {ss : List (List Nat)} (hp : ys.Perm (ss.map sOf)) (hs : sortedS ys = true) : ys = (sortS ss).map sOf := by
  have e : ys.map (fun y : Str => y.cps.toList) = sortS ss := by
    refine List.Perm.eq_of_pairwise (le := LeS) (fun a b _ _ h g => LeS.anti h g) (sortedS_pw ys hs) (sortS_sorted ss) ?_
    have h1 := hp.map (fun y : Str => y.cps.toList)
    rw [List.map_map] at h1
    have h2 : (fun y : Str => y.cps.toList) ∘ sOf = id := by
      funext s; exact sOf_list s
    rw [h2, List.map_id] at h1
    exact h1.trans (sortS_perm ss).symm
  rw [← e, List.map_map]
  have h2 : sOf ∘ (fun y : Str => y.cps.toList) = id := by
    funext s; exact sOf_cps s
  rw [h2, List.map_id]

section
variable {X : Cx} {ca : CA}
theorem strsAre_of : ∀ {ss : List Str} {us : List Value}, Vals (ss.map V.str) us → StrsAre us ss
  | [], us, h => by rw [List.map_nil] at h; cases h; exact .nil
  | s :: ss, us, h => by
    rw [List.map_cons] at h
    cases h with
    | cons r t =>
      obtain ⟨tk, e⟩ := r
      subst e
      exact .cons _ _ (strsAre_of t)
/-- sorted(a list of texts), any length -/
theorem cr_sortedAny : CallR X (.builtin "sorted") (fun vs H Q => ∃ (a : Addr) (ss : List (List Nat)), vs = [V.ref a] ∧ SqL X.K H a (ss.map fun s => V.str (sOf s)) ∧ ∀ p, H p = none → Q (.ref p) (upd H p (.lst ((sortS ss).map fun s => V.str (sOf s))))) := by
  intro pins s σ H vs us Q I r h
  obtain ⟨a, ss, rfl, hs, q⟩ := h
  obtain ⟨u, rfl, ru⟩ := vals1 r
  cases ru
  obtain ⟨its, rv, hl, hz⟩ := I.list hs
  have e0 : (ss.map fun s => V.str (sOf s)) = (ss.map sOf).map V.str := by rw [List.map_map]; rfl
  rw [e0] at rv hz
  have hS := strsAre_of rv
  have hlen := rv.length
  refine sorted_strsAny hl.isList hS (by rw [← hlen]; exact hz) fun out ss' h1 h2 h3 => ?_
  have e1 := sortS_only h2 h3
  subst e1
  have hn : H (s.heap.objs.size + 1) = none := I.hok.fresh (Nat.le_succ _)
  obtain ⟨ep, he⟩ := sortedAll_at s.heap its out
  have e2 : ((sortS ss).map fun s => V.str (sOf s)) = ((sortS ss).map sOf).map V.str := by rw [List.map_map]; rfl
  refine ⟨.ref (s.heap.objs.size + 1), _, I.laid (t' := s.toks) (fun b o e => sortedAll_old e) (Nat.le_succ _) ?_, rfl, q _ hn⟩
  rw [e2]
  refine ⟨?_, out.toList, ep, vals_of_strs h1, by rw [Array.toArray_toList]; exact he⟩
  rw [List.length_map, List.length_map, (sortS_perm ss).length_eq]
  rw [List.length_map, List.length_map] at hz
  exact hz
theorem items_strs {x : List Nat} {acc : Array Value} (h : ItemsOf (SignAt (sOf x)) acc (sOf x).cps.size) : Vals (x.map fun c => V.str (sOf [c])) acc.toList := by
  have hl : acc.toList.length = x.length := by rw [Array.length_toList, h.1]; simp [sOf]
  have gen : ∀ (y : List Nat) (us : List Value), us.length = y.length → (∀ (j : Nat) (v : Value), us[j]? = some v → ∃ c u, y[j]? = some c ∧ v = Value.str ⟨#[c]⟩ u) → Vals (y.map fun c => V.str (sOf [c])) us := by
    intro y
    induction y with
    | nil =>
      intro us hl _
      have : us = [] := List.length_eq_zero_iff.mp hl
      subst this
      exact .nil
    | cons c y ih =>
      intro us hl hh
      cases us with
      | nil => simp at hl
      | cons v us =>
        obtain ⟨c', u, e1, e2⟩ := hh 0 v rfl
        have e1' : c = c' := by simpa using e1
        subst e1'
        rw [List.map_cons]
        refine .cons ⟨u, e2⟩ (ih us (by simpa using hl) fun j w e => ?_)
        obtain ⟨d, u2, f1, f2⟩ := hh (j + 1) w (by simpa using e)
        exact ⟨d, u2, by simpa using f1, f2⟩
  refine gen x acc.toList hl fun j v e => ?_
  obtain ⟨c, u, e1, e2⟩ := h.2 j v (by rw [← Array.getElem?_toList]; exact e)
  exact ⟨c, u, by simpa [sOf] using e1, e2⟩
/-- list(a text) -/
theorem cr_listText (hc : X.calm = true) : CallR X (.type "list") (fun vs H Q => ∃ x : List Nat, vs = [V.str (sOf x)] ∧ x.length ≤ line ∧ ∀ p, H p = none → Q (.ref p) (upd H p (.lst (x.map fun c => V.str (sOf [c]))))) := by
  intro pins s σ H vs us Q I r h
  obtain ⟨x, rfl, hz, q⟩ := h
  obtain ⟨u, rfl, ru⟩ := vals1 r
  obtain ⟨t, rfl⟩ := ru
  have hsz : (sOf x).cps.size ≤ sizeLine := by rw [line_eq]; simpa [sOf] using hz
  refine pl_list_text (I.ok.hd hc) (sOf x) t hsz fun s' acc c' hk g1 g2 g3 hS' hacc => ?_
  have hn : H s.heap.objs.size = none := I.hok.fresh (Nat.le_refl _)
  obtain ⟨h', g', d', t', o'⟩ := s'
  simp only at g1 g2 g3 hk hS'
  subst g1; subst g2; subst g3
  refine ⟨.ref s.heap.objs.size, _, I.laid (t' := t') hk (Nat.le_refl _) ?_, rfl, q _ hn⟩
  exact ⟨by rw [List.length_map, line_eq]; exact hz, acc.toList, c', items_strs hacc, by rw [Array.toArray_toList]; exact hS'⟩
/-- sorted(a text) -/
theorem cr_sortedText (hc : X.calm = true) : CallR X (.builtin "sorted") (fun vs H Q => ∃ x : List Nat, vs = [V.str (sOf x)] ∧ x.length ≤ line ∧ ∀ p, H p = none → Q (.ref p) (upd H p (.lst ((sortS (x.map fun c => [c])).map fun s => V.str (sOf s))))) := by
  intro pins s σ H vs us Q I r h
  obtain ⟨x, rfl, hz, q⟩ := h
  obtain ⟨u, rfl, ru⟩ := vals1 r
  obtain ⟨t, rfl⟩ := ru
  have hsz : (sOf x).cps.size ≤ sizeLine := by rw [line_eq]; simpa [sOf] using hz
  refine Calls.call_function_entry kind_sorted plain_sorted entry_sorted (args_sorted1 _) ?_
  unfold Builtin.«sorted»
  refine wpAny_bind (m := checkCount "sorted" 1 1 _) (wpAny_pure ?_)
  refine wpAny_bind (wpAny_collect_str (A := X.A.in1) (show X.A.in1.handled = Option.none from I.ok.hd hc) (sOf x) t (fun s' acc hk g1 g2 g3 hacc => ?_) hsz)
  have rv := items_strs hacc
  have hal : acc.toList.length = x.length := by rw [← rv.length, List.length_map]
  obtain ⟨h', g', d', t', o'⟩ := s'
  simp only at g1 g2 g3 hk
  subst g1; subst g2; subst g3
  have e0 : (x.map fun c => V.str (sOf [c])) = ((x.map fun c => [c]).map sOf).map V.str := by rw [List.map_map, List.map_map]; rfl
  rw [e0] at rv
  have hS := strsAre_of rv
  refine wpAny_bind (wpAny_newList ?_ (by rw [hal, line_eq]; exact hz))
  have hoL : (h'.push (seqObj "list" acc.toList.toArray 0)).get? h'.objs.size = some (seqObj "list" acc.toList.toArray 0) := Heap.get?_push_size _ rfl
  have I1 : Inv X pins σ H { s with heap := h', toks := t' } := I.kept hk
  refine wpAny_bind (wpAny_holding (wpAny_call_entry PyProof.Rows.slot_list_sort ⟨_, hoL, rfl⟩ PyProof.Rows.entry_list_sort
    (list_sort_treeKAny strKind_oneLt (s := { s with heap := h'.push (seqObj "list" acc.toList.toArray 0), toks := t' }) hoL hS.keysOf (fun v₁ v₂ rest e => keyKind_strs (by rw [← e]; exact hS)) (by rw [hal, line_eq]; exact hz) fun st' hp hs => ⟨_, rfl, ?_⟩)
    (PyProof.Rows.args_list_sort _)))
  obtain ⟨ys, k1, k2, k3⟩ := sorted_out_str hS hp hs
  have e1 := sortS_only k2 k3
  subst e1
  obtain ⟨e', he'⟩ := PyProof.Rows.sortedHeap_at (vs := acc.toList) (out := (arrOf st').map (·.2)) hoL
  have e2 : ((sortS (x.map fun c => [c])).map fun s => V.str (sOf s)) = ((sortS (x.map fun c => [c])).map sOf).map V.str := by rw [List.map_map]; rfl
  have hlen : (((sortS (x.map fun c => [c])).map sOf).map V.str).length ≤ sizeLine := by
    rw [List.length_map, List.length_map, (sortS_perm _).length_eq, List.length_map, line_eq]; exact hz
  have q' := q h'.objs.size (I1.hok.fresh (Nat.le_refl _))
  rw [e2] at q'
  refine wpAny_pure ⟨_, rfl, .ref h'.objs.size, upd H h'.objs.size (.lst (((sortS (x.map fun c => [c])).map sOf).map V.str)), I1.laid (t' := t') (fun b u e => ?_) (Nat.le_refl _)
    (show ObjOk X.prog X.w _ _ _ (.lst _) from ⟨hlen, ((arrOf st').map (·.2)).toList, e', vals_of_strs k1, by rw [Array.toArray_toList]; exact he'⟩), rfl, q'⟩
  have hb : b < h'.objs.size := Heap.lt_size e
  rw [PyProof.Rows.sortedHeap_old (Nat.ne_of_lt hb) (by rw [size_push']; exact Nat.lt_succ_of_lt hb)]
  exact Heap.get?_push_of_some _ e
/-- max(a, b, c) -/
theorem call_max3 (hc : X.calm = true) : CallR X (.builtin "max") (fun xs H Q => ∃ i j k, xs = [.int i, .int j, .int k] ∧ Q (.int (maxL i [j, k])) H) := by
  intro pins s σ H xs us Q I r h
  obtain ⟨i, j, k, rfl, q⟩ := h
  cases r with
  | cons r1 r => cases r with
    | cons r2 r => cases r with
      | cons r3 r =>
        cases r
        obtain ⟨t1, rfl⟩ := r1
        obtain ⟨t2, rfl⟩ := r2
        obtain ⟨t3, rfl⟩ := r3
        refine max_three_ints (I.ok.hd hc) fun h' tk hk => ⟨_, H, I.kept hk, ?_, q⟩
        show RelV (.int (if k > (if j > i then j else i) then k else (if j > i then j else i))) _
        by_cases h1 : j > i
        · rw [if_pos h1, if_pos h1]
          by_cases h2 : k > j
          · rw [if_pos h2, if_pos h2]; exact ⟨_, rfl⟩
          · rw [if_neg h2, if_neg h2]; exact ⟨_, rfl⟩
        · rw [if_neg h1, if_neg h1]
          by_cases h2 : k > i
          · rw [if_pos h2, if_pos h2]; exact ⟨_, rfl⟩
          · rw [if_neg h2, if_neg h2]; exact ⟨_, rfl⟩
end
theorem minL_mem : ∀ (ns : List Int) (n : Int), minL n ns ∈ n :: ns
  | [], n => List.mem_singleton.mpr rfl
  | b :: r, n => by
    unfold minL
    have ih := minL_mem r (if b < n then b else n)
    rcases List.mem_cons.mp ih with e | e
    · rw [e]
      split
      · exact List.mem_cons_of_mem _ List.mem_cons_self
      · exact List.mem_cons_self
    · exact List.mem_cons_of_mem _ (List.mem_cons_of_mem _ e)
theorem minL_le : ∀ (ns : List Int) (n : Int), ∀ y ∈ n :: ns, minL n ns ≤ y
  | [], n, y, h => by rw [List.mem_singleton.mp h]; exact Int.le_refl _
  | b :: r, n, y, h => by
    unfold minL
    have ih := minL_le r (if b < n then b else n)
    have h0 := ih _ List.mem_cons_self
    rcases List.mem_cons.mp h with e | e
    · subst e; split at h0 <;> split <;> omega
    · rcases List.mem_cons.mp e with e | e
      · subst e; split at h0 <;> split <;> omega
      · exact ih y (List.mem_cons_of_mem _ e)
theorem maxL_mem : ∀ (ns : List Int) (n : Int), maxL n ns ∈ n :: ns
  | [], n => List.mem_singleton.mpr rfl
  | b :: r, n => by
    unfold maxL
    have ih := maxL_mem r (if b > n then b else n)
    rcases List.mem_cons.mp ih with e | e
    · rw [e]
      split
      · exact List.mem_cons_of_mem _ List.mem_cons_self
      · exact List.mem_cons_self
    · exact List.mem_cons_of_mem _ (List.mem_cons_of_mem _ e)
theorem maxL_le : ∀ (ns : List Int) (n : Int), ∀ y ∈ n :: ns, y ≤ maxL n ns
  | [], n, y, h => by rw [List.mem_singleton.mp h]; exact Int.le_refl _
  | b :: r, n, y, h => by
    unfold maxL
    have ih := maxL_le r (if b > n then b else n)
    have h0 := ih _ List.mem_cons_self
    rcases List.mem_cons.mp h with e | e
    · subst e; split at h0 <;> split <;> omega
    · rcases List.mem_cons.mp e with e | e
      · subst e; split at h0 <;> split <;> omega
      · exact ih y (List.mem_cons_of_mem _ e)
end PL
set_option maxRecDepth 100000
set_option maxHeartbeats 4000000
/-! PL1e: repr; every built-in function, every method, by values. -/
namespace PL
open PySem PySem.Spec PyProof.Rows L2

theorem textFrom_up : ∀ (ts : List Str) (k : Nat) (acc : Str), (textFrom k acc ts).length ≤ acc.length + piled ts
  | [], k, acc => by show acc.length ≤ acc.length + 0; omega
  | t :: ts, k, acc => by
    have ih := textFrom_up ts (k + 1) (acc ++ (if k > 0 then ", " else "" : String) ++ t)
    have e : (acc ++ (if k > 0 then ", " else "" : String) ++ t).length ≤ acc.length + 2 + t.length := by
      rw [strLen_append, strLen_append]
      have : (Str.ofString (if k > 0 then ", " else "" : String)).length ≤ 2 := by
        split
        · exact (by decide : (Str.ofString ", ").length ≤ 2)
        · exact (by decide : (Str.ofString "").length ≤ 2)
      omega
    show (textFrom (k + 1) (acc ++ (if k > 0 then ", " else "" : String) ++ t) ts).length ≤ _
    rw [piled_cons]
    omega
theorem listText_up (ts : List Str) : (listText ts).length ≤ piled ts + 2 := by
  unfold listText
  rw [strLen_append]
  have h := textFrom_up ts 0 "["
  have e1 : (Str.ofString "[").length = 1 := by decide
  have e2 : (Str.ofString "]").length = 1 := by decide
  omega
theorem tupleText_up (ts : List Str) : (tupleText ts).length ≤ piled ts + 3 := by
  unfold tupleText
  rw [strLen_append, strLen_append]
  have e1 : (Str.ofString "(").length = 1 := by decide
  have e2 : (Str.ofString (if ts.length == 1 then ",)" else ")" : String)).length ≤ 2 := by
    split
    · exact (by decide : (Str.ofString ",)").length ≤ 2)
    · exact (by decide : (Str.ofString ")").length ≤ 2)
  have e3 : (Str.join ", " ts).length ≤ piled ts := by
    by_cases h : ts = []
    · subst h
      exact Nat.zero_le _
    · have := join_length_add ts h
      omega
  omega
section
variable {K : PySem.W.Frag} {ca : CA} {μ : List Addr} {F H : Hp}
mutual
theorem shown_up : ∀ (x : PV) (v : V), isData x = true → Rep K ca μ F x v → (toD x).shown.length ≤ rsz x
  | .non, _, _, _ => (by decide : (Str.ofString "None").length ≤ 5)
  | .bl b, _, _, _ => by
    cases b
    · exact (by decide : (Str.ofString "False").length ≤ 5)
    · exact (by decide : (Str.ofString "True").length ≤ 5)
  | .int i, _, _, _ => by
    show (Str.ofString (toString i)).length ≤ i.natAbs.log2 + 4
    rw [PySem.ofString_length]
    have := int_text_length_le (a := i) (k := i.natAbs.log2 + 1) (by omega) (by omega)
    omega
  | .str s, v, _, h => by
    obtain ⟨o, _⟩ := h
    show (reprText (sOf s)).length ≤ 10 * s.length + 2
    have := PySem.StrLaws.reprText_len (sOf s) (fun c hc => by
      rw [sOf_list] at hc
      have := okS_all o c hc
      omega)
    rw [sOf_len] at this
    exact this
  | .tup xs, v, d, h => by
    obtain ⟨_, vs, _, _, t⟩ := h
    show (tupleText (PyData.shownAll (toDL xs))).length ≤ rszL xs + 4
    have h1 := tupleText_up (PyData.shownAll (toDL xs))
    have h2 := shown_upL xs vs (by simpa [isData] using d) t
    omega
  | .lst xs, v, d, h => by
    obtain ⟨_, vs, _, _, t⟩ := h
    show (listText (PyData.shownAll (toDL xs))).length ≤ rszL xs + 4
    have h1 := listText_up (PyData.shownAll (toDL xs))
    have h2 := shown_upL xs vs (by simpa [isData] using d) t
    omega
  | .scr _, _, d, _ => by simp [isData] at d
  | .dct _, _, d, _ => by simp [isData] at d
  | .ins _ _, _, d, _ => by simp [isData] at d
  | .ref _, _, d, _ => by simp [isData] at d
  | .txt _, _, d, _ => by simp [isData] at d
theorem shown_upL : ∀ (xs : List PV) (vs : List V), isDataL xs = true → RepL K ca μ F xs vs → piled (PyData.shownAll (toDL xs)) ≤ rszL xs
  | [], _, _, _ => Nat.le_refl _
  | x :: xs, vs, d, h => by
    rw [isDataL, Bool.and_eq_true] at d
    obtain ⟨v, r, _, q, t⟩ := h
    show piled ((toD x).shown :: PyData.shownAll (toDL xs)) ≤ rsz x + 2 + rszL xs
    rw [piled_cons]
    have h1 := shown_up x v d.1 q
    have h2 := shown_upL xs r d.2 t
    omega
end
mutual
theorem rok_show : ∀ x : PV, isData x = true → rok x = true → (toD x).showable = true ∧ (toD x).hasDict = false
  | .non, _, _ => ⟨rfl, rfl⟩
  | .bl _, _, _ => ⟨rfl, rfl⟩
  | .int i, _, h => ⟨h, rfl⟩
  | .str _, _, _ => ⟨rfl, rfl⟩
  | .tup xs, d, h => rok_showL xs (by simpa [isData] using d) (by simpa [rok] using h)
  | .lst xs, d, h => rok_showL xs (by simpa [isData] using d) (by simpa [rok] using h)
  | .scr _, d, _ => by simp [isData] at d
  | .dct _, d, _ => by simp [isData] at d
  | .ins _ _, d, _ => by simp [isData] at d
  | .ref _, d, _ => by simp [isData] at d
  | .txt _, d, _ => by simp [isData] at d
theorem rok_showL : ∀ xs : List PV, isDataL xs = true → rokL xs = true → PyData.showableAll (toDL xs) = true ∧ PyData.hasDictAll (toDL xs) = false
  | [], _, _ => ⟨rfl, rfl⟩
  | x :: xs, d, h => by
    rw [isDataL, Bool.and_eq_true] at d
    rw [rokL, Bool.and_eq_true] at h
    obtain ⟨a1, a2⟩ := rok_show x d.1 h.1
    obtain ⟨b1, b2⟩ := rok_showL xs d.2 h.2
    exact ⟨by show ((toD x).showable && PyData.showableAll (toDL xs)) = true; rw [a1, b1]; rfl, by show ((toD x).hasDict || PyData.hasDictAll (toDL xs)) = false; rw [a2, b2]; rfl⟩
end
theorem okData_depth {x : PV} (h : okData x = true) : (toD x).depth ≤ 20 := by
  unfold okData at h
  rw [Bool.and_eq_true] at h
  rw [toD_depth x h.1]
  exact of_decide_eq_true h.2
end

section
variable {X : Cx} {ca : CA}
/-- what a built-in is called with by name -/
def rBi (K : PySem.W.Frag) (ca : CA) (m : Bool) (f : Bi) : List V → Hp → VK → Prop := fun vs H Q => ∃ μ F S xs, SR K ca μ F H S ∧ RepL K ca μ F xs vs ∧ wBi m f S xs (Kv K ca μ F Q)
def biVal : Bi → Value
  | .len => .builtin "len" | .int_ => .type "int" | .abs => .builtin "abs" | .min => .builtin "min" | .max => .builtin "max" | .sum => .builtin "sum"
  | .any => .builtin "any" | .all => .builtin "all" | .sorted => .builtin "sorted" | .list => .type "list" | .tuple => .type "tuple" | .dict => .type "dict"
  | .str => .type "str" | .repr => .builtin "repr" | .divmod => .builtin "divmod" | .bool => .type "bool"
theorem repL1 {K : PySem.W.Frag} {μ : List Addr} {F : Hp} {x : PV} {vs : List V} (h : RepL K ca μ F [x] vs) : ∃ v, vs = [v] ∧ Rep K ca μ F x v := by
  obtain ⟨v, r, e, q, t⟩ := h
  have t' : r = [] := t
  subst t'
  exact ⟨v, e, q⟩
theorem repL2 {K : PySem.W.Frag} {μ : List Addr} {F : Hp} {x y : PV} {vs : List V} (h : RepL K ca μ F [x, y] vs) : ∃ v w, vs = [v, w] ∧ Rep K ca μ F x v ∧ Rep K ca μ F y w := by
  obtain ⟨v, r, e, q, t⟩ := h
  obtain ⟨w, e2, q2⟩ := repL1 t
  subst e2
  exact ⟨v, w, e, q, q2⟩
theorem repL3 {K : PySem.W.Frag} {μ : List Addr} {F : Hp} {x y z : PV} {vs : List V} (h : RepL K ca μ F [x, y, z] vs) : ∃ v w u, vs = [v, w, u] ∧ Rep K ca μ F x v ∧ Rep K ca μ F y w ∧ Rep K ca μ F z u := by
  obtain ⟨v, r, e, q, t⟩ := h
  obtain ⟨w, u, e2, q2, q3⟩ := repL2 t
  subst e2
  exact ⟨v, w, u, e, q, q2, q3⟩
theorem call_repr (hg : X.A.guards = some []) (hu : X.A.units + 64 < cLine) {pins : List (Addr × Obj)} {s : Shared} {σ : L2.St} {H : Hp} {μ : List Addr} {F : Hp} {S : Sto} {x : PV} {v : V} {u : Value} {Q : VK} (I : Inv X pins σ H s) (rv : RelV v u)
    (r : SR X.K ca μ F H S) (hx : Rep X.K ca μ F x v) (d1 : okData (drf S x) = true) (d2 : rok (drf S x) = true) (d3 : rsz (drf S x) ≤ line) (q : Q (V.str (toD (drf S x)).shown) H) :
    wpAny (model X.prog X.w) X.A (call (.builtin "repr") [u]) (EP X pins σ Q) X.xe s := by
  have hx' := r.drfRep hx
  generalize drf S x = y at d1 d2 d3 q hx'
  have hd := okData_data d1
  have hsz : (toD y).shown.length ≤ sizeLine := by
    rw [line_eq]; exact Nat.le_trans (shown_up y v hd hx') d3
  obtain ⟨hs, hnd⟩ := rok_show y hd d2
  have hdep := okData_depth d1
  obtain ⟨dp, _⟩ := okData_shaped d1 hx'
  obtain ⟨as, rd⟩ := Dp.reads I (toD y) v u dp rv
  have fin : ∀ (tk : Tok) (s' : Shared), Inv X pins σ H s' → EP X pins σ Q (.str (toD y).shown tk) s' := fun tk s' I' => ⟨V.str (toD y).shown, H, I', ⟨tk, rfl⟩, q⟩
  have hobj : ∀ a : Addr, u = .ref a → wpAny (model X.prog X.w) X.A (call (.builtin "repr") [u]) (EP X pins σ Q) X.xe s := fun a e => by
    subst e
    exact repr_of_reads' rd hs (PyData.noDict_hsm hnd) hg (by omega) (fun _ _ e => e) (fun h' tk tks hk => fin tk _ (I.kept hk)) hsz
  cases y with
  | non =>
    have e : v = V.non := hx'; subst e; cases rv
    exact P.repr_of_none (fin _ _ (I.tok _))
  | bl b =>
    have e : v = V.bl b := hx'; subst e; cases rv
    exact P.repr_of_bool (fin _ _ (I.tok _))
  | int i =>
    have e : v = V.int i := hx'; subst e
    obtain ⟨t, e⟩ := rv; subst e
    exact P.repr_of_int (of_decide_eq_true d2) (fin _ _ (I.tok _))
  | str z =>
    obtain ⟨_, e⟩ := hx'; subst e
    obtain ⟨t, e⟩ := rv; subst e
    exact P.repr_of_str (fin _ _ (I.tok _)) hsz
  | tup xs =>
    obtain ⟨a, _, e, _⟩ := hx'; subst e
    exact hobj a rv
  | lst xs =>
    obtain ⟨a, _, e, _⟩ := hx'; subst e
    exact hobj a rv
  | scr _ => simp [isData] at hd
  | dct _ => simp [isData] at hd
  | ins _ _ => simp [isData] at hd
  | ref _ => simp [isData] at hd
  | txt _ => simp [isData] at hd
theorem repL_chars {K : PySem.W.Frag} {μ : List Addr} {F : Hp} {s : List Nat} (o : okS s = true) : RepL K ca μ F (s.map fun c => PV.str [c]) (s.map fun c => V.str (sOf [c])) := by
  have h := repL_strs (K := K) (ca := ca) (μ := μ) (F := F) (ss := s.map fun c => [c]) (fun t ht => by
    obtain ⟨c, hc, e⟩ := List.mem_map.mp ht
    subst e
    exact okS_one o hc)
  rw [List.map_map, List.map_map] at h
  exact h
theorem bi_ok (m : Bool) (f : Bi) (hc : X.calm = true) (hg : X.A.guards = some []) (hu : X.A.units + 64 < cLine) : CallR X (biVal f) (rBi X.K ca m f) := by
  intro pins s σ H vs us Q I rv h
  obtain ⟨μ, F, S, xs, r, hx, q⟩ := h
  unfold wBi at q
  split at q
  · -- len
    rename_i x
    obtain ⟨v, e, hy⟩ := repL1 hx
    subst e
    generalize ex : drf S x = x' at q
    unfold wLen at q
    split at q
    · obtain ⟨o, e⟩ := r.asS hy ex
      subst e
      exact call_len pins s σ H _ us Q I rv ⟨_, _, rfl, ⟨by rw [sOf_len, line_eq]; exact okS_len o, rfl⟩, by rw [sOf_len]; exact Kv.here q r rfl⟩
    · obtain ⟨a, ws, e, h1, h2⟩ := r.asL hy ex
      subst e
      exact call_len pins s σ H _ us Q I rv ⟨_, _, rfl, .inl ⟨ws, SqL.of h1, rfl⟩, by rw [← h2.length]; exact Kv.here q r rfl⟩
    · obtain ⟨a, ws, e, _, h1, h2⟩ := r.asT hy ex
      subst e
      exact call_len pins s σ H _ us Q I rv ⟨_, _, rfl, .inr ⟨ws, h1, rfl⟩, by rw [← h2.length]; exact Kv.here q r rfl⟩
    · obtain ⟨a, e, h1⟩ := r.asC hy ex
      subst e
      exact call_len pins s σ H _ us Q I rv ⟨_, _, rfl, .inl ⟨_, h1, rfl⟩, by rw [List.length_map]; exact Kv.here q r rfl⟩
    · obtain ⟨a, ws, e, h1, h2⟩ := r.asD hy ex
      subst e
      have hl : ∀ {kvs : List (PV × PV)} {ws : List (Key × V)}, RepD X.K ca μ F kvs ws → kvs.length = ws.length := by
        intro kvs
        induction kvs with
        | nil => intro ws h; rw [show ws = [] from h]; rfl
        | cons p ps ih =>
          intro ws h
          obtain ⟨k, x⟩ := p
          obtain ⟨_, _, r', e, _, _, t⟩ := h
          rw [e, List.length_cons, List.length_cons, ih t]
      exact call_lenD pins s σ H _ us Q I rv ⟨_, _, rfl, h1, by rw [← hl h2]; exact Kv.here q r rfl⟩
    · exact q.elim
  · obtain ⟨v, e, hy⟩ := repL1 hx
    subst e
    exact call_int1 pins s σ H _ us Q I rv (.inl ⟨_, by rw [show v = _ from hy], Kv.here q r rfl⟩)
  · rename_i b
    obtain ⟨v, e, hy⟩ := repL1 hx
    subst e
    exact call_int1 pins s σ H _ us Q I rv (.inr ⟨b, by rw [show v = _ from hy], Kv.here q r rfl⟩)
  · obtain ⟨v, e, hy⟩ := repL1 hx
    subst e
    exact call_abs pins s σ H _ us Q I rv ⟨_, by rw [show v = _ from hy], Kv.here q r rfl⟩
  · -- min
    generalize ex : xs.map (drf S) = ys at q
    unfold wMin at q
    split at q
    · obtain ⟨x, r1, e1, e2, e3⟩ := List.map_eq_cons_iff.mp ex
      obtain ⟨y, r2, e4, e5, e6⟩ := List.map_eq_cons_iff.mp e3
      have e7 := List.map_eq_nil_iff.mp e6
      subst e7; subst e4; subst e1
      obtain ⟨v, w, e, h1, h2⟩ := repL2 hx
      subst e
      rw [drf_int e2] at h1
      rw [drf_int e5] at h2
      exact call_min2 hc pins s σ H _ us Q I rv ⟨_, _, by rw [show v = _ from h1, show w = _ from h2], Kv.here q r rfl⟩
    · obtain ⟨x, r1, e1, e2, e3⟩ := List.map_eq_cons_iff.mp ex
      have e7 := List.map_eq_nil_iff.mp e3
      subst e7; subst e1
      obtain ⟨v, e, h1⟩ := repL1 hx
      subst e
      obtain ⟨a, ws, e, g1, g2⟩ := r.asL h1 e2
      subst e
      obtain ⟨n, ns, hi, q⟩ := q
      have ew := ints_rep hi g2
      subst ew
      refine cr_min hc pins s σ H _ us Q I rv ⟨a, n :: ns, rfl, SqL.of g1, by simp, fun k hk hle => ?_⟩
      have : k = minL n ns := by
        have h1 := hle _ (minL_mem ns n)
        have h2 := minL_le ns n k hk
        omega
      rw [this]
      exact Kv.here q r rfl
    · exact q.elim
  · -- max
    generalize ex : xs.map (drf S) = ys at q
    unfold wMax at q
    split at q
    · obtain ⟨x, r1, e1, e2, e3⟩ := List.map_eq_cons_iff.mp ex
      obtain ⟨y, r2, e4, e5, e6⟩ := List.map_eq_cons_iff.mp e3
      have e7 := List.map_eq_nil_iff.mp e6
      subst e7; subst e4; subst e1
      obtain ⟨v, w, e, h1, h2⟩ := repL2 hx
      subst e
      rw [drf_int e2] at h1
      rw [drf_int e5] at h2
      exact call_max2 hc pins s σ H _ us Q I rv ⟨_, _, by rw [show v = _ from h1, show w = _ from h2], Kv.here q r rfl⟩
    · obtain ⟨x, r1, e1, e2, e3⟩ := List.map_eq_cons_iff.mp ex
      obtain ⟨y, r2, e4, e5, e6⟩ := List.map_eq_cons_iff.mp e3
      obtain ⟨z, r3, e8, e9, e10⟩ := List.map_eq_cons_iff.mp e6
      have e7 := List.map_eq_nil_iff.mp e10
      subst e7; subst e8; subst e4; subst e1
      obtain ⟨v, w, u, e, h1, h2, h3⟩ := repL3 hx
      subst e
      rw [drf_int e2] at h1
      rw [drf_int e5] at h2
      rw [drf_int e9] at h3
      exact call_max3 hc pins s σ H _ us Q I rv ⟨_, _, _, by rw [show v = _ from h1, show w = _ from h2, show u = _ from h3], Kv.here q r rfl⟩
    · obtain ⟨x, r1, e1, e2, e3⟩ := List.map_eq_cons_iff.mp ex
      have e7 := List.map_eq_nil_iff.mp e3
      subst e7; subst e1
      obtain ⟨v, e, h1⟩ := repL1 hx
      subst e
      obtain ⟨a, ws, e, g1, g2⟩ := r.asL h1 e2
      subst e
      obtain ⟨n, ns, hi, q⟩ := q
      have ew := ints_rep hi g2
      subst ew
      refine cr_max hc pins s σ H _ us Q I rv ⟨a, n :: ns, rfl, SqL.of g1, by simp, fun k hk hle => ?_⟩
      have : k = maxL n ns := by
        have h1 := hle _ (maxL_mem ns n)
        have h2 := maxL_le ns n k hk
        omega
      rw [this]
      exact Kv.here q r rfl
    · exact q.elim
  · rename_i x
    obtain ⟨v, e, hy⟩ := repL1 hx
    subst e
    generalize ex : drf S x = x' at q
    split at q
    · obtain ⟨a, ws, e, g1, g2⟩ := r.asL hy ex
      subst e
      obtain ⟨ns, hi, q⟩ := q
      have ew := ints_rep hi g2
      subst ew
      exact cr_sum hc pins s σ H _ us Q I rv ⟨a, ns, rfl, SqL.of g1, Kv.here q r rfl⟩
    · exact q.elim
  · rename_i x
    obtain ⟨v, e, hy⟩ := repL1 hx
    subst e
    generalize ex : drf S x = x' at q
    split at q
    · obtain ⟨a, ws, e, g1, g2⟩ := r.asL hy ex
      subst e
      obtain ⟨ns, hi, q⟩ := q
      have ew := bools_rep hi g2
      subst ew
      exact cr_any hc pins s σ H _ us Q I rv ⟨a, ns, rfl, SqL.of g1, Kv.here q r rfl⟩
    · exact q.elim
  · rename_i x
    obtain ⟨v, e, hy⟩ := repL1 hx
    subst e
    generalize ex : drf S x = x' at q
    split at q
    · obtain ⟨a, ws, e, g1, g2⟩ := r.asL hy ex
      subst e
      obtain ⟨ns, hi, q⟩ := q
      have ew := bools_rep hi g2
      subst ew
      exact cr_all hc pins s σ H _ us Q I rv ⟨a, ns, rfl, SqL.of g1, Kv.here q r rfl⟩
    · exact q.elim
  · -- sorted
    rename_i x
    obtain ⟨v, e, hy⟩ := repL1 hx
    subst e
    generalize ex : drf S x = x' at q
    unfold wSorted at q
    split at q
    · obtain ⟨a, ws, e, g1, g2⟩ := r.asL hy ex
      subst e
      obtain ⟨ss, hi, q⟩ := q
      obtain ⟨ew, ho⟩ := strs_rep hi g2
      subst ew
      refine cr_sortedAny pins s σ H _ us Q I rv ⟨a, ss, rfl, SqL.of g1, fun p hp => ?_⟩
      exact Kv.new q r (repL_strs fun t ht => ho t ((sortS_perm ss).mem_iff.mp ht)) hp
    · obtain ⟨o, e⟩ := r.asS hy ex
      subst e
      refine cr_sortedText hc pins s σ H _ us Q I rv ⟨_, rfl, okS_len o, fun p hp => ?_⟩
      refine Kv.new q r (repL_strs fun t ht => ?_) hp
      obtain ⟨c, hc', e⟩ := List.mem_map.mp ((sortS_perm _).mem_iff.mp ht)
      subst e
      exact okS_one o hc'
    · exact q.elim
  · -- list
    rename_i x
    obtain ⟨v, e, hy⟩ := repL1 hx
    subst e
    generalize ex : drf S x = x' at q
    unfold wList at q
    split at q
    · obtain ⟨a, ws, e, g1, g2⟩ := r.asL hy ex
      subst e
      exact call_list_of pins s σ H _ us Q I rv ⟨a, ws, rfl, .inl (SqL.of g1), fun p hp => Kv.new q r g2 hp⟩
    · obtain ⟨a, ws, e, _, g1, g2⟩ := r.asT hy ex
      subst e
      exact call_list_of pins s σ H _ us Q I rv ⟨a, ws, rfl, .inr g1, fun p hp => Kv.new q r g2 hp⟩
    · obtain ⟨o, e⟩ := r.asS hy ex
      subst e
      exact cr_listText hc pins s σ H _ us Q I rv ⟨_, rfl, okS_len o, fun p hp => Kv.new q r (repL_chars o) hp⟩
    · exact q.elim
  · -- tuple
    rename_i x
    obtain ⟨v, e, hy⟩ := repL1 hx
    subst e
    generalize ex : drf S x = x' at q
    unfold wTuple at q
    split at q
    · obtain ⟨a, ws, e, g1, g2⟩ := r.asL hy ex
      subst e
      exact call_tuple_of pins s σ H _ us Q I rv ⟨a, ws, rfl, .inl ⟨SqL.of g1, fun p hp => Kv.newT q r g2 hp⟩⟩
    · obtain ⟨a, ws, e, g0, g1, g2⟩ := r.asT hy ex
      subst e
      exact call_tuple_of pins s σ H _ us Q I rv ⟨a, ws, rfl, .inr ⟨g1, Kv.here q r ⟨a, ws, rfl, g0, g2⟩⟩⟩
    · exact q.elim
  · -- repr
    rename_i x
    obtain ⟨v, e, hy⟩ := repL1 hx
    subst e
    obtain ⟨u, e, ru⟩ := vals1 rv
    subst e
    obtain ⟨d1, d2, d3, q⟩ := q
    exact call_repr (ca := ca) hg hu I ru r hy d1 d2 d3 (Kv.here q r rfl)
  · -- divmod
    obtain ⟨v, w, e, h1, h2⟩ := repL2 hx
    subst e
    refine call_divmod pins s σ H _ us Q I rv ⟨_, _, by rw [show v = _ from h1, show w = _ from h2], ⟨q.1, q.2.1⟩, fun p hp => ?_⟩
    exact Kv.newT q.2.2 r ⟨_, _, rfl, rfl, _, _, rfl, rfl, rfl⟩ hp
  · exact q.elim

/-! ### methods -/
def mtTy : Mt → String
  | .append => "list" | .pop => "list" | .join => "str" | .split => "str" | .lindex => "list" | .sindex => "str" | .count => "str" | .items => "dict"
def mtId : Mt → String
  | .append => "list.append" | .pop => "list.pop" | .join => "str.join" | .split => "str.split" | .lindex => "list.index" | .sindex => "str.index" | .count => "str.count" | .items => "dict.items"
def rMt (K : PySem.W.Frag) (ca : CA) (m : Mt) : V → List V → Hp → VK → Prop := fun v vs H Q => ∃ μ F S x xs, SR K ca μ F H S ∧ Rep K ca μ F x v ∧ RepL K ca μ F xs vs ∧ wMt m S x xs (Kv K ca μ F Q)
theorem join_strs (sep : List Nat) : ∀ ss : List (List Nat), Txt.join (sOf sep) (ss.map sOf) = sOf (joinL sep ss) := by
  intro ss
  rw [show Txt.join (sOf sep) (ss.map sOf) = Str.join (sOf sep) (ss.map sOf) from TL.join_eq _ _]
  induction ss with
  | nil => rfl
  | cons x r ih =>
    cases r with
    | nil => rfl
    | cons y r =>
      show sOf x ++ sOf sep ++ Str.join (sOf sep) ((y :: r).map sOf) = sOf (x ++ sep ++ joinL sep (y :: r))
      rw [ih, ← sOf_app, ← sOf_app]
theorem joinL_ok {sep : List Nat} (os : okS sep = true) : ∀ {ss : List (List Nat)}, (∀ s ∈ ss, okS s = true) → (∀ c ∈ joinL sep ss, c < 1114112) ∧ (joinL sep ss).length ≤ (ss.map (·.length)).sum + ss.length * sep.length
  | [], _ => ⟨(fun c h => by simp [joinL] at h), Nat.zero_le _⟩
  | [x], h => ⟨fun c hc => okS_all (h x (by simp)) c hc, by simp [joinL]⟩
  | x :: y :: r, h => by
    obtain ⟨g1, g2⟩ := joinL_ok os (ss := y :: r) fun t ht => h t (List.mem_cons_of_mem _ ht)
    refine ⟨fun c hc => ?_, ?_⟩
    · have hc' : c ∈ x ++ sep ++ joinL sep (y :: r) := hc
      rcases List.mem_append.mp hc' with z | z
      · rcases List.mem_append.mp z with z | z
        · exact okS_all (h x (by simp)) c z
        · exact okS_all os c z
      · exact g1 c z
    · show (x ++ sep ++ joinL sep (y :: r)).length ≤ _
      rw [List.length_append, List.length_append, List.map_cons, List.sum_cons, List.length_cons (a := x), Nat.succ_mul]
      omega
theorem mt_ok (m : Mt) : MtR X (mtId m) (rMt X.K ca m) := by
  intro pins s σ H v vs u us Q I rv rvs h
  obtain ⟨μ, F, S, x, xs, r, hx, hxs, q⟩ := h
  unfold wMt at q
  split at q
  · obtain ⟨w, e, hw⟩ := repL1 hxs
    subst e
    obtain ⟨a, e1, e2⟩ := hx
    subst e2
    obtain ⟨ys, g1, g2, q⟩ := q
    obtain ⟨ws, h1, h2⟩ := r.lst _ a ys g1 e1
    refine mt_append pins s σ H _ _ u us Q I rv rvs ⟨a, ws, w, rfl, rfl, h1, by rw [← h2.length, line_eq]; exact g2, ?_⟩
    exact Kv.setL q r e1 (h2.append ⟨w, [], rfl, hw, rfl⟩) rfl
  · obtain ⟨w, e, hw⟩ := repL1 hxs
    subst e
    obtain ⟨a, e1, e2⟩ := hx
    subst e2
    obtain ⟨ys, k, y, g1, g2, g3, q⟩ := q
    obtain ⟨ws, h1, h2⟩ := r.lst _ a ys g1 e1
    obtain ⟨z, z1, z2⟩ := h2.get g3
    rename_i _ _ _ nn ii
    have g2' : L2.ixN ws.length ii = some k := by rw [← h2.length]; exact g2
    obtain ⟨i1, i2, i3, i4⟩ := ixN_seq g2'
    have hlen : ws.length ≤ sizeLine := by
      obtain ⟨_, _, _, hz⟩ := I.list (SqL.of h1)
      exact hz
    have hs : sizeLine = 16777216 := sizeLine_eq
    refine mt_popAt pins s σ H _ _ u us Q I rv rvs ⟨a, ws, _, k, z, rfl, by rw [show w = _ from hw], h1, by omega, by omega, i1, z1, ?_⟩
    exact Kv.setL q r e1 (h2.eraseIdx k) z2
  · rename_i sep y
    obtain ⟨w, e, hw⟩ := repL1 hxs
    subst e
    obtain ⟨os, e2⟩ := hx
    subst e2
    generalize ey : drf S y = y' at q
    split at q
    · obtain ⟨a, ws, e, g1, g2⟩ := r.asL hw ey
      subst e
      obtain ⟨ss, hi, hz, q⟩ := q
      obtain ⟨ew, ho⟩ := strs_rep hi g2
      subst ew
      have e3 : (ss.map fun s => V.str (sOf s)) = (ss.map sOf).map V.str := by rw [List.map_map]; rfl
      rw [e3] at g1
      have hl : ((ss.map sOf).map (·.length)) = ss.map (·.length) := by
        rw [List.map_map]
        exact List.map_congr_left fun t _ => sOf_len t
      refine mt_join pins s σ H _ _ u us Q I rv rvs ⟨_, a, ss.map sOf, rfl, rfl, .inl (SqL.of g1), by rw [hl, sOf_len, List.length_map]; exact hz, ?_⟩
      rw [join_strs]
      obtain ⟨j1, j2⟩ := joinL_ok os ho
      exact Kv.here q r ⟨okS_mk (Nat.le_trans j2 hz) j1, rfl⟩
    · obtain ⟨a, ws, e, _, g1, g2⟩ := r.asT hw ey
      subst e
      obtain ⟨ss, hi, hz, q⟩ := q
      obtain ⟨ew, ho⟩ := strs_rep hi g2
      subst ew
      have e3 : (ss.map fun s => V.str (sOf s)) = (ss.map sOf).map V.str := by rw [List.map_map]; rfl
      rw [e3] at g1
      have hl : ((ss.map sOf).map (·.length)) = ss.map (·.length) := by
        rw [List.map_map]
        exact List.map_congr_left fun t _ => sOf_len t
      refine mt_join pins s σ H _ _ u us Q I rv rvs ⟨_, a, ss.map sOf, rfl, rfl, .inr g1, by rw [hl, sOf_len, List.length_map]; exact hz, ?_⟩
      rw [join_strs]
      obtain ⟨j1, j2⟩ := joinL_ok os ho
      exact Kv.here q r ⟨okS_mk (Nat.le_trans j2 hz) j1, rfl⟩
    · exact q.elim
  · exact q.elim
theorem mt_ty {m : Mt} {μ : List Addr} {F H : Hp} {S : Sto} {x : PV} {v : V} (r : SR X.K ca μ F H S) (hx : Rep X.K ca μ F x v) (h : mtOk m S x) : tyV X.K (mtTy m) v H := by
  unfold mtOk at h
  split at h
  · obtain ⟨xs, h⟩ := h
    obtain ⟨a, e1, e2⟩ := hx
    subst e2
    obtain ⟨ws, h1, h2⟩ := r.lst _ a xs h e1
    exact .inl ⟨rfl, ws, SqL.of h1⟩
  · obtain ⟨xs, h⟩ := h
    obtain ⟨a, e1, e2⟩ := hx
    subst e2
    obtain ⟨ws, h1, h2⟩ := r.lst _ a xs h e1
    exact .inl ⟨rfl, ws, SqL.of h1⟩
  · obtain ⟨_, e⟩ := hx; subst e; rfl
  · obtain ⟨_, e⟩ := hx; subst e; rfl
  · obtain ⟨_, e⟩ := hx; subst e; rfl
  · exact h.elim
end
end PL
set_option maxRecDepth 100000
set_option maxHeartbeats 4000000
/-! PL1f: a text turned round; what follows may be weakened. -/
namespace PL
open PySem PySem.Spec PyProof.Rows L2

section
variable {X : Cx}
theorem rev_picked (x : Str) (u : Tok) : ((slicePicked x none none (some ((-1 : Int), u))).filterMap (x.cps[·]?)) = x.cps.toList.reverse := by
  have h := step_rev_list x u
  have e : Txt.sliceBy x none none (-1, u) = ⟨((slicePicked x none none (some ((-1 : Int), u))).filterMap (x.cps[·]?)).toArray⟩ := by
    unfold Txt.sliceBy
    rw [if_neg]
    have : ((((some ((-1 : Int), u)).map (·.1)).getD 1 == 1)) = false := rfl
    rw [this]; simp
  rw [e] at h
  have h' : ((slicePicked x none none (some ((-1 : Int), u))).filterMap (x.cps[·]?)) = (List.range x.length).map fun k => x.cps.getD (x.length - 1 - k) 0 := by simpa using h
  rw [h']
  refine List.ext_getElem ?_ fun i h1 h2 => ?_
  · simp [Str.length]
  · simp only [List.length_map, List.length_range] at h1
    rw [List.getElem_map, List.getElem_range, List.getElem_reverse]
    have hi : x.length - 1 - i < x.cps.size := by show x.cps.size - 1 - i < _; have : i < x.cps.size := h1; omega
    show x.cps.getD (x.cps.size - 1 - i) 0 = _
    have hi' : x.cps.size - 1 - i < x.cps.size := hi
    simp [Array.getD, hi', Array.length_toList]
def tRevS (te : TE) : TE := fun σ H Q => te σ H fun v H1 => ∃ s : List Nat, v = .str (sOf s) ∧ okS s = true ∧ Q (.str (sOf s.reverse)) H1
theorem pe_revS {e : Expr} {te : TE} {k : Nat} {p1 p2 p3 pos : Pos} (he : PE X e te) : PE X (.Subscript e (.Slice none none (some (.UnaryOp .USub (.Constant (.int 1) k p1) p2)) p3) pos) (tRevS te) := by
  refine ⟨fun pins s σ H Q I h => ?_⟩
  refine Subscript_ (thn (he.run pins s σ H _ I h) fun v s1 ⟨x, H1, I1, r1, q1⟩ => ?_)
  obtain ⟨z, ex, ho, q⟩ := q1
  subst ex
  obtain ⟨t, r1⟩ := r1
  subst r1
  have hst : PO X (some (.UnaryOp .USub (.Constant (.int 1) k p1) p2)) (tPart (tUn (rU fun i => .int (-i)) (tC (.int 1)))) := po_some (pe_un un_neg pe_int)
  refine wpAny_Slice (thn (po_none.run pins s1 σ H1 (fun o H2 => o = none ∧ H2 = H1) I1 ⟨rfl, rfl⟩) fun vl s2 ⟨l, H2, I2, pl, el, e2⟩ => ?_)
  subst el e2
  refine thn (po_none.run pins s2 σ H2 (fun o H3 => o = none ∧ H3 = H2) I2 ⟨rfl, rfl⟩) fun vu s3 ⟨u, H3, I3, pu, eu, e3⟩ => ?_
  subst eu e3
  refine thn (hst.run pins s3 σ H3 (fun o H4 => o = some (-1) ∧ H4 = H3) I3 ⟨1, rfl, -1, rfl, rfl, rfl⟩) fun vs s4 ⟨o, H4, I4, ps, eo, e4⟩ => ?_
  subst eo e4
  have I5 : Inv X pins σ H4 { s4 with heap := s4.heap.push { cls := .type "slice", data := .fields #[vl, vu, vs] } } := I4.kept (t' := s4.toks) fun b ob q => Heap.get?_push_of_some _ q
  obtain ⟨os, hos, hcs, hds⟩ := Heap.IsSliceOf.new s4.heap vl vu vs
  obtain ⟨l, rfl, el⟩ := IsPart.raw pl
  obtain ⟨u, rfl, eu⟩ := IsPart.raw pu
  obtain ⟨st, rfl, est⟩ := IsPart.raw ps
  cases l with
  | some _ => cases el
  | none =>
    cases u with
    | some _ => cases eu
    | none =>
      cases st with
      | none => cases est
      | some st =>
        obtain ⟨k', tk⟩ := st
        have ek : k' = -1 := Option.some.inj est
        subst ek
        show wpAny (model X.prog X.w) X.A (subscriptTail e (.Slice none none (some (.UnaryOp .USub (.Constant (.int 1) k p1) p2)) p3) (.str (sOf z) t) (.ref s4.heap.objs.size)) (EP X pins σ Q) X.xe { s4 with heap := s4.heap.push { cls := .type "slice", data := .fields #[partValue none, partValue none, partValue (some (-1, tk))] } }
        refine tail_any (ops := [.ref s4.heap.objs.size, .str (sOf z) t]) (typeIs_str _ _ _) F.slot_str_getitem.lookup ?_ (by with_unfolding_all rfl)
        refine wpAny_getItem_str_slice (l := none) (u := none) (st := some (-1, tk)) ⟨os, hos, hcs, hds⟩ rfl ?_
        unfold sliceMade
        rw [if_neg (by simp)]
        rw [rev_picked, sOf_list]
        refine ⟨?_, .str (sOf z.reverse), H4, I5.tok _, ⟨_, rfl⟩, q⟩
        show (sOf z.reverse).length ≤ sizeLine
        rw [sOf_len, List.length_reverse, line_eq]
        exact okS_len ho
end

/-! ### what follows may be weakened -/
/-- all specs that are known let what follows be weakened -/
def Ctx.Mono (Γ : Ctx) : Prop := ∀ f sp, Γ.fn f = some sp → ∀ (vs : List PV) (S : Sto) (Q Q' : K1) (E E' : XP), sp vs S Q E → (∀ v S', Q v S' → Q' v S') → (∀ e S', E e S' → E' e S') → sp vs S Q' E'

section
variable {S : Sto} {Q Q' : K1}
theorem wBin_mono {o : Bop} {x y : PV} (h : wBin o S x y Q) (g : ∀ v S', Q v S' → Q' v S') : wBin o S x y Q' := by
  cases o with
  | add =>
    have h' : wAdd S (drf S x) (drf S y) Q := h
    show wAdd S (drf S x) (drf S y) Q'
    generalize drf S x = x' at h' ⊢
    generalize drf S y = y' at h' ⊢
    unfold wAdd at h' ⊢
    split at h' <;> first | exact g _ _ h' | exact ⟨h'.1, g _ _ h'.2⟩ | exact False.elim h'
  | sub =>
    have h' : wSub S x y Q := h
    show wSub S x y Q'
    unfold wSub at h' ⊢
    split at h' <;> first | exact g _ _ h' | exact False.elim h'
  | mul =>
    have h' : wMul S (drf S x) y Q := h
    show wMul S (drf S x) y Q'
    generalize drf S x = x' at h' ⊢
    unfold wMul at h' ⊢
    split at h' <;> first | exact ⟨h'.1, g _ _ h'.2⟩ | exact ⟨h'.1, h'.2.1, h'.2.2.1, g _ _ h'.2.2.2⟩ | exact False.elim h'
  | fdiv =>
    have h' : wFdiv S x y Q := h
    show wFdiv S x y Q'
    unfold wFdiv at h' ⊢
    split at h' <;> first | exact ⟨h'.1, h'.2.1, g _ _ h'.2.2⟩ | exact False.elim h'
  | mod =>
    have h' : wMod S x y Q := h
    show wMod S x y Q'
    unfold wMod at h' ⊢
    split at h' <;> first | exact ⟨h'.1, g _ _ h'.2⟩ | exact False.elim h'
  | pow =>
    have h' : wPow S x y Q := h
    show wPow S x y Q'
    unfold wPow at h' ⊢
    split at h' <;> first | exact ⟨h'.1, h'.2.1, h'.2.2.1, g _ _ h'.2.2.2⟩ | exact False.elim h'
theorem wNeg_mono {x : PV} (h : wNeg S x Q) (g : ∀ v S', Q v S' → Q' v S') : wNeg S x Q' := by
  unfold wNeg at h ⊢
  split at h <;> first | exact g _ _ h | exact False.elim h
theorem wNew_mono {m : Bool} {xs : List PV} (h : wNew m S xs Q) (g : ∀ v S', Q v S' → Q' v S') : wNew m S xs Q' := by
  cases m with
  | true => exact g _ _ (show Q (.ref S.length) (S ++ [.lst xs]) from h)
  | false => exact g _ _ (show Q (.lst xs) S from h)
theorem wIx_mono {x i : PV} (h : wIx S i x Q) (g : ∀ v S', Q v S' → Q' v S') : wIx S i x Q' := by
  unfold wIx at h ⊢
  split at h
  · split at h
    · obtain ⟨v, h1, h2⟩ := h; exact ⟨v, h1, g _ _ h2⟩
    · exact h.elim
  · split at h
    · obtain ⟨v, h1, h2⟩ := h; exact ⟨v, h1, g _ _ h2⟩
    · exact h.elim
  · split at h
    · obtain ⟨v, h1, h2⟩ := h; exact ⟨v, h1, g _ _ h2⟩
    · exact h.elim
  · split at h
    · obtain ⟨v, h1, h2⟩ := h; exact ⟨v, h1, g _ _ h2⟩
    · exact h.elim
  · obtain ⟨h0, v, h1, h2⟩ := h; exact ⟨h0, v, h1, g _ _ h2⟩
  · exact h.elim
theorem wSl_mono {x : PV} {lo hi : Option Int} (h : wSl S lo hi x Q) (g : ∀ v S', Q v S' → Q' v S') : wSl S lo hi x Q' := by
  unfold wSl at h ⊢
  split at h <;> first | exact g _ _ h | exact False.elim h
theorem wRev_mono {x : PV} (h : wRev S x Q) (g : ∀ v S', Q v S' → Q' v S') : wRev S x Q' := by
  unfold wRev at h ⊢
  split at h <;> first | exact g _ _ h | exact False.elim h
theorem wLen_mono {x : PV} (h : wLen S x Q) (g : ∀ v S', Q v S' → Q' v S') : wLen S x Q' := by
  unfold wLen at h ⊢
  split at h <;> first | exact g _ _ h | exact False.elim h
theorem wMin_mono {x : List PV} (h : wMin S x Q) (g : ∀ v S', Q v S' → Q' v S') : wMin S x Q' := by
  unfold wMin at h ⊢
  split at h
  · exact g _ _ h
  · obtain ⟨n, ns, h1, h2⟩ := h; exact ⟨n, ns, h1, g _ _ h2⟩
  · exact False.elim h
theorem wMax_mono {x : List PV} (h : wMax S x Q) (g : ∀ v S', Q v S' → Q' v S') : wMax S x Q' := by
  unfold wMax at h ⊢
  split at h
  · exact g _ _ h
  · exact g _ _ h
  · obtain ⟨n, ns, h1, h2⟩ := h; exact ⟨n, ns, h1, g _ _ h2⟩
  · exact False.elim h
theorem wSorted_mono {m : Bool} {x : PV} (h : wSorted m S x Q) (g : ∀ v S', Q v S' → Q' v S') : wSorted m S x Q' := by
  unfold wSorted at h ⊢
  split at h
  · obtain ⟨n, h1, h2⟩ := h; exact ⟨n, h1, wNew_mono h2 g⟩
  · exact wNew_mono h g
  · exact False.elim h
theorem wList_mono {m : Bool} {x : PV} (h : wList m S x Q) (g : ∀ v S', Q v S' → Q' v S') : wList m S x Q' := by
  unfold wList at h ⊢
  split at h <;> first | exact wNew_mono h g | exact False.elim h
theorem wTuple_mono {x : PV} (h : wTuple S x Q) (g : ∀ v S', Q v S' → Q' v S') : wTuple S x Q' := by
  unfold wTuple at h ⊢
  split at h <;> first | exact g _ _ h | exact False.elim h
theorem ex2_mono {α : Type} {p : α → Prop} {f : α → PV} (h : ∃ ns, p ns ∧ Q (f ns) S) (g : ∀ v S', Q v S' → Q' v S') : ∃ ns, p ns ∧ Q' (f ns) S := by
  obtain ⟨n, h1, h2⟩ := h
  exact ⟨n, h1, g _ _ h2⟩
theorem wBi_mono {m : Bool} {f : Bi} {vs : List PV} (h : wBi m f S vs Q) (g : ∀ v S', Q v S' → Q' v S') : wBi m f S vs Q' := by
  unfold wBi at h ⊢
  split at h
  · exact wLen_mono h g
  · exact g _ _ h
  · exact g _ _ h
  · exact g _ _ h
  · exact wMin_mono h g
  · exact wMax_mono h g
  · rename_i x
    generalize drf S x = y at h ⊢
    split at h
    · exact ex2_mono h g
    · exact False.elim h
  · rename_i x
    generalize drf S x = y at h ⊢
    split at h
    · exact ex2_mono h g
    · exact False.elim h
  · rename_i x
    generalize drf S x = y at h ⊢
    split at h
    · exact ex2_mono h g
    · exact False.elim h
  · exact wSorted_mono h g
  · exact wList_mono h g
  · exact wTuple_mono h g
  · exact ⟨h.1, h.2.1, h.2.2.1, g _ _ h.2.2.2⟩
  · exact ⟨h.1, h.2.1, g _ _ h.2.2⟩
  · exact False.elim h
theorem wMt_mono {m : Mt} {o : PV} {vs : List PV} (h : wMt m S o vs Q) (g : ∀ v S', Q v S' → Q' v S') : wMt m S o vs Q' := by
  unfold wMt at h ⊢
  split at h
  · obtain ⟨xs, h1, h2, h3⟩ := h; exact ⟨xs, h1, h2, g _ _ h3⟩
  · obtain ⟨xs, k, y, h1, h2, h3, h4⟩ := h; exact ⟨xs, k, y, h1, h2, h3, g _ _ h4⟩
  · rename_i x
    generalize drf S x = y at h ⊢
    split at h
    · obtain ⟨xs, h1, h2, h3⟩ := h; exact ⟨xs, h1, h2, g _ _ h3⟩
    · obtain ⟨xs, h1, h2, h3⟩ := h; exact ⟨xs, h1, h2, g _ _ h3⟩
    · exact False.elim h
  · exact h.elim
theorem asg_mono {p : Pt} {v : PV} {ρ : Env} {k k' : Env → Prop} (h : asg p v ρ k) (g : ∀ ρ', k ρ' → k' ρ') : asg p v ρ k' := by
  unfold asg at h ⊢
  split at h
  · exact g _ h
  · split at h
    · obtain ⟨ρ', h1, h2⟩ := h; exact ⟨ρ', h1, g _ h2⟩
    · exact h.elim
theorem wComp_mono {m : Bool} {g : Sto → Prop} {a : PV → (Env → Prop) → Prop} {c : Env → Sto → KB → Prop} {e : Env → Sto → K1 → Prop}
    (hg : ∀ v S', Q v S' → Q' v S') (ha : ∀ v (k k' : Env → Prop), a v k → (∀ ρ, k ρ → k' ρ) → a v k') (hc : ∀ ρ S (k k' : KB), c ρ S k → (∀ b S', k b S' → k' b S') → c ρ S k') (he : ∀ ρ S (k k' : K1), e ρ S k → (∀ b S', k b S' → k' b S') → e ρ S k') :
    ∀ (xs acc : List PV) (S : Sto), wComp m g a c e Q xs acc S → wComp m g a c e Q' xs acc S
  | [], acc, S, h => ⟨h.1, wNew_mono h.2 hg⟩
  | x :: r, acc, S, h => by
    refine ⟨h.1, ha _ _ _ h.2 fun ρ h1 => hc _ _ _ _ h1 fun b S1 h2 => ?_⟩
    cases b with
    | true =>
      simp only [if_true] at h2 ⊢
      exact he _ _ _ _ h2 fun y S2 h3 => wComp_mono hg ha hc he r _ S2 h3
    | false =>
      simp only [Bool.false_eq_true, if_false] at h2 ⊢
      exact wComp_mono hg ha hc he r _ S1 h2
theorem truth_mono {k k' : KB} (g : ∀ b S', k b S' → k' b S') : ∀ v S', (∃ b, truth S' v = some b ∧ k b S') → ∃ b, truth S' v = some b ∧ k' b S' := fun v S' ⟨b, h1, h2⟩ => ⟨b, h1, g _ _ h2⟩
end

section
variable {Γ : Ctx} (hΓ : Γ.Mono)
include hΓ
mutual
theorem wE_mono : ∀ (e : IR) (E : XP) (ρ : Env) (S : Sto) (Q Q' : K1), wE Γ E e ρ S Q → (∀ v S', Q v S' → Q' v S') → wE Γ E e ρ S Q'
  | .var i, E, ρ, S, Q, Q', h, g => by
    unfold wE at h ⊢
    split at h
    · exact g _ _ h
    · exact h.elim
  | .cst c, E, ρ, S, Q, Q', h, g => by
    unfold wE at h ⊢
    split at h
    · exact g _ _ h
    · exact g _ _ h
    · exact g _ _ h
    · exact ⟨h.1, g _ _ h.2⟩
  | .glob x, E, ρ, S, Q, Q', h, g => by
    unfold wE at h ⊢
    split at h
    · exact g _ _ h
    · exact h.elim
  | .bin o a b, E, ρ, S, Q, Q', h, g => wE_mono a E ρ S _ _ h fun x S1 h1 => wE_mono b E ρ S1 _ _ h1 fun y S2 h2 => wBin_mono h2 g
  | .neg a, E, ρ, S, Q, Q', h, g => wE_mono a E ρ S _ _ h fun x S1 h1 => wNeg_mono h1 g
  | .cmp o a b, E, ρ, S, Q, Q', h, g => wE_mono a E ρ S _ _ h fun x S1 h1 => wE_mono b E ρ S1 _ _ h1 fun y S2 h2 => wCmpB_mono h2 fun k => g _ _
  | .chain o1 o2 a b c, E, ρ, S, Q, Q', h, g => wE_mono a E ρ S _ _ h fun x S1 h1 => wE_mono b E ρ S1 _ _ h1 fun y S2 h2 => wCmpB_mono h2 fun k h3 => by
      cases k with
      | true =>
        simp only [if_true] at h3 ⊢
        exact wE_mono c E ρ S2 _ _ h3 fun z S3 h4 => wCmpB_mono h4 fun k => g _ _
      | false =>
        simp only [Bool.false_eq_true, if_false] at h3 ⊢
        exact g _ _ h3
  | .and_ a b, E, ρ, S, Q, Q', h, g => wE_mono a E ρ S _ _ h fun x S1 h1 => by
      split at h1
      · split at h1
        · rename_i hk; simp only [hk, if_true]; exact wE_mono b E ρ S1 _ _ h1 g
        · rename_i hk; simp only [hk, if_false]; exact g _ _ h1
      · exact h1.elim
  | .or_ a b, E, ρ, S, Q, Q', h, g => wE_mono a E ρ S _ _ h fun x S1 h1 => by
      split at h1
      · split at h1
        · rename_i hk; simp only [hk, if_true]; exact g _ _ h1
        · rename_i hk; simp only [hk, if_false]; exact wE_mono b E ρ S1 _ _ h1 g
      · exact h1.elim
  | .not_ a, E, ρ, S, Q, Q', h, g => wE_mono a E ρ S _ _ h fun x S1 h1 => by
      split at h1
      · exact g _ _ h1
      · exact h1.elim
  | .ite c a b, E, ρ, S, Q, Q', h, g => wT_mono c E ρ S _ _ h fun k S1 h1 => by
      cases k with
      | true => simp only [if_true] at h1 ⊢; exact wE_mono a E ρ S1 _ _ h1 g
      | false => simp only [Bool.false_eq_true, if_false] at h1 ⊢; exact wE_mono b E ρ S1 _ _ h1 g
  | .tup es, E, ρ, S, Q, Q', h, g => wEs_mono es E ρ S _ _ h fun vs S1 h1 => ⟨h1.1, g _ _ h1.2⟩
  | .lst m es, E, ρ, S, Q, Q', h, g => wEs_mono es E ρ S _ _ h fun vs S1 h1 => ⟨h1.1, wNew_mono h1.2 g⟩
  | .ix a i, E, ρ, S, Q, Q', h, g => wE_mono a E ρ S _ _ h fun x S1 h1 => wE_mono i E ρ S1 _ _ h1 fun y S2 h2 => wIx_mono h2 g
  | .slice a lo hi, E, ρ, S, Q, Q', h, g => wE_mono a E ρ S _ _ h fun x S1 h1 => wO_mono lo E ρ S1 _ _ h1 fun l S2 h2 => wO_mono hi E ρ S2 _ _ h2 fun u S3 h3 => wSl_mono h3 g
  | .rev a, E, ρ, S, Q, Q', h, g => wE_mono a E ρ S _ _ h fun x S1 h1 => wRev_mono h1 g
  | .call f es, E, ρ, S, Q, Q', h, g => wEs_mono es E ρ S _ _ h fun vs S1 h1 => by
      split at h1
      · rename_i sp hf
        exact hΓ f sp hf vs S1 _ _ _ _ h1 g fun _ _ z => z
      · exact h1.elim
  | .callk p es kes, E, ρ, S, Q, Q', h, g => wEs_mono es E ρ S _ _ h fun vs S1 h1 => wEs_mono kes E ρ S1 _ _ h1 fun ws S2 h2 => by
      split at h2
      · rename_i sp hf
        exact hΓ p.f sp hf _ S2 _ _ _ _ h2 g fun _ _ z => z
      · exact h2.elim
  | .isi a t, E, ρ, S, Q, Q', h, g => wE_mono a E ρ S _ _ h fun x S1 ⟨b, h1, h2⟩ => ⟨b, h1, g _ _ h2⟩
  | .bi m f es, E, ρ, S, Q, Q', h, g => wEs_mono es E ρ S _ _ h fun vs S1 h1 => wBi_mono h1 g
  | .mth m o es, E, ρ, S, Q, Q', h, g => wE_mono o E ρ S _ _ h fun x S1 h1 => ⟨h1.1, wEs_mono es E ρ S1 _ _ h1.2 fun vs S2 h2 => wMt_mono h2 g⟩
  | .comp m own p it c e, E, ρ, S, Q, Q', h, g => wIt_mono it E ρ S _ _ h fun xs gd S1 h1 =>
      wComp_mono (m := m) (g := gd) (a := fun x k => asg p x (wipe ρ own) k) (c := fun ρ' S' k => wC Γ (fun _ _ => False) c ρ' S' k) (e := fun ρ' S' k => wE Γ (fun _ _ => False) e ρ' S' k)
        g (fun v k k' a b => asg_mono a b) (fun ρ S k k' a b => wC_mono c _ ρ S k k' a b) (fun ρ S k k' a b => wE_mono e _ ρ S k k' a b) xs [] S1 h1
theorem wT_mono : ∀ (e : IR) (E : XP) (ρ : Env) (S : Sto) (Q Q' : KB), wT Γ E e ρ S Q → (∀ v S', Q v S' → Q' v S') → wT Γ E e ρ S Q'
  | .and_ a b, E, ρ, S, Q, Q', h, g => wT_mono a E ρ S _ _ h fun k S1 h1 => by
      cases k with
      | true => simp only [if_true] at h1 ⊢; exact wT_mono b E ρ S1 _ _ h1 g
      | false => simp only [Bool.false_eq_true, if_false] at h1 ⊢; exact g _ _ h1
  | .or_ a b, E, ρ, S, Q, Q', h, g => wT_mono a E ρ S _ _ h fun k S1 h1 => by
      cases k with
      | true => simp only [if_true] at h1 ⊢; exact g _ _ h1
      | false => simp only [Bool.false_eq_true, if_false] at h1 ⊢; exact wT_mono b E ρ S1 _ _ h1 g
  | .not_ a, E, ρ, S, Q, Q', h, g => wT_mono a E ρ S _ _ h fun k S1 h1 => g _ _ h1
  | .cmp o a b, E, ρ, S, Q, Q', h, g => wE_mono a E ρ S _ _ h fun x S1 h1 => wE_mono b E ρ S1 _ _ h1 fun y S2 h2 => wCmpB_mono h2 fun k => g _ _
  | .chain o1 o2 a b c, E, ρ, S, Q, Q', h, g => wE_mono a E ρ S _ _ h fun x S1 h1 => wE_mono b E ρ S1 _ _ h1 fun y S2 h2 => wCmpB_mono h2 fun k h3 => by
      cases k with
      | true =>
        simp only [if_true] at h3 ⊢
        exact wE_mono c E ρ S2 _ _ h3 fun z S3 h4 => wCmpB_mono h4 fun k => g _ _
      | false =>
        simp only [Bool.false_eq_true, if_false] at h3 ⊢
        exact g _ _ h3
  | .var i, E, ρ, S, Q, Q', h, g => by
    unfold wT at h ⊢
    split at h
    · exact truth_mono g _ _ h
    · exact h.elim
  | .call f es, E, ρ, S, Q, Q', h, g => wEs_mono es E ρ S _ _ h fun vs S1 h1 => by
      split at h1
      · rename_i sp hf
        exact hΓ f sp hf vs S1 _ _ _ _ h1 (truth_mono g) fun _ _ z => z
      · exact h1.elim
  | .callk p es kes, E, ρ, S, Q, Q', h, g => wEs_mono es E ρ S _ _ h fun vs S1 h1 => wEs_mono kes E ρ S1 _ _ h1 fun ws S2 h2 => by
      split at h2
      · rename_i sp hf
        exact hΓ p.f sp hf _ S2 _ _ _ _ h2 (truth_mono g) fun _ _ z => z
      · exact h2.elim
  | .isi a t, E, ρ, S, Q, Q', h, g => wE_mono a E ρ S _ _ h fun x S1 ⟨b, h1, h2⟩ => ⟨b, h1, g _ _ h2⟩
  | .bi m f es, E, ρ, S, Q, Q', h, g => wEs_mono es E ρ S _ _ h fun vs S1 h1 => wBi_mono h1 (truth_mono g)
  | .ix a i, E, ρ, S, Q, Q', h, g => wE_mono a E ρ S _ _ h fun x S1 h1 => wE_mono i E ρ S1 _ _ h1 fun y S2 h2 => wIx_mono h2 (truth_mono g)
  | .cst _, _, _, _, _, _, h, _ => h.elim
  | .glob _, _, _, _, _, _, h, _ => h.elim
  | .bin _ _ _, _, _, _, _, _, h, _ => h.elim
  | .neg _, _, _, _, _, _, h, _ => h.elim
  | .ite _ _ _, _, _, _, _, _, h, _ => h.elim
  | .tup _, _, _, _, _, _, h, _ => h.elim
  | .lst _ _, _, _, _, _, _, h, _ => h.elim
  | .slice _ _ _, _, _, _, _, _, h, _ => h.elim
  | .rev _, _, _, _, _, _, h, _ => h.elim
  | .mth _ _ _, _, _, _, _, _, h, _ => h.elim
  | .comp _ _ _ _ _ _, _, _, _, _, _, h, _ => h.elim
theorem wC_mono : ∀ (c : IRo) (E : XP) (ρ : Env) (S : Sto) (Q Q' : KB), wC Γ E c ρ S Q → (∀ v S', Q v S' → Q' v S') → wC Γ E c ρ S Q'
  | .none, E, ρ, S, Q, Q', h, g => g _ _ h
  | .some c, E, ρ, S, Q, Q', h, g => wT_mono c E ρ S Q Q' h g
theorem wO_mono : ∀ (c : IRo) (E : XP) (ρ : Env) (S : Sto) (Q Q' : Option Int → Sto → Prop), wO Γ E c ρ S Q → (∀ v S', Q v S' → Q' v S') → wO Γ E c ρ S Q'
  | .none, E, ρ, S, Q, Q', h, g => g _ _ h
  | .some c, E, ρ, S, Q, Q', h, g => wE_mono c E ρ S _ _ h fun x S1 h1 => by
      split at h1
      · exact g _ _ h1
      · exact h1.elim
theorem wEs_mono : ∀ (es : IRs) (E : XP) (ρ : Env) (S : Sto) (Q Q' : KL), wEs Γ E es ρ S Q → (∀ v S', Q v S' → Q' v S') → wEs Γ E es ρ S Q'
  | .nil, E, ρ, S, Q, Q', h, g => g _ _ h
  | .cons e es, E, ρ, S, Q, Q', h, g => wE_mono e E ρ S _ _ h fun x S1 h1 => wEs_mono es E ρ S1 _ _ h1 fun xs S2 h2 => g _ _ h2
theorem wIt_mono : ∀ (it : It) (E : XP) (ρ : Env) (S : Sto) (Q Q' : List PV → (Sto → Prop) → Sto → Prop), wIt Γ E it ρ S Q → (∀ xs gd S', Q xs gd S' → Q' xs gd S') → wIt Γ E it ρ S Q'
  | .seq e, E, ρ, S, Q, Q', h, g => wE_mono e E ρ S _ _ h fun x S1 ⟨xs, h1, h2⟩ => ⟨xs, h1, g _ _ _ h2⟩
  | .rng1 e, E, ρ, S, Q, Q', h, g => wE_mono e E ρ S _ _ h fun x S1 h1 => by
      split at h1
      · exact ⟨h1.1, h1.2.1, g _ _ _ h1.2.2⟩
      · exact h1.elim
  | .rng2 a b, E, ρ, S, Q, Q', h, g => wE_mono a E ρ S _ _ h fun x S1 h1 => wE_mono b E ρ S1 _ _ h1 fun y S2 h2 => by
      split at h2
      · exact ⟨h2.1, g _ _ _ h2.2⟩
      · exact h2.elim
  | .enum _, _, _, _, _, _, h, _ => h.elim
  | .zip _ _, _, _, _, _, _, h, _ => h.elim
  | .items _, _, _, _, _, _, h, _ => h.elim
end
/-- as many values as expressions -/
theorem wEs_len : ∀ (es : IRs) (E : XP) (ρ : Env) (S : Sto) (Q : KL), wEs Γ E es ρ S Q → wEs Γ E es ρ S fun vs S' => vs.length = es.len ∧ Q vs S'
  | .nil, E, ρ, S, Q, h => ⟨rfl, h⟩
  | .cons e es, E, ρ, S, Q, h => wE_mono hΓ e E ρ S _ _ h fun x S1 h1 => wEs_mono hΓ es E ρ S1 _ _ (wEs_len es E ρ S1 _ h1) fun xs S2 ⟨l, h2⟩ => ⟨by show xs.length + 1 = es.len + 1; rw [l], h2⟩
end
end PL
set_option maxRecDepth 100000
set_option maxHeartbeats 4000000
/-! PL1g: what is wanted, as a reading of the machine's state. -/
namespace PL
open PySem PySem.Spec PyProof.Rows L2

/-! ### exceptions, promises by values -/
def RepX (K : PySem.W.Frag) (ca : CA) (μ : List Addr) (F : Hp) (ex : Ex) (u : Value) (d : Option Addr) (H : Hp) : Prop :=
  (∃ C, ca.cls ex.cls = some C ∧ u = .ref C ∧ (ex.fs = [] ∨ ∃ a vs, d = some a ∧ H a = some (.xd vs) ∧ RepF K ca μ F ex.fs vs)) ∨ (ca.cls ex.cls = none ∧ u = .type ex.cls ∧ ex.fs = [])
def KvE (K : PySem.W.Frag) (ca : CA) (μ : List Addr) (F : Hp) (E : XK) : XP := fun ex S' => ∀ (u : Value) (d : Option Addr) (H' : Hp) (μ' : List Addr) (F' : Hp), Ext μ μ' → Same F F' → SR K ca μ' F' H' S' → RepX K ca μ' F' ex u d H' → E u d H'
abbrev Cls := String → Option Addr
/-- what the machine's context wishes of exceptions, by the slots; the slots that this code may store to -/
structure Wh where
  W : WX
  mt : Nat → Bool
def Wh.at (E : Wh) (σ : L2.St) : XK := fun c d H => E.W c d σ H
def Wh.none : Wh := ⟨fun _ _ _ _ => False, fun _ => true⟩
def Agree (E : Wh) (σ σ' : L2.St) : Prop := ∀ i, E.mt i = false → σ'[i]? = σ[i]?
theorem Agree.refl (E : Wh) (σ : L2.St) : Agree E σ σ := fun _ _ => rfl
theorem Agree.set {E : Wh} {σ : L2.St} {i : Nat} {v : Option V} (h : E.mt i = true) : Agree E σ (σ.set i v) := fun j hj => by
  rw [List.getElem?_set_ne fun (e : i = j) => by rw [e, hj] at h; cases h]
theorem Agree.trans {E : Wh} {σ σ1 σ2 : L2.St} (h : Agree E σ σ1) (g : Agree E σ1 σ2) : Agree E σ σ2 := fun i hi => (g i hi).trans (h i hi)
def liftS (K : PySem.W.Frag) (cls : Cls) (sp : Spec) : Sp := fun vs H Q E => ∃ hid μ F S xs, SR K ⟨cls, hid⟩ μ F H S ∧ RepL K ⟨cls, hid⟩ μ F xs vs ∧ sp xs S (Kv K ⟨cls, hid⟩ μ F Q) (KvE K ⟨cls, hid⟩ μ F E)

section
variable {K : PySem.W.Frag} {ca : CA} {μ μ' μ1 : List Addr} {F F' F1 H H' H1 : Hp} {S S1 : Sto} {Q : VK} {E0 : Wh} {cls : Cls} {Γ : Ctx}
theorem Kv.mono (m : Ext μ μ') (f : Same F F') {x : PV} (h : Kv K ca μ F Q x S) : Kv K ca μ' F' Q x S := fun v H1 μ1 F1 e s => h v H1 μ1 F1 (m.trans e) (f.trans s)
theorem KvE.mono (m : Ext μ μ') (f : Same F F') {x : Ex} {Ek : XK} (h : KvE K ca μ F Ek x S) : KvE K ca μ' F' Ek x S := fun v d H1 μ1 F1 e s => h v d H1 μ1 F1 (m.trans e) (f.trans s)
/-- the slots -/
def EnvR (K : PySem.W.Frag) (ca : CA) (μ : List Addr) (F : Hp) (ρ : Env) (σ : L2.St) : Prop := σ.length = ρ.length ∧ ∀ (i : Nat) (v : PV), ρ[i]? = some (some v) → ∃ u, σ[i]? = some (some u) ∧ Rep K ca μ F v u
theorem EnvR.mono {ρ : Env} {σ : L2.St} (m : Ext μ μ') (f : Same F F') (h : EnvR K ca μ F ρ σ) : EnvR K ca μ' F' ρ σ :=
  ⟨h.1, fun i v e => let ⟨u, h1, h2⟩ := h.2 i v e; ⟨u, h1, Rep.mono m f v u h2⟩⟩
theorem EnvR.caW {ρ : Env} {σ : L2.St} {hid : List (Addr × HO)} (h : EnvR K ca μ F ρ σ) : EnvR K (ca.with hid) μ F ρ σ :=
  ⟨h.1, fun i v e => let ⟨u, h1, h2⟩ := h.2 i v e; ⟨u, h1, Rep.ca v u h2⟩⟩
theorem EnvR.set {ρ : Env} {σ : L2.St} {x : PV} {v : V} (h : EnvR K ca μ F ρ σ) (r : Rep K ca μ F x v) (i : Nat) : EnvR K ca μ F (setV ρ i x) (σ.set i (some v)) := by
  refine ⟨by unfold setV; rw [List.length_set, List.length_set]; exact h.1, fun j y e => ?_⟩
  unfold setV at e
  by_cases hj : i = j
  · subst hj
    have hlt : i < ρ.length := by
      have := (List.getElem?_eq_some_iff.mp e).1
      rwa [List.length_set] at this
    rw [List.getElem?_set_self hlt] at e
    have e' : x = y := by simpa using e
    subst e'
    exact ⟨v, List.getElem?_set_self (by rw [h.1]; exact hlt), r⟩
  · rw [List.getElem?_set_ne hj] at e
    obtain ⟨u, h1, h2⟩ := h.2 j y e
    exact ⟨u, by rw [List.getElem?_set_ne hj]; exact h1, h2⟩
theorem EnvR.unset {ρ : Env} {σ : L2.St} (h : EnvR K ca μ F ρ σ) (i : Nat) : EnvR K ca μ F (ρ.set i none) (σ.set i none) := by
  refine ⟨by rw [List.length_set, List.length_set]; exact h.1, fun j y e => ?_⟩
  by_cases hj : i = j
  · subst hj
    have hlt : i < ρ.length := by
      have := (List.getElem?_eq_some_iff.mp e).1
      rwa [List.length_set] at this
    rw [List.getElem?_set_self hlt] at e
    cases e
  · rw [List.getElem?_set_ne hj] at e
    obtain ⟨u, h1, h2⟩ := h.2 j y e
    exact ⟨u, by rw [List.getElem?_set_ne hj]; exact h1, h2⟩
theorem EnvR.wipe {ρ : Env} {σ : L2.St} (h : EnvR K ca μ F ρ σ) : ∀ vs : List Nat, EnvR K ca μ F (PL.wipe ρ vs) (L2.wipe σ vs)
  | [] => h
  | v :: vs => (EnvR.wipe h vs).unset v

/-- a state of a body -/
structure At (K : PySem.W.Frag) (cls : Cls) (E0 : Wh) (hid : List (Addr × HO)) (μ : List Addr) (F : Hp) (ρ : Env) (S : Sto) (E : XP) (σ : L2.St) (H : Hp) : Prop where
  sr : SR K ⟨cls, hid⟩ μ F H S
  env : EnvR K ⟨cls, hid⟩ μ F ρ σ
  le : ∀ σ', Agree E0 σ σ' → ∀ e S', E e S' → KvE K ⟨cls, hid⟩ μ F (E0.at σ') e S'
variable {hid : List (Addr × HO)} {ρ : Env} {σ : L2.St} {E : XP}
theorem At.to (A : At K cls E0 hid μ F ρ S E σ H) (m : Ext μ μ1) (f : Same F F1) (r : SR K ⟨cls, hid⟩ μ1 F1 H1 S1) : At K cls E0 hid μ1 F1 ρ S1 E σ H1 :=
  ⟨r, A.env.mono m f, fun σ' g e S' h => (A.le σ' g e S' h).mono m f⟩

/-! ### readings -/
def tE (K : PySem.W.Frag) (cls : Cls) (E0 : Wh) (Γ : Ctx) (e : IR) : TE := fun σ H Q => ∃ hid μ F ρ S E, At K cls E0 hid μ F ρ S E σ H ∧ wE Γ E e ρ S (Kv K ⟨cls, hid⟩ μ F Q)
def tT (K : PySem.W.Frag) (cls : Cls) (E0 : Wh) (Γ : Ctx) (e : IR) : TT := fun σ H Q => ∃ hid μ F ρ S E, At K cls E0 hid μ F ρ S E σ H ∧ wT Γ E e ρ S (KvB K ⟨cls, hid⟩ μ F Q)
def tC' (K : PySem.W.Frag) (cls : Cls) (E0 : Wh) (Γ : Ctx) (e : IRo) : TT := fun σ H Q => ∃ hid μ F ρ S E, At K cls E0 hid μ F ρ S E σ H ∧ wC Γ E e ρ S (KvB K ⟨cls, hid⟩ μ F Q)
def KvL (K : PySem.W.Frag) (ca : CA) (μ : List Addr) (F : Hp) (Q : List V → Hp → Prop) : KL := fun x S' => ∀ (v : List V) (H' : Hp) (μ' : List Addr) (F' : Hp), Ext μ μ' → Same F F' → SR K ca μ' F' H' S' → RepL K ca μ' F' x v → Q v H'
def tA (K : PySem.W.Frag) (cls : Cls) (E0 : Wh) (Γ : Ctx) (es : IRs) : TA := fun σ H Q => ∃ hid μ F ρ S E, At K cls E0 hid μ F ρ S E σ H ∧ wEs Γ E es ρ S (KvL K ⟨cls, hid⟩ μ F Q)
def KvO (K : PySem.W.Frag) (ca : CA) (μ : List Addr) (F : Hp) (Q : Option Int → Hp → Prop) : Option Int → Sto → Prop := fun x S' => ∀ (H' : Hp) (μ' : List Addr) (F' : Hp), Ext μ μ' → Same F F' → SR K ca μ' F' H' S' → Q x H'
def tO (K : PySem.W.Frag) (cls : Cls) (E0 : Wh) (Γ : Ctx) (e : IRo) : TO := fun σ H Q => ∃ hid μ F ρ S E, At K cls E0 hid μ F ρ S E σ H ∧ wO Γ E e ρ S (KvO K ⟨cls, hid⟩ μ F Q)

/-- what is walked: the items by turns -/
def ItR (K : PySem.W.Frag) (cls : Cls) (μ : List Addr) (F : Hp) (J : L2.It) (xs : List PV) (g : Sto → Prop) : Prop :=
  xs.length ≤ line ∧ ∀ (hid : List (Addr × HO)) (μ' : List Addr) (F' H : Hp) (S : Sto) (i : Nat), Ext μ μ' → Same F F' → SR K ⟨cls, hid⟩ μ' F' H S → g S → i ≤ xs.length →
    (i = xs.length → J.stop i H) ∧ ∀ x, xs[i]? = some x → J.go i H ∧ ∀ v H', J.yld i H v H' → ∃ F'', Same F' F'' ∧ SR K ⟨cls, hid⟩ μ' F'' H' S ∧ Rep K ⟨cls, hid⟩ μ' F'' x v
def KvI (K : PySem.W.Frag) (ca : CA) (μ : List Addr) (F : Hp) (R : L2.It → Hp → Prop) : List PV → (Sto → Prop) → Sto → Prop :=
  fun xs g S' => ∀ (J : L2.It) (H' : Hp) (μ' : List Addr) (F' : Hp), Ext μ μ' → Same F F' → SR K ca μ' F' H' S' → ItR K ca.cls μ' F' J xs g → R J H'
def tI (K : PySem.W.Frag) (cls : Cls) (E0 : Wh) (Γ : Ctx) (it : It) : TI := fun σ H R => ∃ hid μ F ρ S E, At K cls E0 hid μ F ρ S E σ H ∧ wIt Γ E it ρ S (KvI K ⟨cls, hid⟩ μ F R)

theorem tE_of (hΓ : Γ.Mono) {e : IR} {R : K1} (A : At K cls E0 hid μ F ρ S E σ H) (h : wE Γ E e ρ S R)
    (k : ∀ (x : PV) (S1 : Sto) (v : V) (H1 : Hp) (μ1 : List Addr) (F1 : Hp), R x S1 → Ext μ μ1 → Same F F1 → SR K ⟨cls, hid⟩ μ1 F1 H1 S1 → Rep K ⟨cls, hid⟩ μ1 F1 x v → Q v H1) : tE K cls E0 Γ e σ H Q :=
  ⟨hid, μ, F, ρ, S, E, A, wE_mono hΓ e E ρ S _ _ h fun x S1 hx v H1 μ1 F1 m f r q => k x S1 v H1 μ1 F1 hx m f r q⟩
theorem tT_of (hΓ : Γ.Mono) {e : IR} {R : KB} {Q : Bool → Hp → Prop} (A : At K cls E0 hid μ F ρ S E σ H) (h : wT Γ E e ρ S R)
    (k : ∀ (x : Bool) (S1 : Sto) (H1 : Hp) (μ1 : List Addr) (F1 : Hp), R x S1 → Ext μ μ1 → Same F F1 → SR K ⟨cls, hid⟩ μ1 F1 H1 S1 → Q x H1) : tT K cls E0 Γ e σ H Q :=
  ⟨hid, μ, F, ρ, S, E, A, wT_mono hΓ e E ρ S _ _ h fun x S1 hx H1 μ1 F1 m f r => k x S1 H1 μ1 F1 hx m f r⟩
theorem tC_of (hΓ : Γ.Mono) {e : IRo} {R : KB} {Q : Bool → Hp → Prop} (A : At K cls E0 hid μ F ρ S E σ H) (h : wC Γ E e ρ S R)
    (k : ∀ (x : Bool) (S1 : Sto) (H1 : Hp) (μ1 : List Addr) (F1 : Hp), R x S1 → Ext μ μ1 → Same F F1 → SR K ⟨cls, hid⟩ μ1 F1 H1 S1 → Q x H1) : tC' K cls E0 Γ e σ H Q :=
  ⟨hid, μ, F, ρ, S, E, A, wC_mono hΓ e E ρ S _ _ h fun x S1 hx H1 μ1 F1 m f r => k x S1 H1 μ1 F1 hx m f r⟩
theorem tO_of (hΓ : Γ.Mono) {e : IRo} {R : Option Int → Sto → Prop} {Q : Option Int → Hp → Prop} (A : At K cls E0 hid μ F ρ S E σ H) (h : wO Γ E e ρ S R)
    (k : ∀ (x : Option Int) (S1 : Sto) (H1 : Hp) (μ1 : List Addr) (F1 : Hp), R x S1 → Ext μ μ1 → Same F F1 → SR K ⟨cls, hid⟩ μ1 F1 H1 S1 → Q x H1) : tO K cls E0 Γ e σ H Q :=
  ⟨hid, μ, F, ρ, S, E, A, wO_mono hΓ e E ρ S _ _ h fun x S1 hx H1 μ1 F1 m f r => k x S1 H1 μ1 F1 hx m f r⟩
theorem tA_of (hΓ : Γ.Mono) {e : IRs} {R : KL} {Q : List V → Hp → Prop} (A : At K cls E0 hid μ F ρ S E σ H) (h : wEs Γ E e ρ S R)
    (k : ∀ (x : List PV) (S1 : Sto) (v : List V) (H1 : Hp) (μ1 : List Addr) (F1 : Hp), R x S1 → Ext μ μ1 → Same F F1 → SR K ⟨cls, hid⟩ μ1 F1 H1 S1 → RepL K ⟨cls, hid⟩ μ1 F1 x v → Q v H1) : tA K cls E0 Γ e σ H Q :=
  ⟨hid, μ, F, ρ, S, E, A, wEs_mono hΓ e E ρ S _ _ h fun x S1 hx v H1 μ1 F1 m f r q => k x S1 v H1 μ1 F1 hx m f r q⟩
theorem tI_of (hΓ : Γ.Mono) {e : It} {R : List PV → (Sto → Prop) → Sto → Prop} {Q : L2.It → Hp → Prop} (A : At K cls E0 hid μ F ρ S E σ H) (h : wIt Γ E e ρ S R)
    (k : ∀ (xs : List PV) (g : Sto → Prop) (S1 : Sto) (J : L2.It) (H1 : Hp) (μ1 : List Addr) (F1 : Hp), R xs g S1 → Ext μ μ1 → Same F F1 → SR K ⟨cls, hid⟩ μ1 F1 H1 S1 → ItR K cls μ1 F1 J xs g → Q J H1) : tI K cls E0 Γ e σ H Q :=
  ⟨hid, μ, F, ρ, S, E, A, wIt_mono hΓ e E ρ S _ _ h fun x g S1 hx J H1 μ1 F1 m f r q => k x g S1 J H1 μ1 F1 hx m f r q⟩

theorem truth_ok {x : PV} {v : V} {k : Bool} (r : SR K ca μ F H S) (q : Rep K ca μ F x v) (h : truth S x = some k) : TruV K v H k := by
  unfold truth at h
  generalize e : drf S x = y at h
  cases y with
  | non =>
    have ex : x = .non := by
      cases x with
      | ref n =>
        rcases drf_ref e (fun m z => by cases z) with ⟨_, z, _⟩ | ⟨_, z, _⟩ | ⟨_, _, z, _⟩ <;> cases z
      | _ => exact e
    subst ex
    have q' : v = V.non := q
    subst q'
    exact (Option.some.inj h).symm
  | bl b =>
    have ex : x = .bl b := by
      cases x with
      | ref n =>
        rcases drf_ref e (fun m z => by cases z) with ⟨_, z, _⟩ | ⟨_, z, _⟩ | ⟨_, _, z, _⟩ <;> cases z
      | _ => exact e
    subst ex
    have q' : v = V.bl b := q
    subst q'
    exact (Option.some.inj h).symm
  | int i =>
    have ex := drf_int e
    subst ex
    have q' : v = V.int i := q
    subst q'
    exact (Option.some.inj h).symm
  | str s =>
    obtain ⟨o, ev⟩ := r.asS q e
    subst ev
    refine ⟨by rw [sOf_len, line_eq]; exact okS_len o, ?_⟩
    have h' := (Option.some.inj h).symm
    rw [h', sOf_len]
    cases s <;> simp <;> omega
  | tup xs =>
    obtain ⟨a, vs, ev, _, hq, rl⟩ := r.asT q e
    subst ev
    refine .inr (.inl ⟨vs, hq, ?_⟩)
    have h' := (Option.some.inj h).symm
    rw [h']
    have := rl.length
    cases xs <;> cases vs <;> simp at this ⊢
  | lst xs =>
    obtain ⟨a, vs, ev, hq, rl⟩ := r.asL q e
    subst ev
    refine .inl ⟨vs, SqL.of hq, ?_⟩
    have h' := (Option.some.inj h).symm
    rw [h']
    have := rl.length
    cases xs <;> cases vs <;> simp at this ⊢
  | dct xs =>
    obtain ⟨a, vs, ev, hq, rl⟩ := r.asD q e
    subst ev
    refine .inr (.inr ⟨vs, hq, ?_⟩)
    have h' := (Option.some.inj h).symm
    rw [h']
    cases xs with
    | nil =>
      have z : vs = [] := rl
      rw [z]; rfl
    | cons p xs =>
      obtain ⟨k, x'⟩ := p
      obtain ⟨kk, w, t, z, _⟩ := rl
      rw [z]; rfl
  | scr _ => cases h
  | ins _ _ => cases h
  | ref _ => cases h
  | txt _ => cases h
end
end PL
set_option maxRecDepth 100000
set_option maxHeartbeats 4000000
/-! PL1h: targets; a comprehension's loop. -/
namespace PL
open PySem PySem.Spec PyProof.Rows L2

section
variable {K : PySem.W.Frag} {ca : CA} {μ μ' μ1 : List Addr} {F F' F1 H H' H1 : Hp} {S S1 : Sto} {Q : VK} {E0 : Wh} {cls : Cls} {Γ : Ctx} {hid : List (Addr × HO)} {D : Addr} {o : HO} {ρ : Env} {σ : L2.St} {E : XP}
/-! ### a thing that no value names comes and goes -/
theorem SR.hide (r : SR K ⟨cls, hid⟩ μ F H S) (h : H D = none) : SR K ⟨cls, (D, o) :: hid⟩ μ F (upd H D o) S := by
  have hs : Same H (upd H D o) := same_upd h
  have nm : ∀ (n : Nat) (a : Addr), μ[n]? = some a → a ≠ D := fun n a e => by
    obtain ⟨_, u, hu⟩ := r.off n a e
    exact ne_of_none hu h
  have r' : SR K ⟨cls, hid⟩ μ F (upd H D o) S := by
    refine ⟨r.sub.trans hs, r.len, r.nd, fun n a e => ?_, fun n a xs e1 e2 => ?_, fun n a xs e1 e2 => ?_, fun n a c fs e1 e2 => ?_, fun q hq => ?_⟩
    · obtain ⟨h1, u, h2⟩ := r.off n a e
      exact ⟨h1, u, hs _ _ h2⟩
    · obtain ⟨vs, h1, h2⟩ := r.lst n a xs e1 e2
      exact ⟨vs, hs _ _ h1, h2⟩
    · obtain ⟨vs, h1, h2⟩ := r.dct n a xs e1 e2
      exact ⟨vs, hs _ _ h1, h2⟩
    · obtain ⟨C, dx, vs, h0, h1, h2⟩ := r.ins n a c fs e1 e2
      exact ⟨C, dx, vs, h0, hs _ _ h1, h2⟩
    · obtain ⟨h1, h2, h3⟩ := r.hid q hq
      exact ⟨hs _ _ h1, h2, h3⟩
  refine r'.caW (h := (D, o) :: hid) fun p hp => ?_
  rcases List.mem_cons.mp hp with rfl | hp
  · refine ⟨upd_same, r.sub.free h, fun hm => ?_⟩
    obtain ⟨n, hn⟩ := List.mem_iff_getElem?.mp hm
    exact nm n D hn rfl
  · exact r'.hid p hp
def del (H : Hp) (D : Addr) : Hp := fun b => if b = D then none else H b
theorem del_same : del H D D = none := if_pos rfl
theorem del_ne {b : Addr} (h : b ≠ D) : del H D b = H b := if_neg h
theorem del_upd (h : H D = some o) : upd (del H D) D o = H := by
  funext b
  by_cases hb : b = D
  · subst hb; rw [upd_same, h]
  · rw [upd_ne hb, del_ne hb]
theorem SR.unhide (r : SR K ⟨cls, (D, o) :: hid⟩ μ F H S) (hn : ∀ q ∈ hid, q.1 ≠ D) : SR K ⟨cls, hid⟩ μ F (del H D) S := by
  have hp := r.hid (D, o) List.mem_cons_self
  have nF : ∀ b u, F b = some u → b ≠ D := fun b u e z => by subst z; rw [hp.2.1] at e; cases e
  have nm : ∀ (n : Nat) (a : Addr), μ[n]? = some a → a ≠ D := fun n a e z => by subst z; exact hp.2.2 (List.mem_of_getElem? e)
  refine ⟨fun b u e => by rw [del_ne (nF b u e)]; exact r.sub _ _ e, r.len, r.nd, fun n a e => ?_, fun n a xs e1 e2 => ?_, fun n a xs e1 e2 => ?_, fun n a c fs e1 e2 => ?_, fun q hq => ?_⟩
  · obtain ⟨h1, u, h2⟩ := r.off n a e
    exact ⟨h1, u, by rw [del_ne (nm n a e)]; exact h2⟩
  · obtain ⟨vs, h1, h2⟩ := r.lst n a xs e1 e2
    exact ⟨vs, by rw [del_ne (nm n a e2)]; exact h1, RepL.ca (ca := ⟨cls, (D, o) :: hid⟩) (h := hid) _ _ h2⟩
  · obtain ⟨vs, h1, h2⟩ := r.dct n a xs e1 e2
    exact ⟨vs, by rw [del_ne (nm n a e2)]; exact h1, RepD.ca (ca := ⟨cls, (D, o) :: hid⟩) (h := hid) _ _ h2⟩
  · obtain ⟨C, dx, vs, h0, h1, h2⟩ := r.ins n a c fs e1 e2
    exact ⟨C, dx, vs, h0, by rw [del_ne (nm n a e2)]; exact h1, RepF.ca (ca := ⟨cls, (D, o) :: hid⟩) (h := hid) _ _ h2⟩
  · obtain ⟨h1, h2, h3⟩ := r.hid q (List.mem_cons_of_mem _ hq)
    exact ⟨by rw [del_ne (hn q hq)]; exact h1, h2, h3⟩

/-! ### slots forgotten -/
theorem wipe_get (σ : L2.St) : ∀ (vs : List Nat) (j : Nat), (L2.wipe σ vs)[j]? = if j ∈ vs then σ[j]?.map (fun _ => none) else σ[j]?
  | [], j => by simp [L2.wipe]
  | v :: vs, j => by
    show ((L2.wipe σ vs).set v none)[j]? = _
    by_cases hj : v = j
    · subst hj
      rw [if_pos List.mem_cons_self]
      by_cases hl : v < (L2.wipe σ vs).length
      · rw [List.getElem?_set_self hl]
        rw [L2.wipe_length] at hl
        rw [List.getElem?_eq_getElem hl]
        rfl
      · rw [List.getElem?_eq_none (by rw [List.length_set]; omega)]
        rw [L2.wipe_length] at hl
        rw [List.getElem?_eq_none (by omega)]
        rfl
    · rw [List.getElem?_set_ne hj, wipe_get σ vs j]
      have : (j ∈ v :: vs) ↔ j ∈ vs := by
        rw [List.mem_cons]
        exact ⟨fun h => h.elim (fun e => absurd e.symm hj) id, .inr⟩
      simp only [this]
theorem wipe_set {i : Nat} {y : Option V} {vs : List Nat} (h : i ∈ vs) : L2.wipe (σ.set i y) vs = L2.wipe σ vs := by
  refine List.ext_getElem? fun j => ?_
  rw [wipe_get, wipe_get]
  by_cases hj : j ∈ vs
  · rw [if_pos hj, if_pos hj]
    by_cases e : i = j
    · subst e
      by_cases hl : i < σ.length
      · rw [List.getElem?_set_self hl, List.getElem?_eq_getElem hl]; rfl
      · rw [List.getElem?_eq_none (by rw [List.length_set]; omega), List.getElem?_eq_none (by omega)]
    · rw [List.getElem?_set_ne e]
  · rw [if_neg hj, if_neg hj]
    rw [List.getElem?_set_ne fun (e : i = j) => hj (e ▸ h)]
theorem wipe_wipe {vs : List Nat} : L2.wipe (L2.wipe σ vs) vs = L2.wipe σ vs := by
  refine List.ext_getElem? fun j => ?_
  rw [wipe_get, wipe_get]
  by_cases hj : j ∈ vs
  · rw [if_pos hj, if_pos hj]
    cases σ[j]? <;> rfl
  · rw [if_neg hj, if_neg hj]

/-! ### targets -/
def Pt.slots : Pt → List Nat
  | .nm i => [i]
  | .tp is => is
def gNames : List Nat → TGs
  | [] => gNil
  | i :: r => gCons (gName i) (gNames r)
def tgOf (K : PySem.W.Frag) : Pt → TG
  | .nm i => gName i
  | .tp is => gTup K is.length (gNames is)
theorem gNames_mono : ∀ (is : List Nat) (vs : List V) (σ : L2.St) (H : Hp) (Q Q' : L2.St → Hp → Prop), gNames is vs σ H Q → (∀ σ' H', Q σ' H' → Q' σ' H') → gNames is vs σ H Q'
  | [], vs, σ, H, Q, Q', h, g => ⟨h.1, g _ _ h.2⟩
  | i :: r, vs, σ, H, Q, Q', h, g => by
    obtain ⟨v, t, e, q⟩ := h
    exact ⟨v, t, e, gNames_mono r t _ _ _ _ q g⟩
theorem tgOf_mono {p : Pt} {v : V} {Q Q' : L2.St → Hp → Prop} (h : tgOf K p v σ H Q) (g : ∀ σ' H', Q σ' H' → Q' σ' H') : tgOf K p v σ H Q' := by
  cases p with
  | nm i => exact g _ _ h
  | tp is =>
    obtain ⟨a, xs, e, q, l, n⟩ := h
    exact ⟨a, xs, e, q, l, gNames_mono is xs σ H Q Q' n g⟩
theorem names_ok : ∀ (is : List Nat) (xs : List PV) (vs : List V) (ρ ρ' : Env) (σ : L2.St), RepL K ca μ F xs vs → EnvR K ca μ F ρ σ → setVs ρ is xs = some ρ' →
    gNames is vs σ H fun σ' H' => H' = H ∧ EnvR K ca μ F ρ' σ' ∧ ∀ own : List Nat, (∀ i ∈ is, i ∈ own) → L2.wipe σ' own = L2.wipe σ own
  | [], [], vs, ρ, ρ', σ, r, e, h => by
    have h' : ρ = ρ' := Option.some.inj h
    subst h'
    exact ⟨r, rfl, e, fun _ _ => rfl⟩
  | i :: is, x :: xs, vs, ρ, ρ', σ, r, e, h => by
    obtain ⟨v, t, ev, q, rt⟩ := r
    refine ⟨v, t, ev, ?_⟩
    show gNames is t (σ.set i (some v)) H _
    refine gNames_mono _ _ _ _ _ _ (names_ok is xs t (setV ρ i x) ρ' (σ.set i (some v)) rt (e.set q i) h) fun σ' H' ⟨h1, h2, h3⟩ => ⟨h1, h2, fun own ho => ?_⟩
    rw [h3 own fun j hj => ho j (List.mem_cons_of_mem _ hj), wipe_set (ho i List.mem_cons_self)]
  | [], _ :: _, _, _, _, _, _, _, h => by cases h
  | _ :: _, [], _, _, _, _, _, _, h => by cases h
theorem setVs_len : ∀ {is : List Nat} {xs : List PV} {ρ ρ' : Env}, setVs ρ is xs = some ρ' → is.length = xs.length
  | [], [], _, _, _ => rfl
  | i :: is, x :: xs, ρ, ρ', h => by rw [List.length_cons, List.length_cons, setVs_len (is := is) (xs := xs) h]
  | [], _ :: _, _, _, h => by cases h
  | _ :: _, [], _, _, h => by cases h
theorem asg_ok {p : Pt} {x : PV} {v : V} {k : Env → Prop} (r : SR K ca μ F H S) (e : EnvR K ca μ F ρ σ) (q : Rep K ca μ F x v) (h : asg p x ρ k) :
    tgOf K p v σ H fun σ' H' => H' = H ∧ (∃ ρ', k ρ' ∧ EnvR K ca μ F ρ' σ') ∧ ∀ own : List Nat, (∀ i ∈ p.slots, i ∈ own) → L2.wipe σ' own = L2.wipe σ own := by
  cases p with
  | nm i =>
    refine ⟨rfl, ⟨setV ρ i x, h, e.set q i⟩, fun own ho => ?_⟩
    exact wipe_set (ho i (by simp [Pt.slots]))
  | tp is =>
    cases x with
    | tup xs =>
      have h' : ∃ ρ', setVs ρ is xs = some ρ' ∧ k ρ' := h
      obtain ⟨ρ', h1, h2⟩ := h'
      obtain ⟨a, vs, ev, hq, rl⟩ := q
      refine ⟨a, vs, ev, sqT_mono r.sub hq, by rw [← rl.length, setVs_len h1], ?_⟩
      exact gNames_mono _ _ _ _ _ _ (names_ok is _ vs ρ ρ' σ rl e h1) fun σ' H' ⟨g1, g2, g3⟩ => ⟨g1, ⟨ρ', h2, g2⟩, g3⟩
    | _ => exact False.elim h

/-! ### a comprehension -/
theorem comp_ok (hΓ : Γ.Mono) {m : Bool} {own : List Nat} {p : Pt} {it : It} {c : IRo} {e : IR} (A : At K cls E0 hid μ F ρ S E σ H) (hs : ∀ i ∈ p.slots, i ∈ own)
    (h : wE Γ E (.comp m own p it c e) ρ S (Kv K ⟨cls, hid⟩ μ F Q)) : tLc (tI K cls E0 Γ it) (tgOf K p) (tC' K cls Wh.none Γ c) (tE K cls Wh.none Γ e) own σ H Q := by
  refine tI_of hΓ A h fun xs g S1 J H1 μ1 F1 h1 m1 f1 r1 it1 => ?_
  intro D hD
  have hne : ∀ q ∈ hid, q.1 ≠ D := fun q hq => ne_of_none (r1.hid q hq).1 hD
  refine ⟨fun i m' H2 => m' = xs.length - i ∧ i ≤ xs.length ∧ ∃ μ2 F2 S2 acc vacc, acc.length ≤ i ∧ Ext μ1 μ2 ∧ Same F1 F2 ∧ SR K ⟨cls, (D, .lst vacc) :: hid⟩ μ2 F2 H2 S2 ∧ RepL K ⟨cls, (D, .lst vacc) :: hid⟩ μ2 F2 acc vacc ∧
    wComp m g (fun x k => asg p x (wipe ρ own) k) (fun ρ' S' k => wC Γ (fun _ _ => False) c ρ' S' k) (fun ρ' S' k => wE Γ (fun _ _ => False) e ρ' S' k) (Kv K ⟨cls, hid⟩ μ F Q) (xs.drop i) acc S2,
    ⟨xs.length, rfl, Nat.zero_le _, μ1, F1, S1, [], [], Nat.zero_le _, Ext.refl _, Same.refl _, r1.hide hD, rfl, h1⟩, ?_⟩
  rintro i m' H2 ⟨rfl, hi, μ2, F2, S2, acc, vacc, hacc, m2, f2, r2, ra, h2⟩
  by_cases hlt : i < xs.length
  · have ed : xs.drop i = xs[i] :: xs.drop (i + 1) := List.drop_eq_getElem_cons hlt
    rw [ed] at h2
    obtain ⟨hg, h2⟩ := h2
    obtain ⟨_, hx⟩ := it1.2 _ μ2 F2 H2 S2 i m2 f2 r2 hg hi
    obtain ⟨go, yl⟩ := hx xs[i] (List.getElem?_eq_getElem hlt)
    refine .inr ⟨go, fun H' => ∃ μ3 F3 S3 acc3 vacc3, acc3.length ≤ i + 1 ∧ Ext μ1 μ3 ∧ Same F1 F3 ∧ SR K ⟨cls, (D, .lst vacc3) :: hid⟩ μ3 F3 H' S3 ∧ RepL K ⟨cls, (D, .lst vacc3) :: hid⟩ μ3 F3 acc3 vacc3 ∧
      wComp m g (fun x k => asg p x (wipe ρ own) k) (fun ρ' S' k => wC Γ (fun _ _ => False) c ρ' S' k) (fun ρ' S' k => wE Γ (fun _ _ => False) e ρ' S' k) (Kv K ⟨cls, hid⟩ μ F Q) (xs.drop (i + 1)) acc3 S3,
      fun H' w => ⟨xs.length - (i + 1), by omega, rfl, hlt, w⟩, fun v H' y => ?_⟩
    obtain ⟨F3, f3, r3, rx⟩ := yl v H' y
    have e3 : EnvR K ⟨cls, (D, .lst vacc) :: hid⟩ μ2 F3 (wipe ρ own) (L2.wipe σ own) :=
      EnvR.wipe (EnvR.caW (ca := ⟨cls, hid⟩) (hid := (D, .lst vacc) :: hid) (A.env.mono (m1.trans m2) (f1.trans (f2.trans f3)))) own
    refine tgOf_mono (asg_ok r3 e3 rx h2) fun σ4 H4 ⟨eH, ⟨ρ4, k4, e4⟩, fr⟩ => ?_
    subst eH
    refine ⟨by rw [fr own hs, wipe_wipe], ?_⟩
    have A4 : At K cls Wh.none ((D, .lst vacc) :: hid) μ2 F3 ρ4 S2 (fun _ _ => False) σ4 H4 := ⟨r3, e4, fun _ _ _ _ z => z.elim⟩
    refine tC_of hΓ A4 k4 fun b S5 H5 μ5 F5 h5 m5 f5 r5 => ?_
    have ra5 : RepL K ⟨cls, (D, .lst vacc) :: hid⟩ μ5 F5 acc vacc := RepL.mono m5 (f3.trans f5) _ _ ra
    cases b with
    | false =>
      simp only [Bool.false_eq_true, if_false] at h5 ⊢
      exact ⟨μ5, F5, S5, acc, vacc, by omega, m2.trans m5, f2.trans (f3.trans f5), r5, ra5, h5⟩
    | true =>
      simp only [if_true] at h5 ⊢
      refine tE_of hΓ (A4.to m5 f5 r5) h5 fun y S6 vy H6 μ6 F6 h6 m6 f6 r6 ry => ?_
      have hD6 := (r6.hid (D, .lst vacc) List.mem_cons_self).1
      have hl : acc.length = vacc.length := RepL.length ra
      have hb := it1.1
      refine ⟨vacc, hD6, by rw [line_eq]; omega, μ6, F6, S6, acc ++ [y], vacc ++ [vy], by rw [List.length_append]; show acc.length + 1 ≤ i + 1; omega, m2.trans (m5.trans m6), f2.trans (f3.trans (f5.trans f6)), SR.hidden (ca := ⟨cls, []⟩) r6 hne, ?_, h6⟩
      exact RepL.ca (ca := ⟨cls, (D, .lst vacc) :: hid⟩) (h := (D, .lst (vacc ++ [vy])) :: hid) _ _ (RepL.append (RepL.mono m6 f6 _ _ ra5) ⟨_, _, rfl, ry, rfl⟩)
  · have e : i = xs.length := by omega
    subst e
    rw [List.drop_length] at h2
    obtain ⟨hg, h2⟩ := h2
    obtain ⟨hst, _⟩ := it1.2 _ μ2 F2 H2 S2 xs.length m2 f2 r2 hg (Nat.le_refl _)
    refine .inl ⟨hst rfl, ?_⟩
    have hDH := (r2.hid (D, .lst vacc) List.mem_cons_self).1
    have h2' : wNew m S2 acc (Kv K ⟨cls, hid⟩ μ2 F2 Q) := wNew_mono h2 fun v S' q => q.mono (m1.trans m2) (f1.trans f2)
    have := Kv.new h2' (r2.unhide hne) (RepL.ca (ca := ⟨cls, (D, .lst vacc) :: hid⟩) (h := hid) _ _ ra) (p := D) del_same
    rw [del_upd hDH] at this
    exact this
end
end PL
set_option maxRecDepth 100000
set_option maxHeartbeats 4000000
/-! PL1i: calls; my terms against the text's expressions. -/
namespace PL
open PySem PySem.Spec PyProof.Rows L2

/-! ### calls of the module's defs -/
structure FnG (P : Program) (w : World) (K : PySem.W.Frag) (mg : Str → Option Value) (base : Heap) (k : Nat) (f : Addr) (fd : FuncData) (ps : List Str) (sp : Sp) : Prop where
  len : ∀ vs H Q E, sp vs H Q E → vs.length = ps.length
  run : ∀ (A : Around) (outer : List PySem.Env) (s : Shared) (H : Hp) (args : Args) (us : List Value) (vs : List V) (Q : VK) (E : XK), A.guards = some [] → Room k A → Env0 P w K mg base A outer s H → BindsTo s fd args (ps.zip us) → Vals vs us → sp vs H Q E →
    codeAny (model P w) A (.call (.ref f) args) (CR (L2.CX P w) outer P w H s Q E) s
/-- a call by names is bound -/
def KBd (K : PySem.W.Frag) (fd : FuncData) (ps : List Str) (p : Kp) : Prop :=
  ∀ (s : Shared) (us ws : List Value), K.In s.heap → us.length = p.n → ws.length = p.ks.length → BindsTo s fd ⟨us, (p.ks.map Str.ofString).zip ws⟩ (ps.zip (pick p.ix (us ++ ws)))
/-- a def of the module by values -/
def CallV (P : Program) (w : World) (K : PySem.W.Frag) (mg : Str → Option Value) (base : Heap) (cls : Cls) (kb : List Kp) (k : Nat) (x : String) (sp : Spec) : Prop :=
  ∃ (f : Addr) (fd : FuncData) (ps : List Str), mg (Str.ofString x) = some (.ref f) ∧ PySem.W.keepIn K (.ref f) = true ∧ Binds K fd ps [] ∧ FnG P w K mg base k f fd ps (liftS K cls sp) ∧ ∀ p ∈ kb, p.f = x → KBd K fd ps p

section
variable {X : Cx} {kb : List Kp} {k : Nat} {x : Str} {n : String} {sp : Spec} {cls : Cls} {E0 : Wh} {p pos : Pos} {e : Expr} {es : List Expr} {t : TA}
theorem run_fnG {f : Addr} {fd : FuncData} {ps : List Str} {sp : Sp} {pins : List (Addr × Obj)} {σ : L2.St} {H : Hp} {s : Shared} {Q : VK} {us : List Value} {vs : List V} (hG : X.A.guards = some []) (F : FnG X.prog X.w X.K X.mg X.base k f fd ps sp) (hr : Room k X.A) (hb : Binds X.K fd ps []) (hx : PassesAt (L2.CX X.prog X.w) X σ (E0.at σ))
    (I : Inv X pins σ H s) (r : Vals vs us) (h : sp vs H Q (E0.at σ)) : wpAny (model X.prog X.w) X.A (call (.ref f) us) (EP X pins σ Q) X.xe s := by
  have hl : us.length = ps.length := by rw [← r.length]; exact F.len _ _ _ _ h
  have hbs := hb s us I.kIn (by rw [List.append_nil]; exact hl)
  rw [List.append_nil] at hbs
  refine wpAny_call (codeAny_mono (F.run X.A X.stack s H ⟨us, []⟩ us vs Q (E0.at σ) hG hr I.env0 hbs r h) fun r s' hq => ?_)
  cases r with
  | error e => exact hx pins H s e s' I hq
  | ok fl =>
    cases fl with
    | ret u => exact I.after hq
    | next => exact False.elim hq
    | brk => exact False.elim hq
    | cont => exact False.elim hq
def tCallV (K : PySem.W.Frag) (cls : Cls) (E0 : Wh) (sp : Spec) (t : TA) : TE := fun σ H Q => t σ H fun vs H1 => liftS K cls sp vs H1 Q (E0.at σ)
theorem pe_callV (hG : X.A.guards = some []) (F : CallV X.prog X.w X.K X.mg X.base cls kb k n sp) (hr : Room k X.A) (hg : Gl X (Str.ofString n)) (hx : ∀ σ, PassesAt (L2.CX X.prog X.w) X σ (E0.at σ))
    (ha : PA X (e :: es) t) (hdb : (Str.ofString n == ("__debug__" : Str)) = false) (he : starEach (e :: es) X.env = (false, eval e X.env) :: starEach es X.env) (hpl : (backTo pos (starEach es X.env)).any (·.1) = false) :
    PE X (.Call (.Name (Str.ofString n) p) (e :: es) [] pos) (tCallV X.K cls E0 sp t) := by
  refine ⟨fun pins s σ H Q I h => ?_⟩
  obtain ⟨f, fd, ps, hm, hk, hb, FG, _⟩ := F
  refine wpAny_Call_Name_kw (ld_glob I hg hm ?_ hdb)
  refine PySem.W.callWith_K (h₀ := X.base) I.ok.mod.kin hk (thn (ha.run pos pins s σ H _ I h) fun us s1 ⟨vs, H1, I1, r, q⟩ => ⟨I1.kIn, ?_⟩) he hpl
  exact run_fnG hG FG hr hb (hx σ) I1 r q
theorem pe_callV0 (hG : X.A.guards = some []) (F : CallV X.prog X.w X.K X.mg X.base cls kb k n sp) (hr : Room k X.A) (hg : Gl X (Str.ofString n)) (hx : ∀ σ, PassesAt (L2.CX X.prog X.w) X σ (E0.at σ))
    (hdb : (Str.ofString n == ("__debug__" : Str)) = false) : PE X (.Call (.Name (Str.ofString n) p) [] [] pos) (tCallV X.K cls E0 sp tNil) := by
  refine ⟨fun pins s σ H Q I h => ?_⟩
  obtain ⟨f, fd, ps, hm, hk, hb, FG, _⟩ := F
  refine wpAny_Call_Name_kw (ld_glob I hg hm ?_ hdb)
  exact PySem.W.callWith_K0 I.kIn hk (run_fnG (us := []) hG FG hr hb (hx σ) I .nil h)
theorem vals_pick {vs : List V} {us : List Value} (r : Vals vs us) : ∀ ix : List Nat, Vals (pick ix vs) (pick ix us)
  | [] => .nil
  | i :: ix => by
    have ih := vals_pick r ix
    unfold pick at ih ⊢
    rw [List.filterMap_cons, List.filterMap_cons]
    cases h : vs[i]? with
    | none =>
      have hu : us[i]? = none := r.none_of h
      rw [hu]; exact ih
    | some v =>
      obtain ⟨u, hu, ru⟩ := r.get h
      rw [hu]
      exact .cons ru ih
theorem repL_pick {K : PySem.W.Frag} {ca : CA} {μ : List Addr} {F : Hp} {xs : List PV} {vs : List V} (r : RepL K ca μ F xs vs) : ∀ ix : List Nat, RepL K ca μ F (pick ix xs) (pick ix vs)
  | [] => rfl
  | i :: ix => by
    have ih := repL_pick r ix
    unfold pick at ih ⊢
    rw [List.filterMap_cons, List.filterMap_cons]
    cases h : xs[i]? with
    | none =>
      have hl := r.length
      have hv : vs[i]? = none := by
        rw [List.getElem?_eq_none_iff] at h ⊢
        omega
      rw [hv]; exact ih
    | some x =>
      obtain ⟨v, hv, rv⟩ := r.get h
      rw [hv]
      exact ⟨v, _, rfl, rv, ih⟩
theorem run_KV {kp : Kp} {pins : List (Addr × Obj)} {σ : L2.St} {H2 : Hp} {s2 : Shared} {Q : VK} {us ws : List Value} {vs zs : List V} {f : Addr} {fd : FuncData} {ps : List Str} (hG : X.A.guards = some []) (FG : FnG X.prog X.w X.K X.mg X.base k f fd ps (liftS X.K cls sp)) (hkb : KBd X.K fd ps kp) (hr : Room k X.A)
    (hx : ∀ σ, PassesAt (L2.CX X.prog X.w) X σ (E0.at σ)) (I2 : Inv X pins σ H2 s2) (r : Vals vs us) (rz : Vals zs ws) (h1 : vs.length = kp.n) (h2 : zs.length = kp.ks.length) (q : liftS X.K cls sp (pick kp.ix (vs ++ zs)) H2 Q (E0.at σ)) :
    wpAny (model X.prog X.w) X.A (call (.ref f) us ((kp.ks.map Str.ofString).zip ws)) (EP X pins σ Q) X.xe s2 := by
  have r2 := vals_pick (r.append rz) kp.ix
  have hbs := hkb s2 us ws I2.kIn (by rw [← r.length]; exact h1) (by rw [← rz.length]; exact h2)
  refine wpAny_call (codeAny_mono (FG.run X.A X.stack s2 H2 ⟨us, _⟩ (pick kp.ix (us ++ ws)) (pick kp.ix (vs ++ zs)) Q (E0.at σ) hG hr I2.env0 hbs r2 q) fun r s' hq => ?_)
  cases r with
  | error e => exact hx σ pins H2 s2 e s' I2 hq
  | ok fl =>
    cases fl with
    | ret u => exact I2.after hq
    | next => exact False.elim hq
    | brk => exact False.elim hq
    | cont => exact False.elim hq
/-- a call with arguments by name -/
theorem pe_callKV {kws : List Keyword} {kp : Kp} {tk : TA} (hG : X.A.guards = some []) (F : CallV X.prog X.w X.K X.mg X.base cls kb k kp.f sp) (hkb : kp ∈ kb) (hr : Room k X.A) (hg : Gl X (Str.ofString kp.f)) (hx : ∀ σ, PassesAt (L2.CX X.prog X.w) X σ (E0.at σ))
    (ha : PA X (e :: es) t) (hkw : PK X kws tk) (hall : (backToKw pos (keywordEach kws X.env)).all (·.1.isSome) = true) (hks : (backToKw pos (keywordEach kws X.env)).filterMap (·.1) = kp.ks.map Str.ofString)
    (hdb : (Str.ofString kp.f == ("__debug__" : Str)) = false) (he : starEach (e :: es) X.env = (false, eval e X.env) :: starEach es X.env)
    (hpl : ((backTo pos (starEach (e :: es) X.env)).any (·.1) || (backToKw pos (keywordEach kws X.env)).any (·.1.isNone)) = false) :
    PE X (.Call (.Name (Str.ofString kp.f) p) (e :: es) kws pos) (fun σ H Q => t σ H fun vs H1 => tk σ H1 fun zs H2 => vs.length = kp.n ∧ zs.length = kp.ks.length ∧ liftS X.K cls sp (pick kp.ix (vs ++ zs)) H2 Q (E0.at σ)) := by
  refine ⟨fun pins s σ H Q I h => ?_⟩
  obtain ⟨f, fd, ps, hm, hk, hb, FG, hkk⟩ := F
  refine wpAny_Call_Name_kw (ld_glob I hg hm ?_ hdb)
  refine PySem.W.callWith_KW (h₀ := X.base) I.ok.mod.kin hk hall (thn (ha.run pos pins s σ H _ I h) fun us s1 ⟨vs, H1, I1, r, q⟩ => ?_) hpl he
  refine thn (hkw.run pos pins s1 σ H1 _ I1 q) fun ws s2 ⟨zs, H2, I2, rz, h1, h2, q2⟩ => ⟨I2.kIn, ?_⟩
  rw [hks]
  exact run_KV hG FG (hkk kp hkb rfl) hr hx I2 r rz h1 h2 q2
theorem pe_callKV0 {kws : List Keyword} {kp : Kp} {tk : TA} (hG : X.A.guards = some []) (F : CallV X.prog X.w X.K X.mg X.base cls kb k kp.f sp) (hkb : kp ∈ kb) (hr : Room k X.A) (hg : Gl X (Str.ofString kp.f)) (hx : ∀ σ, PassesAt (L2.CX X.prog X.w) X σ (E0.at σ))
    (hkw : PK X kws tk) (hall : (backToKw pos (keywordEach kws X.env)).all (·.1.isSome) = true) (hks : (backToKw pos (keywordEach kws X.env)).filterMap (·.1) = kp.ks.map Str.ofString)
    (hdb : (Str.ofString kp.f == ("__debug__" : Str)) = false) (hpl : ((backTo pos (starEach [] X.env)).any (·.1) || (backToKw pos (keywordEach kws X.env)).any (·.1.isNone)) = false) :
    PE X (.Call (.Name (Str.ofString kp.f) p) [] kws pos) (fun σ H Q => tk σ H fun zs H2 => 0 = kp.n ∧ zs.length = kp.ks.length ∧ liftS X.K cls sp (pick kp.ix zs) H2 Q (E0.at σ)) := by
  refine ⟨fun pins s σ H Q I h => ?_⟩
  obtain ⟨f, fd, ps, hm, hk, hb, FG, hkk⟩ := F
  refine wpAny_Call_Name_kw (ld_glob I hg hm ?_ hdb)
  refine PySem.W.callWith_KW0 (h₀ := X.base) I.ok.mod.kin hk hall ?_ hpl
  refine thn (hkw.run pos pins s σ H _ I h) fun ws s2 ⟨zs, H2, I2, rz, h1, h2, q2⟩ => ⟨I2.kIn, ?_⟩
  rw [hks]
  exact run_KV hG FG (hkk kp hkb rfl) hr hx I2 .nil rz h1 h2 q2
end

/-! ### plain expressions -/
/-- no star, slice, set display, comprehension of another kind -/
def plainX : Expr → Bool
  | .Starred .. => false | .Slice .. => false | .Set .. => false | .SetComp .. => false | .DictComp .. => false | .GeneratorExp .. => false
  | .NamedExpr .. => false | .Lambda .. => false | .Await .. => false | .Yield .. => false | .YieldFrom .. => false
  | _ => true
theorem plain_star {x : Expr} (h : plainX x = true) (es : List Expr) (env : PySem.Env) : starEach (x :: es) env = (false, eval x env) :: starEach es env := by
  cases x <;> first | rfl | cases h
theorem plain_ix {x : Expr} (h : plainX x = true) : PlainIx x := by
  intro o i
  cases x <;> first | rfl | cases h
theorem plain_mark {x : Expr} (op : CmpOp) (h : plainX x = true) : behindInMarks op x = false := by
  cases x <;> first | rfl | cases h
theorem plain_fold {x : Expr} (h : plainX x = true) (env : PySem.Env) (v : Value) : foldedSetIterable x env v = pure v := by
  cases x <;> first | rfl | cases h
def noCall0 : Expr → Bool
  | .Call _ [] [] _ => false
  | _ => true
theorem plain_base {x : Expr} (h : noCall0 x = true) (n : Str) (env : PySem.Env) (wh : Sem Value) : attributeBase x n env wh = wh := by
  unfold attributeBase
  split
  · cases h
  · rfl

/-! ### static facts of a def or a block -/
structure SCx where
  sc : Scope
  N : List Str
  fnb : Str → Bool
  bl : List String
  fs : List String
  mt : Nat → Bool
  tn : List String
  kb : List Kp
def SCx.vis (C : SCx) (n : Str) : Bool := match C.sc.names.lookup n with
  | some .local => true | some .cell => true | some .free => true | _ => false
def SCx.gl (C : SCx) (n : Str) : Bool := match C.sc.names.lookup n with
  | some .globalImplicit => true | _ => false
def SCx.sto (C : SCx) (n : Str) : Bool := match C.sc.names.lookup n with
  | some .local => true | some .cell => C.fnb n | _ => false
def SCx.loc (C : SCx) (n : Str) : Bool := match C.sc.names.lookup n with
  | some .local => true | _ => false
def SCx.blk (C : SCx) (scope : Scope) : SCx := ⟨relS scope C.sc, C.N, fun x => scope.names.lookup x == some .cell, C.bl, C.fs, fun _ => true, C.tn, C.kb⟩
def ownP (N : List Str) (own : List Nat) : List (Str × Nat) := own.filterMap fun i => N[i]?.map fun x => (x, i)

/-- a class as a value -/
def cv (cls : Cls) (c : String) : Value := match cls c with
  | some C => .ref C
  | none => .type c
def tyB : List String := ["NoneType", "bool", "int", "str", "tuple", "list", "dict"]
/-- what is known of the module's constants and classes -/
structure MOk (K : PySem.W.Frag) (mg : Str → Option Value) (cls : Cls) (Γ : Ctx) (bl tn : List String) : Prop where
  mono : Γ.Mono
  cons : ∀ x v, Γ.cn x = some v → ∃ u a, mg (Str.ofString x) = some u ∧ RelV a u ∧ ∀ hid μ F, Rep K ⟨cls, hid⟩ μ F v a
  bl : ∀ x ∈ bl, mg (Str.ofString x) = none
  tn : ∀ x ∈ tn, (∃ C, cls x = some C ∧ mg (Str.ofString x) = some (.ref C)) ∨ (cls x = none ∧ mg (Str.ofString x) = none ∧ bootBuiltins (Str.ofString x) = some (.type x) ∧ Str.ofString x ≠ "__name__" ∧ (Str.ofString x == ("__debug__" : Str)) = false)
  sub : ∀ a b r, Γ.sub a b = some r → PySem.W.kitOne K (cv cls a) (cv cls b) = some r
  hb : ∀ x ∈ tyB, cls x = none
  cty : ∀ c C, cls c = some C → ∀ (H : Hp) (a dx : Addr) (fs : List (Str × V)), H a = some (.ins C dx fs) → TyX K H (.ref a) (.ref C)
/-- what must be true of the machine's context -/
structure XOk (X : Cx) (C : SCx) (Γ : Ctx) (cls : Cls) (E0 : Wh) : Prop where
  env : X.env.scope = C.sc
  N : X.N = C.N
  nd : C.N.Nodup
  calm : X.calm = true
  fn : ∀ x, C.fnb x = true → X.fn x = true
  gd : X.A.guards = some []
  un : X.A.units + 65 < cLine
  m : MOk X.K X.mg cls Γ C.bl C.tn
  calls : ∀ f ∈ C.fs, ∃ sp k, Γ.fn f = some sp ∧ Room k X.A ∧ CallV X.prog X.w X.K X.mg X.base cls C.kb k f sp
  pass : ∀ σ, PassesAt (L2.CX X.prog X.w) X σ (E0.at σ)
theorem XOk.mono {X : Cx} {C : SCx} {Γ : Ctx} {cls : Cls} {E0 : Wh} (O : XOk X C Γ cls E0) : Γ.Mono := O.m.mono

def opIs : Bop → Operator → Bool
  | .add, .Add => true | .sub, .Sub => true | .mul, .Mult => true | .fdiv, .FloorDiv => true | .mod, .Mod => true | .pow, .Pow => true
  | _, _ => false
theorem opIs_eq {o : Bop} {op : Operator} (h : opIs o op = true) : op = opOf o := by
  cases o <;> cases op <;> first | rfl | cases h
def copIs : Cop → CmpOp → Bool
  | .eq, .Eq => true | .ne, .NotEq => true | .lt, .Lt => true | .le, .LtE => true | .gt, .Gt => true | .ge, .GtE => true | .in_, .In => true | .nin, .NotIn => true | .is_, .Is => true | .isn, .IsNot => true
  | _, _ => false
theorem copIs_eq {o : Cop} {op : CmpOp} (h : copIs o op = true) : op = copOf o := by
  cases o <;> cases op <;> first | rfl | cases h
def biName : Bi → String
  | .len => "len" | .int_ => "int" | .abs => "abs" | .min => "min" | .max => "max" | .sum => "sum" | .any => "any" | .all => "all" | .sorted => "sorted" | .list => "list" | .tuple => "tuple" | .dict => "dict"
  | .str => "str" | .repr => "repr" | .divmod => "divmod" | .bool => "bool"
theorem biBoot (f : Bi) : bootBuiltins (Str.ofString (biName f)) = some (biVal f) := by
  cases f <;> decide +kernel
def mtName : Mt → String
  | .append => "append" | .pop => "pop" | .join => "join" | .split => "split" | .lindex => "index" | .sindex => "index" | .count => "count" | .items => "items"

def chkP1 (C : SCx) (i : Nat) : Expr → Bool
  | .Name n _ => decide (C.N[i]? = some n) && C.sto n
  | _ => false
def chkPs (C : SCx) : List Nat → List Expr → Bool
  | [], [] => true
  | i :: is, x :: xs => chkP1 C i x && chkPs C is xs
  | _, _ => false
def chkP (C : SCx) : Pt → Expr → Bool
  | .nm i, x => chkP1 C i x
  | .tp is, x => match x with
    | .Tuple xs _ _ => chkPs C is xs
    | _ => false
def chkK : Kst → Const → Bool
  | .non, .none => true
  | .bl b, .bool b' => b == b'
  | .int i, .int j => decide (i = j)
  | .str s, .str t => decide (t.cps.toList = s)
  | _, _ => false

def chkKw : List String → List Keyword → Bool
  | [], [] => true
  | k :: ks, ⟨some n, v, _⟩ :: r => decide (n = Str.ofString k) && chkKw ks r
  | _, _ => false
mutual
def chkE (C : SCx) : IR → Expr → Bool
  | .var i, x => match x with
    | .Name n _ => decide (C.N[i]? = some n) && C.vis n && !(n == ("__debug__" : Str)) && !(n == ("__classdict__" : Str))
    | _ => false
  | .cst c, x => match x with
    | .Constant k _ _ => chkK c k
    | _ => false
  | .glob g, x => match x with
    | .Name n _ => decide (n = Str.ofString g) && C.gl n && !(n == ("__debug__" : Str))
    | _ => false
  | .bin o a b, x => match x with
    | .BinOp xa op xb _ => opIs o op && chkE C a xa && chkE C b xb
    | _ => false
  | .neg a, x => match x with
    | .UnaryOp .USub xa _ => chkE C a xa
    | _ => false
  | .cmp o a b, x => match x with
    | .Compare xa [op] [xb] _ => copIs o op && chkE C a xa && chkE C b xb && plainX xb
    | _ => false
  | .chain o1 o2 a b c, x => match x with
    | .Compare xa [op, op'] [xb, xc] _ => copIs o1 op && copIs o2 op' && chkE C a xa && chkE C b xb && chkE C c xc && plainX xc
    | _ => false
  | .and_ a b, x => match x with
    | .BoolOp .And [xa, xb] _ => chkE C a xa && chkE C b xb
    | .BoolOp .And (xa :: xb :: xc :: r) pos => chkE C a xa && chkE C b (.BoolOp .And (xb :: xc :: r) pos)
    | _ => false
  | .or_ a b, x => match x with
    | .BoolOp .Or [xa, xb] _ => chkE C a xa && chkE C b xb
    | .BoolOp .Or (xa :: xb :: xc :: r) pos => chkE C a xa && chkE C b (.BoolOp .Or (xb :: xc :: r) pos)
    | _ => false
  | .not_ a, x => match x with
    | .UnaryOp .Not xa _ => chkE C a xa
    | _ => false
  | .ite c a b, x => match x with
    | .IfExp xc xa xb _ => chkE C c xc && chkE C a xa && chkE C b xb
    | _ => false
  | .tup es, x => match x with
    | .Tuple xs _ _ => chkEs C es xs
    | _ => false
  | .lst _ es, x => match x with
    | .List xs _ => chkEs C es xs
    | _ => false
  | .ix a i, x => match x with
    | .Subscript xa xi _ => chkE C a xa && chkE C i xi && plainX xi
    | _ => false
  | .slice a lo hi, x => match x with
    | .Subscript xa (.Slice xl xh none _) _ => chkE C a xa && chkO C lo xl && chkO C hi xh
    | _ => false
  | .rev a, x => match x with
    | .Subscript xa (.Slice none none (some (.UnaryOp .USub (.Constant (.int i) _ _) _)) _) _ => chkE C a xa && decide (i = 1)
    | _ => false
  | .call f es, x => match x with
    | .Call (.Name n _) xs [] _ => decide (n = Str.ofString f) && C.gl n && !(n == ("__debug__" : Str)) && C.fs.contains f && chkEs C es xs
    | _ => false
  | .callk p es kes, x => match x with
    | .Call (.Name n _) xs kws _ => decide (n = Str.ofString p.f) && C.gl n && !(n == ("__debug__" : Str)) && C.fs.contains p.f && decide (p ∈ C.kb) && chkEs C es xs && decide (xs.length = p.n) && chkKw p.ks kws && chkKs C kes kws
    | _ => false
  | .isi a t, x => match x with
    | .Call (.Name n _) [xa, .Name m _] [] _ => decide (n = Str.ofString "isinstance") && C.gl n && C.bl.contains "isinstance" && chkE C a xa && plainX xa && decide (m = Str.ofString t) && C.gl m && C.tn.contains t && !(m == ("__debug__" : Str))
    | _ => false
  | .bi _ f es, x => match x with
    | .Call (.Name n _) (x1 :: xs) [] _ => decide (n = Str.ofString (biName f)) && C.gl n && C.bl.contains (biName f) && chkEs C es (x1 :: xs)
    | _ => false
  | .mth m o es, x => match x with
    | .Call (.Attribute xo n apos) (x1 :: xs) [] cpos => decide (n = Str.ofString (mtName m)) && chkE C o xo && chkEs C es (x1 :: xs) && (apos.endLine == cpos.line) && decide ((x1 :: xs).length < 30) && noCall0 xo
    | _ => false
  | .comp _ own p it c e, x => match x with
    | .ListComp elt [⟨tg, iter, ifs, 0⟩] scope _ => chkIt C it iter && plainX iter && chkC (C.blk scope) c ifs && blkC C.N C.sc scope (ownP C.N own) && decide ((ownP C.N own).map (·.2) = own) && chkP (C.blk scope) p tg && p.slots.all (fun i => own.contains i) && chkE (C.blk scope) e elt
    | _ => false
def chkEs (C : SCx) : IRs → List Expr → Bool
  | .nil, xs => xs.isEmpty
  | .cons e es, xs => match xs with
    | x :: r => chkE C e x && plainX x && chkEs C es r
    | [] => false
def chkKs (C : SCx) : IRs → List Keyword → Bool
  | .nil, xs => xs.isEmpty
  | .cons e es, xs => match xs with
    | ⟨_, x, _⟩ :: r => chkE C e x && chkKs C es r
    | [] => false
def chkO (C : SCx) : IRo → Option Expr → Bool
  | .none, x => x.isNone
  | .some e, x => match x with
    | some x => chkE C e x
    | none => false
def chkC (C : SCx) : IRo → List Expr → Bool
  | .none, xs => xs.isEmpty
  | .some e, xs => match xs with
    | [x] => chkE C e x
    | _ => false
def chkIt (C : SCx) : It → Expr → Bool
  | .seq e, x => chkE C e x
  | .rng1 e, x => match x with
    | .Call (.Name n _) [x1] [] _ => decide (n = Str.ofString "range") && C.gl n && C.bl.contains "range" && chkE C e x1 && plainX x1
    | _ => false
  | .rng2 a b, x => match x with
    | .Call (.Name n _) [x1, x2] [] _ => decide (n = Str.ofString "range") && C.gl n && C.bl.contains "range" && chkE C a x1 && chkE C b x2 && plainX x1 && plainX x2
    | _ => false
  | .enum _, _ => false
  | .zip _ _, _ => false
  | .items _, _ => false
end
end PL
set_option maxRecDepth 100000
set_option maxHeartbeats 4000000
/-! PL1j: a matching term's wish is the expression's reading. -/
namespace PL
open PySem PySem.Spec PyProof.Rows L2

theorem PE.le {X : Cx} {e : Expr} {t t' : TE} (h : PE X e t) (g : ∀ σ H Q, t' σ H Q → t σ H Q) : PE X e t' := ⟨fun pins s σ H Q I q => h.run pins s σ H Q I (g σ H Q q)⟩
theorem PT.le {X : Cx} {e : Expr} {t t' : TT} (h : PT X e t) (g : ∀ σ H Q, t' σ H Q → t σ H Q) : PT X e t' := ⟨fun pins s σ H Q I q => h.run pins s σ H Q I (g σ H Q q)⟩
theorem PA.le {X : Cx} {e : List Expr} {t t' : TA} (h : PA X e t) (g : ∀ σ H Q, t' σ H Q → t σ H Q) : PA X e t' := ⟨fun pos pins s σ H Q I q => h.run pos pins s σ H Q I (g σ H Q q)⟩
theorem PO.le {X : Cx} {e : Option Expr} {t t' : TO} (h : PO X e t) (g : ∀ σ H Q, t' σ H Q → t σ H Q) : PO X e t' := ⟨fun pins s σ H Q I q => h.run pins s σ H Q I (g σ H Q q)⟩
theorem PI.le {X : Cx} {tg e : Expr} {t t' : TI} (h : PI X tg e t) (g : ∀ σ H Q, t' σ H Q → t σ H Q) : PI X tg e t' := ⟨fun pins s σ H Q I q => h.run pins s σ H Q I (g σ H Q q)⟩
theorem PTs.le {X : Cx} {e : List Expr} {t t' : TT} (h : PTs X e t) (g : ∀ σ H Q, t' σ H Q → t σ H Q) : PTs X e t' := ⟨fun pins s σ H Q I q => h.run pins s σ H Q I (g σ H Q q)⟩
theorem pw_bool {X : Cx} {op : BoolOp} {xs : List Expr} {pos : Pos} {t : TT} (h : PT X (.BoolOp op xs pos) t) : PW X (.BoolOp op xs pos) t := ⟨fun wh pins s σ H Q I q => h.run pins s σ H Q I q⟩

section
variable {X : Cx} {C : SCx} {Γ : Ctx} {cls : Cls} {E0 : Wh}
theorem XOk.visOk (O : XOk X C Γ cls E0) {n : Str} (h : C.vis n = true) : Vis X.env.scope n := by
  unfold SCx.vis at h
  rw [← O.env] at h
  unfold Vis
  split at h
  · rename_i e; exact .inl e
  · rename_i e; exact .inr (.inl e)
  · rename_i e; exact .inr (.inr e)
  · cases h
theorem XOk.glOk (O : XOk X C Γ cls E0) {n : Str} (h : C.gl n = true) : Gl X n := by
  unfold SCx.gl at h
  rw [← O.env] at h
  show X.env.scope.names.lookup n = _
  split at h
  · rename_i e; exact e
  · cases h
theorem XOk.stoOk (O : XOk X C Γ cls E0) {n : Str} (h : C.sto n = true) : L2.Loc X.env.scope n ∧ (X.fn n = true ∨ X.env.scope.names.lookup n = some .local) := by
  unfold SCx.sto at h
  rw [← O.env] at h
  unfold L2.Loc
  split at h
  · rename_i e; exact ⟨.inl e, .inr e⟩
  · rename_i e; exact ⟨.inr e, .inl (O.fn n h)⟩
  · cases h
theorem XOk.blk (O : XOk X C Γ cls E0) (s : Shared) (H : Hp) (scope : Scope) (cl : List (Str × Addr)) (a : Addr) (fp : List Addr) : XOk (X.blk s H scope (compEnvC scope cl a X.env) fp) (C.blk scope) Γ cls Wh.none where
  env := by show relS scope X.env.scope = relS scope C.sc; rw [O.env]
  N := O.N
  nd := O.nd
  calm := O.calm
  fn := fun _ h => h
  gd := O.gd
  un := O.un
  m := O.m
  calls := O.calls
  pass := fun σ => fun _ _ _ _ _ _ h => by
    obtain ⟨_, _, _, _, _, _, _, _, _, _, _, _, z⟩ := h
    exact z.elim

/-! ### targets -/
theorem sP1 (O : XOk X C Γ cls E0) {i : Nat} {x : Expr} (h : chkP1 C i x = true) : PG X x (gName i) := by
  unfold chkP1 at h
  split at h
  · rename_i n pos
    rw [Bool.and_eq_true] at h
    obtain ⟨h1, h2⟩ := h
    obtain ⟨g1, g2⟩ := O.stoOk h2
    exact pg_name (by rw [O.N]; exact O.nd) (by rw [O.N]; exact of_decide_eq_true h1) g1 g2
  · cases h
theorem chkP1_name {i : Nat} {x : Expr} (h : chkP1 C i x = true) : ∃ n pos, x = .Name n pos := by
  unfold chkP1 at h
  split at h
  · exact ⟨_, _, rfl⟩
  · cases h
theorem sPs (O : XOk X C Γ cls E0) : ∀ (is : List Nat) (xs : List Expr), chkPs C is xs = true → PGs X xs (gNames is) ∧ (assignEach xs X.env).length = is.length ∧ (assignEach xs X.env).findIdx? (·.1) = none
  | [], [], _ => ⟨pgs_nil, rfl, rfl⟩
  | i :: is, x :: xs, h => by
    have h' : (chkP1 C i x && chkPs C is xs) = true := h
    rw [Bool.and_eq_true] at h'
    obtain ⟨g1, g2, g3⟩ := sPs O is xs h'.2
    obtain ⟨n, pos, e⟩ := chkP1_name h'.1
    subst e
    refine ⟨pgs_cons (sP1 O h'.1) g1, ?_, ?_⟩
    · show (assignEach xs X.env).length + 1 = is.length + 1
      rw [g2]
    · show ((false, assign (.Name n pos) X.env) :: assignEach xs X.env).findIdx? (·.1) = none
      rw [List.findIdx?_cons]
      simp only [Bool.false_eq_true, if_false, g3, Option.map_none]
  | [], _ :: _, h => by cases h
  | _ :: _, [], h => by cases h
theorem sP (O : XOk X C Γ cls E0) {p : Pt} {x : Expr} (h : chkP C p x = true) : PG X x (tgOf X.K p) := by
  cases p with
  | nm i => exact sP1 O h
  | tp is =>
    unfold chkP at h
    dsimp only at h
    split at h
    · obtain ⟨g1, g2, g3⟩ := sPs O is _ h
      exact pg_tup O.calm g1 g2 g3
    · cases h

/-! ### operations, whatever is hidden -/
theorem op_binX (o : Bop) : OpR X (binaryOp (opOf o)) (fun v w H Q => ∃ hid, rBin X.K ⟨cls, hid⟩ o v w H Q) := fun pins s σ H v w u u' Q I r1 r2 ⟨hid, h⟩ => op_bin o pins s σ H v w u u' Q I r1 r2 h
theorem op_cmpX (o : Cop) (hu : X.A.units + 65 < cLine) : OpR X (compareOp (copOf o)) (fun v w H Q => ∃ hid, rCmp X.K ⟨cls, hid⟩ o v w H Q) := fun pins s σ H v w u u' Q I r1 r2 ⟨hid, h⟩ => op_cmp o hu pins s σ H v w u u' Q I r1 r2 h
theorem un_okX : UnR X (unaryOp .USub) (fun v H Q => ∃ hid, rNegR X.K ⟨cls, hid⟩ v H Q) := fun pins s σ H v u Q I r1 ⟨hid, h⟩ => un_ok pins s σ H v u Q I r1 h
theorem ix_okX : IxR X (fun v w H Q => ∃ hid, rIxP X.K ⟨cls, hid⟩ v w H Q) := fun a b pins s σ H v w u u' Q I r1 r2 ⟨hid, h⟩ hs => ix_ok a b pins s σ H v w u u' Q I r1 r2 h hs
theorem sl_okX : SlR X (fun v lo hi H Q => ∃ hid, rSlP X.K ⟨cls, hid⟩ v lo hi H Q) := fun pins s σ H x v vl vu lo hi sl Q I r1 h1 h2 h3 ⟨hid, h⟩ => sl_ok pins s σ H x v vl vu lo hi sl Q I r1 h1 h2 h3 h
theorem bi_okX (m : Bool) (f : Bi) (hc : X.calm = true) (hg : X.A.guards = some []) (hu : X.A.units + 64 < cLine) : CallR X (biVal f) (fun vs H Q => ∃ hid, rBi X.K ⟨cls, hid⟩ m f vs H Q) := fun pins s σ H xs us Q I r ⟨hid, h⟩ => bi_ok m f hc hg hu pins s σ H xs us Q I r h
theorem mt_okX (m : Mt) : MtR X (mtId m) (fun v vs H Q => ∃ hid, rMt X.K ⟨cls, hid⟩ m v vs H Q) := fun pins s σ H x xs v us Q I r rs ⟨hid, h⟩ => mt_ok m pins s σ H x xs v us Q I r rs h
theorem biSome {m : Bool} {f : Bi} {S : Sto} {Q : K1} (h : wBi m f S [] Q) : False := by
  cases f <;> exact h
theorem biTy (f : Bi) : (∃ id, biVal f = .builtin id) ∨ ∃ T, biVal f = .type T := by
  cases f <;> first | exact .inl ⟨_, rfl⟩ | exact .inr ⟨_, rfl⟩
theorem mtSlot (m : Mt) : PlainAttrs (mtTy m) ∧ Slot (mtTy m) (Str.ofString (mtName m)) (mtId m) ∧ typeOf (.builtin (mtId m)) = pure (.type "method_descriptor") := by
  cases m
  · exact ⟨PySem.F.plainAttrs_list, PySem.F.slot_list_append, PySem.F.type_list_append⟩
  · exact ⟨PySem.F.plainAttrs_list, PySem.F.slot_list_pop, PySem.F.type_list_pop⟩
  · exact ⟨PySem.F.plainAttrs_str, PySem.F.slot_str_join, PySem.F.type_str_join⟩
  · exact ⟨PySem.F.plainAttrs_str, PySem.F.slot_str_split, PySem.F.type_str_split⟩
  · exact ⟨PySem.F.plainAttrs_list, PySem.F.slot_list_index, PySem.F.type_list_index⟩
  · exact ⟨PySem.F.plainAttrs_str, PySem.F.slot_str_index, PySem.F.type_str_index⟩
  · exact ⟨PySem.F.plainAttrs_str, PySem.F.slot_str_count, PySem.F.type_str_count⟩
  · exact ⟨PySem.F.plainAttrs_dict, PySem.F.slot_dict_items, PySem.F.type_dict_items⟩
theorem chkEs_pl : ∀ (es : IRs) (xs : List Expr), chkEs C es xs = true → ∀ x ∈ xs, plainX x = true
  | .nil, xs, h => fun x hx => by
    have h' : xs.isEmpty = true := h
    cases xs with
    | nil => cases hx
    | cons _ _ => cases h'
  | .cons e es, [], h => fun x hx => by cases hx
  | .cons e es, y :: xs, h => fun x hx => by
    have h' : (chkE C e y && plainX y && chkEs C es xs) = true := h
    rw [Bool.and_eq_true, Bool.and_eq_true] at h'
    rcases List.mem_cons.mp hx with rfl | hx
    · exact h'.1.2
    · exact chkEs_pl es xs h'.2 x hx
theorem plain_any : ∀ (xs : List Expr) (pos : Pos) (env : PySem.Env), (∀ x ∈ xs, plainX x = true) → (backTo pos (starEach xs env)).any (·.1) = false ∧ (backTo pos (starEach xs env)).all (fun x => !x.1) = true
  | [], _, _, _ => ⟨rfl, rfl⟩
  | x :: xs, pos, env, h => by
    obtain ⟨h1, h2⟩ := plain_any xs pos env fun y hy => h y (List.mem_cons_of_mem _ hy)
    rw [plain_star (h x List.mem_cons_self)]
    exact ⟨by show (false || _) = false; rw [Bool.false_or]; exact h1, by show (!false && _) = true; rw [Bool.not_false, Bool.true_and]; exact h2⟩
end
end PL
set_option maxRecDepth 100000
set_option maxHeartbeats 4000000
/-! PL1k: what is walked. -/
namespace PL
open PySem PySem.Spec PyProof.Rows L2

section
variable {K : PySem.W.Frag} {μ : List Addr} {F : Hp} {cls : Cls}
theorem items_lst {S : Sto} {x : PV} {xs : List PV} (e : itemsOf S x = some xs) : (drf S x = .lst xs) ∨ (x = .tup xs) ∨ (∃ ns, x = .scr ns ∧ xs = ns.map .int) ∨ ∃ s, x = .str s ∧ xs = s.map fun c => .str [c] := by
  unfold itemsOf at e
  generalize ey : drf S x = y at e
  cases y with
  | lst ys => exact .inl (by rw [Option.some.inj e])
  | tup ys => exact .inr (.inl (by rw [← Option.some.inj e]; exact drf_tup ey))
  | scr ns => exact .inr (.inr (.inl ⟨ns, drf_scr ey, (Option.some.inj e).symm⟩))
  | str s => exact .inr (.inr (.inr ⟨s, drf_str ey, (Option.some.inj e).symm⟩))
  | _ => cases e
theorem itl_ok {S0 : Sto} {x : PV} {xs : List PV} {a : Addr} (hl : xs.length ≤ line) (r0 : ∀ hid, Rep K ⟨cls, hid⟩ μ F x (.ref a)) (e0 : drf S0 x = .lst xs) : ItR K cls μ F (Itl K a) xs (fun S' => itemsOf S' x = some xs) := by
  refine ⟨hl, fun hid μ' F' H S i m f r g hi => ?_⟩
  have e : drf S x = .lst xs := by
    rcases items_lst g with e | e | ⟨ns, e, _⟩ | ⟨s, e, _⟩
    · exact e
    · subst e; cases e0
    · subst e; cases e0
    · subst e; cases e0
  obtain ⟨a', vs, ea, hq, rl⟩ := r.asL (Rep.mono m f _ _ (r0 hid)) e
  cases ea
  have hlen := rl.length
  refine ⟨fun z => ⟨vs, SqL.of hq, by omega⟩, fun y hy => ?_⟩
  obtain ⟨w, hw, rw'⟩ := rl.get hy
  refine ⟨⟨vs, w, SqL.of hq, hw⟩, fun v H' ⟨eH, q⟩ => ?_⟩
  subst eH
  have := q vs (SqL.of hq)
  rw [hw] at this
  cases this
  exact ⟨F', Same.refl _, r, rw'⟩
theorem itc_ok {ns : List Int} {a : Addr} (hl : ns.length ≤ line) (hq : SqL K F a (ns.map V.int)) (g : Sto → Prop) : ItR K cls μ F (Itl K a) (ns.map .int) g := by
  refine ⟨by rw [List.length_map]; exact hl, fun hid μ' F' H S i m f r _ hi => ?_⟩
  have hq' : SqL K H a (ns.map V.int) := r.sub.seq (f.seq hq)
  refine ⟨fun z => ⟨_, hq', by rw [z, List.length_map, List.length_map]; exact Nat.le_refl _⟩, fun y hy => ?_⟩
  rw [List.getElem?_map] at hy
  cases hn : ns[i]? with
  | none => rw [hn] at hy; cases hy
  | some n =>
    rw [hn] at hy
    have hy' : PV.int n = y := Option.some.inj hy
    subst hy'
    have hv : (ns.map V.int)[i]? = some (V.int n) := by rw [List.getElem?_map, hn]; rfl
    refine ⟨⟨_, _, hq', hv⟩, fun v H' ⟨eH, q⟩ => ?_⟩
    subst eH
    have := q _ hq'
    rw [hv] at this
    cases this
    exact ⟨F', Same.refl _, r, rfl⟩
theorem itt_ok {xs : List PV} {vs : List V} {a : Addr} (hl : xs.length ≤ line) (hq : SqT K F a vs) (rl : ∀ hid, RepL K ⟨cls, hid⟩ μ F xs vs) (g : Sto → Prop) : ItR K cls μ F (Itt K a) xs g := by
  refine ⟨hl, fun hid μ' F' H S i m f r _ hi => ?_⟩
  have hq' : SqT K H a vs := sqT_mono r.sub (sqT_mono f hq)
  have rl' := RepL.mono m f _ _ (rl hid)
  have hlen := rl'.length
  refine ⟨fun z => ⟨vs, hq', by omega⟩, fun y hy => ?_⟩
  obtain ⟨w, hw, rw'⟩ := rl'.get hy
  refine ⟨⟨vs, w, hq', hw⟩, fun v H' ⟨eH, q⟩ => ?_⟩
  subst eH
  have := q vs hq'
  rw [hw] at this
  cases this
  exact ⟨F', Same.refl _, r, rw'⟩
theorem its_ok {s : List Nat} (o : okS s = true) (g : Sto → Prop) : ItR K cls μ F (Its (sOf s)) (s.map fun c => .str [c]) g := by
  refine ⟨by rw [List.length_map]; exact okS_len o, fun hid μ' F' H S i m f r _ hi => ?_⟩
  have hz : (sOf s).cps.size = s.length := by simp [sOf]
  refine ⟨fun z => by show (sOf s).cps.size ≤ i; rw [hz, z, List.length_map]; exact Nat.le_refl _, fun y hy => ?_⟩
  rw [List.getElem?_map] at hy
  cases hn : s[i]? with
  | none => rw [hn] at hy; cases hy
  | some c =>
    rw [hn] at hy
    have hy' : PV.str [c] = y := Option.some.inj hy
    subst hy'
    refine ⟨by show i < (sOf s).cps.size; rw [hz]; exact (List.getElem?_eq_some_iff.mp hn).1, fun v H' ⟨eH, c', hc', ev⟩ => ?_⟩
    subst eH ev
    have : (sOf s).cps[i]? = some c := by simpa [sOf] using hn
    rw [this] at hc'
    cases hc'
    exact ⟨F', Same.refl _, r, okS_one o (List.mem_of_getElem? hn), rfl⟩
theorem rngL_len : ∀ (n : Nat) (i : Int), (rngL i n).length = n
  | 0, _ => rfl
  | n + 1, i => by rw [rngL, List.length_cons, rngL_len n]
theorem rngL_get : ∀ (n : Nat) (lo : Int) (i : Nat) (y : PV), (rngL lo n)[i]? = some y → i < n ∧ y = .int (lo + i)
  | 0, lo, i, y, h => by cases h
  | n + 1, lo, 0, y, h => by
    have h' : PV.int lo = y := Option.some.inj h
    exact ⟨Nat.succ_pos _, by rw [← h']; simp⟩
  | n + 1, lo, i + 1, y, h => by
    have h' : (rngL (lo + 1) n)[i]? = some y := h
    obtain ⟨h1, h2⟩ := rngL_get n (lo + 1) i y h'
    refine ⟨Nat.succ_lt_succ h1, ?_⟩
    rw [h2]
    congr 1
    omega
theorem itr_ok {lo : Int} {n : Nat} (hl : n ≤ line) (g : Sto → Prop) : ItR K cls μ F (Itr lo n) (rngL lo n) g := by
  refine ⟨by rw [rngL_len]; exact hl, fun hid μ' F' H S i m f r _ hi => ?_⟩
  refine ⟨fun z => by show n ≤ i; rw [z, rngL_len]; exact Nat.le_refl _, fun y hy => ?_⟩
  obtain ⟨h1, h2⟩ := rngL_get n lo i y hy
  subst h2
  refine ⟨h1, fun v H' ⟨eH, ev⟩ => ?_⟩
  subst eH ev
  exact ⟨F', Same.refl _, r, rfl⟩
end

section
variable {X : Cx} {C : SCx} {Γ : Ctx} {cls : Cls} {E0 : Wh}
theorem Rep.any {K : PySem.W.Frag} {hid : List (Addr × HO)} {μ : List Addr} {F : Hp} {x : PV} {v : V} (h : Rep K ⟨cls, hid⟩ μ F x v) (hid' : List (Addr × HO)) : Rep K ⟨cls, hid'⟩ μ F x v := Rep.ca (ca := ⟨cls, hid⟩) (h := hid') x v h
theorem RepL.any {K : PySem.W.Frag} {hid : List (Addr × HO)} {μ : List Addr} {F : Hp} {x : List PV} {v : List V} (h : RepL K ⟨cls, hid⟩ μ F x v) (hid' : List (Addr × HO)) : RepL K ⟨cls, hid'⟩ μ F x v := RepL.ca (ca := ⟨cls, hid⟩) (h := hid') x v h
theorem pi_seq (hΓ : Γ.Mono) {x tg : Expr} {e : IR} (he : PE X x (tE X.K cls E0 Γ e)) : PI X tg x (tI X.K cls E0 Γ (.seq e)) := by
  refine ⟨fun pins s σ H R I h => ?_⟩
  obtain ⟨hid, μ, F, ρ, S, E, A, h⟩ := h
  refine thn (he.run pins s σ H (fun v H1 => ∃ x S1 μ1 F1 xs, Ext μ μ1 ∧ Same F F1 ∧ SR X.K ⟨cls, hid⟩ μ1 F1 H1 S1 ∧ Rep X.K ⟨cls, hid⟩ μ1 F1 x v ∧ itemsOf S1 x = some xs ∧ KvI X.K ⟨cls, hid⟩ μ F R xs (fun S' => itemsOf S' x = some xs) S1) I
    (tE_of hΓ A h fun x S1 v H1 μ1 F1 ⟨xs, e1, e2⟩ m f r q => ⟨x, S1, μ1, F1, xs, m, f, r, q, e1, e2⟩)) fun v s1 ⟨w, H1, I1, r1, x, S1, μ1, F1, xs, m, f, r, q, e1, e2⟩ => ?_
  rcases items_lst e1 with e | e | ⟨ns, e, ex⟩ | ⟨t, e, ex⟩
  · obtain ⟨a, vs, ev, hq, rl⟩ := r.asL q e
    subst ev
    cases r1
    obtain ⟨its, rv, p, hz⟩ := I1.list (SqL.of hq)
    have hl := rl.length
    have hR := e2 (Itl X.K a) H1 μ1 F1 m f r (itl_ok (by rw [line_eq] at hz; omega) (fun hid' => q.any hid') e)
    refine wpAny_pyIter_list p.isList ?_
    refine ⟨s1.heap.objs.size, [s1.heap.objs.size], _, _, H1, rfl, I1.kept (t' := s1.toks) fun b o e => Heap.get?_push_of_some _ e, turn_list a _, ⟨_, Heap.get?_push_size _ rfl, rfl, rfl⟩, fun b hb => ?_, hR⟩
    have e : b = s1.heap.objs.size := by simpa using hb
    subst e
    exact I1.fpOk (Nat.le_refl _) (I1.hok.fresh (Nat.le_refl _))
  · subst e
    obtain ⟨a, vs, ev, hq, rl⟩ := q
    subst ev
    cases r1
    obtain ⟨its, rv, p, hz⟩ := I1.tuple (sqT_mono r.sub hq)
    have hl := rl.length
    have hR := e2 (Itt X.K a) H1 μ1 F1 m f r (itt_ok (by rw [line_eq] at hz; omega) hq (fun hid' => rl.any hid') _)
    refine wpAny_pyIter_tuple (show s1.heap.IsTuple a its.toArray from p) ?_
    refine ⟨s1.heap.objs.size, [s1.heap.objs.size], _, _, H1, rfl, I1.kept (t' := s1.toks) fun b o e => Heap.get?_push_of_some _ e, turn_tuple a _, ⟨_, Heap.get?_push_size _ rfl, rfl, rfl⟩, fun b hb => ?_, hR⟩
    have e : b = s1.heap.objs.size := by simpa using hb
    subst e
    exact I1.fpOk (Nat.le_refl _) (I1.hok.fresh (Nat.le_refl _))
  · subst e ex
    obtain ⟨a, ev, hq⟩ := q
    subst ev
    cases r1
    obtain ⟨its, rv, p, hz⟩ := I1.list (r.sub.seq hq)
    rw [List.length_map, line_eq] at hz
    have hR := e2 (Itl X.K a) H1 μ1 F1 m f r (itc_ok hz hq _)
    refine wpAny_pyIter_list p.isList ?_
    refine ⟨s1.heap.objs.size, [s1.heap.objs.size], _, _, H1, rfl, I1.kept (t' := s1.toks) fun b o e => Heap.get?_push_of_some _ e, turn_list a _, ⟨_, Heap.get?_push_size _ rfl, rfl, rfl⟩, fun b hb => ?_, hR⟩
    have e : b = s1.heap.objs.size := by simpa using hb
    subst e
    exact I1.fpOk (Nat.le_refl _) (I1.hok.fresh (Nat.le_refl _))
  · subst e ex
    obtain ⟨o, ev⟩ := q
    subst ev
    obtain ⟨t', rfl⟩ := r1
    have hR := e2 (Its (sOf t)) H1 μ1 F1 m f r (its_ok o _)
    cases ha : (sOf t).cps.all (· < 128)
    · exact wpAny_pyIter_wide ha (pi_one (tk := s1.toks) I1 _ (turn_str _ (sOf t) t' "str_iterator" (.inr rfl)) ⟨_, Heap.get?_push_size _ rfl, rfl, rfl⟩ hR)
    · exact wpAny_pyIter_ascii ha (pi_one (tk := s1.toks) I1 _ (turn_str _ (sOf t) t' "str_ascii_iterator" (.inl rfl)) ⟨_, Heap.get?_push_size _ rfl, rfl, rfl⟩ hR)
end
end PL
set_option maxRecDepth 100000
set_option maxHeartbeats 4000000
/-! PL1ld: a dict's item. -/
namespace PL
open PySem PySem.Spec PyProof.Rows L2

theorem subTail_of {prog : Program} {w : World} {A : Around} {E : Value → Shared → Prop} {s : Shared} {value slice : Expr} {T id : String} {o i : Value} {Q : Value → Shared → Prop}
    (hl : typeLookup (.type T) "__getitem__" = pure (some (.builtin id))) (hs : subscripted slice false o i = operate [o, i] (getItem o i)) (hT : s.TypeIs o T) (h : wpAny (model prog w) A (getItem o i) Q E s) :
    wpAny (model prog w) A (subscriptTail value slice o i) Q E s := by
  unfold subscriptTail
  refine wpAny_bind ?_
  rw [getitemInPython_of_ne hT.not_modules]
  refine wpAny_bind (wpAny_specialOf hT hl ?_)
  have fin : wpAny (model prog w) A (subscripted slice false o i) (fun r s₃ => wpAny (model prog w) A (letTemporaryGo value o r >>= fun _ => pure r) Q E s₃) E s := by
    rw [hs]
    exact wpAny_operating (wpAny_mono h (fun r s₃ h₃ => wpAny_bind (wpAny_letTemporaryGo (wpAny_pure h₃))) fun _ _ x => x)
  first
    | exact wpAny_pure (wpAny_bind fin)
    | exact wpAny_bind (wpAny_pure (wpAny_bind fin))
    | exact wpAny_bind fin
theorem ix_dct {X : Cx} (hu : X.A.units + 1 < cLine) : IxR X (fun x y H Q => ∃ a v, x = .ref a ∧ DGet H a y (some v) ∧ Q v H) := by
  intro value slice pins s σ H x y v u Q I rx ry h hs
  obtain ⟨a, z, ex, g, q⟩ := h
  subst ex
  obtain rfl : v = Value.ref a := rx
  exact subTail_of PySem.F.slot_dict_getitem.lookup hs (dict_typeIs I g) (d_getItem hu I g ry fun w' s3 I3 rw' => ⟨z, H, I3, rw', q⟩)

section
variable {K : PySem.W.Frag} {ca : CA} {μ : List Addr} {F : Hp}
theorem key_of {y : PV} {w : V} (hk : keyOk y = true) (h : Rep K ca μ F y w) : ∃ kk, KeyR y kk ∧ w = kV kk := by
  cases y with
  | int i => exact ⟨.inl i, rfl, h⟩
  | str s => exact ⟨.inr (sOf s), ⟨h.1, rfl⟩, h.2⟩
  | _ => cases hk
theorem eqv_key {x y : PV} {kx ky : Key} (hx : KeyR x kx) (hy : KeyR y ky) : eqv x y = decide (kx = ky) := by
  cases x with
  | int i =>
    have ex : kx = .inl i := hx
    cases y with
    | int j =>
      have ey : ky = .inl j := hy
      subst ex ey
      show (i == j) = _
      rw [key_ll]
    | str t =>
      have ey : ky = .inr (sOf t) := hy.2
      subst ex ey
      rw [key_lr]; rfl
    | _ => exact False.elim hy
  | str s =>
    have ex : kx = .inr (sOf s) := hx.2
    cases y with
    | int j =>
      have ey : ky = .inl j := hy
      subst ex ey
      rw [key_rl]; rfl
    | str t =>
      have ey : ky = .inr (sOf t) := hy.2
      subst ex ey
      show (s == t) = _
      rw [key_rr]
      by_cases e : s = t
      · subst e; simp
      · have e' : ¬ sOf s = sOf t := fun z => e (sOf_inj z)
        rw [decide_eq_false e']
        exact beq_eq_false_iff_ne.mpr e
    | _ => exact False.elim hy
  | _ => exact False.elim hx
theorem repD_get {y : PV} {kk : Key} (hy : KeyR y kk) : ∀ {kvs : List (PV × PV)} {ks : List (Key × V)}, RepD K ca μ F kvs ks → (∀ v, dget kvs y = some v → ∃ u, valV ks kk = some u ∧ Rep K ca μ F v u) ∧ (dget kvs y = none → valV ks kk = none)
  | [], ks, h => by
    have h' : ks = [] := h
    subst h'
    exact ⟨fun v e => (by cases e), fun _ => rfl⟩
  | (k, x) :: kvs, ks, h => by
    obtain ⟨k2, v, r, e, hk, q, t⟩ := h
    subst e
    obtain ⟨g1, g2⟩ := repD_get hy t
    have ee := eqv_key hk hy
    unfold dget valV at *
    rw [List.find?_cons, List.find?_cons]
    show (∀ v', Option.map _ (match eqv k y with | true => _ | false => _) = some v' → ∃ u, Option.map _ (match decide (k2 = kk) with | true => _ | false => _) = some u ∧ _) ∧ (Option.map _ (match eqv k y with | true => _ | false => _) = none → Option.map _ (match decide (k2 = kk) with | true => _ | false => _) = none)
    rw [ee]
    cases decide (k2 = kk) with
    | true => exact ⟨fun v' e => ⟨v, rfl, by rw [← Option.some.inj e]; exact q⟩, fun e => by cases e⟩
    | false => exact ⟨g1, g2⟩
end
def rIxQ (K : PySem.W.Frag) (ca : CA) : R2 := fun v w H Q => ∃ μ F S x y, SR K ca μ F H S ∧ Rep K ca μ F x v ∧ Rep K ca μ F y w ∧ wIx S y (drf S x) (Kv K ca μ F Q)
theorem ix_okD {X : Cx} {cls : Cls} (hu : X.A.units + 1 < cLine) : IxR X (fun v w H Q => ∃ hid, rIxQ X.K ⟨cls, hid⟩ v w H Q) := by
  intro value slice pins s σ H v w u u' Q I r1 r2 h hs
  obtain ⟨hid, μ, F, S, x, y, r, hx, hy, q⟩ := h
  cases e : drf S x with
  | dct kvs =>
    obtain ⟨a, ks, ev, hq, rd⟩ := r.asD hx e
    subst ev
    rw [e] at q
    obtain ⟨hk, z, hz, q⟩ := q
    obtain ⟨kk, k1, k2⟩ := key_of hk hy
    subst k2
    obtain ⟨t, ht, rt⟩ := (repD_get (K := X.K) (ca := ⟨cls, hid⟩) (μ := μ) (F := F) k1 rd).1 z hz
    exact ix_dct hu value slice pins s σ H _ _ u u' Q I r1 r2 ⟨a, t, rfl, .inl ⟨ks, kk, .inl hq, rfl, ht.symm⟩, Kv.here q r rt⟩ hs
  | _ => exact ix_ok value slice pins s σ H v w u u' Q I r1 r2 ⟨μ, F, S, x, y, r, hx, hy, fun kvs z => (by rw [e] at z; cases z), q⟩ hs
end PL
set_option maxRecDepth 100000
set_option maxHeartbeats 4000000
/-! PL1l: a matching term's wish is the expression's reading. -/
namespace PL
open PySem PySem.Spec PyProof.Rows L2

section
variable {X : Cx} {C : SCx} {Γ : Ctx} {cls : Cls} {E0 : Wh}
/-- a test by its value -/
theorem pt_val' {x : Expr} {t : TE} {t' : TT} (h : PE X x t) (he : ∀ whole, isTrue x X.env whole = (do let v ← whole; standAt x.pos; holding [v] (truthy v)))
    (g : ∀ σ H Q, t' σ H Q → t σ H fun v H' => ∃ k, TruV X.K v H' k ∧ Q k H') : PT X x t' := PT.le (pt_truth h he) g
/-- a truth by values -/
theorem KvT {K : PySem.W.Frag} {ca : CA} {μ : List Addr} {F : Hp} {Q : Bool → Hp → Prop} {v : PV} {S : Sto} (h : ∃ k, truth S v = some k ∧ KvB K ca μ F Q k S) : Kv K ca μ F (fun w H' => ∃ k, TruV K w H' k ∧ Q k H') v S := by
  obtain ⟨k, h1, h2⟩ := h
  exact fun w H' μ' F' m f r q => ⟨k, truth_ok r q h1, h2 H' μ' F' m f r⟩

theorem PK.le {X : Cx} {e : List Keyword} {t t' : TA} (h : PK X e t) (g : ∀ σ H Q, t' σ H Q → t σ H Q) : PK X e t' := ⟨fun pos pins s σ H Q I q => h.run pos pins s σ H Q I (g σ H Q q)⟩
theorem chkKw_ok {pos : Pos} {env : PySem.Env} : ∀ (ks : List String) (kws : List Keyword), chkKw ks kws = true → kws.length = ks.length ∧ (backToKw pos (keywordEach kws env)).all (·.1.isSome) = true ∧ (backToKw pos (keywordEach kws env)).filterMap (·.1) = ks.map Str.ofString ∧ (backToKw pos (keywordEach kws env)).any (·.1.isNone) = false
  | [], [], _ => ⟨rfl, rfl, rfl, rfl⟩
  | k :: ks, ⟨some n, v, kp⟩ :: r, h => by
    have h' : (decide (n = Str.ofString k) && chkKw ks r) = true := h
    rw [Bool.and_eq_true, decide_eq_true_eq] at h'
    obtain ⟨g1, g2, g3, g4⟩ := chkKw_ok (pos := pos) (env := env) ks r h'.2
    have e : backToKw pos (keywordEach (⟨some n, v, kp⟩ :: r) env) = (some n, do let v ← eval v env; standAt pos; pure v) :: backToKw pos (keywordEach r env) := rfl
    rw [e]
    refine ⟨by rw [List.length_cons, List.length_cons, g1], ?_, ?_, ?_⟩
    · rw [List.all_cons, g2]; rfl
    · rw [List.filterMap_cons]; show n :: _ = _; rw [g3, h'.1]; rfl
    · rw [List.any_cons, g4]; rfl
  | [], _ :: _, h => by cases h
  | _ :: _, [], h => by cases h
  | _ :: _, ⟨none, _, _⟩ :: _, h => by cases h
theorem chkEs_len : ∀ (es : IRs) (xs : List Expr), chkEs C es xs = true → xs.length = es.len
  | .nil, xs, h => by
    have h' : xs.isEmpty = true := h
    cases xs with
    | nil => rfl
    | cons _ _ => cases h'
  | .cons e es, [], h => by cases h
  | .cons e es, y :: xs, h => by
    have h' : (chkE C e y && plainX y && chkEs C es xs) = true := h
    rw [Bool.and_eq_true] at h'
    show xs.length + 1 = es.len + 1
    rw [chkEs_len es xs h'.2]
theorem chkKs_len : ∀ (es : IRs) (xs : List Keyword), chkKs C es xs = true → xs.length = es.len
  | .nil, xs, h => by
    have h' : xs.isEmpty = true := h
    cases xs with
    | nil => rfl
    | cons _ _ => cases h'
  | .cons e es, [], h => by cases h
  | .cons e es, ⟨_, y, _⟩ :: xs, h => by
    have h' : (chkE C e y && chkKs C es xs) = true := h
    rw [Bool.and_eq_true] at h'
    show xs.length + 1 = es.len + 1
    rw [chkKs_len es xs h'.2]
/-- a value's type -/
theorem tyx_ok {bl tn : List String} {K : PySem.W.Frag} {mg : Str → Option Value} {hid : List (Addr × HO)} {μ : List Addr} {F H : Hp} {S : Sto} {x : PV} {v : V} {u : String} (M : MOk K mg cls Γ bl tn) (r : SR K ⟨cls, hid⟩ μ F H S) (q : Rep K ⟨cls, hid⟩ μ F x v) (h : tyN S x = some u) : TyX K H v (cv cls u) := by
  unfold tyN at h
  have cb : ∀ c ∈ tyB, cv cls c = .type c := fun c hc => by unfold cv; rw [M.hb c hc]
  generalize e : drf S x = y at h
  cases y with
  | non =>
    have ex : x = .non := by
      cases x with
      | ref n =>
        rcases drf_ref e (fun m z => by cases z) with ⟨_, z, _⟩ | ⟨_, z, _⟩ | ⟨_, _, z, _⟩ <;> cases z
      | _ => exact e
    subst ex
    cases h
    rw [cb "NoneType" (by decide), show v = V.non from q]
    exact .base .non
  | bl b =>
    have ex : x = .bl b := by
      cases x with
      | ref n =>
        rcases drf_ref e (fun m z => by cases z) with ⟨_, z, _⟩ | ⟨_, z, _⟩ | ⟨_, _, z, _⟩ <;> cases z
      | _ => exact e
    subst ex
    cases h
    rw [cb "bool" (by decide), show v = V.bl b from q]
    exact .base (.bl b)
  | int i =>
    have ex := drf_int e
    subst ex
    cases h
    rw [cb "int" (by decide), show v = V.int i from q]
    exact .base (.int i)
  | str s =>
    obtain ⟨o, ev⟩ := r.asS q e
    cases h
    rw [cb "str" (by decide), ev]
    exact .base (.str _)
  | txt z =>
    have ex : x = .txt z := by
      cases x with
      | ref n =>
        rcases drf_ref e (fun m z => by cases z) with ⟨_, z, _⟩ | ⟨_, z, _⟩ | ⟨_, _, z, _⟩ <;> cases z
      | _ => exact e
    subst ex
    cases h
    rw [cb "str" (by decide), show v = V.str _ from q]
    exact .base (.str _)
  | tup xs =>
    obtain ⟨a, vs, ev, _, hq, rl⟩ := r.asT q e
    cases h
    rw [cb "tuple" (by decide), ev]
    rcases hq with (hq | ⟨o, hq⟩) | ⟨o, its, n, hk, hc, _⟩
    · exact .base (.tup hq)
    · exact .fTuple hq
    · exact .kTuple hk hc
  | lst xs =>
    obtain ⟨a, vs, ev, hq, rl⟩ := r.asL q e
    cases h
    rw [cb "list" (by decide), ev]
    exact .base (.lst hq)
  | scr xs =>
    obtain ⟨a, ev, hq⟩ := r.asC q e
    cases h
    rw [cb "list" (by decide), ev]
    rcases hq with (hq | ⟨o, hq⟩) | ⟨o, its, n, hk, hc, _⟩
    · exact .base (.lst hq)
    · exact .base (.frz hq)
    · exact .kList hk hc
  | dct xs =>
    obtain ⟨a, vs, ev, hq, rl⟩ := r.asD q e
    cases h
    rw [cb "dict" (by decide), ev]
    exact .base (.dK hq)
  | ins c fs =>
    cases h
    cases x with
    | ref n =>
      rcases drf_ref e (fun m z => by cases z) with ⟨_, z, _⟩ | ⟨_, z, _⟩ | ⟨k, gs, z, e2⟩
      · cases z
      · cases z
      · cases z
        obtain ⟨a, ha, ev⟩ := q
        obtain ⟨C, dx, vs, h1, h2, _⟩ := r.ins n a _ fs e2 ha
        subst ev
        have h1' : cls u = some C := h1
        unfold cv
        rw [h1']
        exact M.cty u C h1' H a dx vs h2
    | _ =>
      first
        | (cases e; done)
        | (cases e
           obtain ⟨a, C, dx, vs, ev, h1, h2, _⟩ := q
           subst ev
           have h1' : cls u = some C := h1
           unfold cv
           rw [h1']
           exact M.cty u C h1' H a dx vs (r.sub _ _ h2))
  | ref _ => cases h
theorem lc_own {own : List Nat} (h : decide ((ownP C.N own).map (·.2) = own) = true) : (ownP C.N own).map (·.2) = own := of_decide_eq_true h

mutual
theorem sE : ∀ (e : IR) {X : Cx} {C : SCx} {Γ : Ctx} {cls : Cls} {E0 : Wh} (O : XOk X C Γ cls E0) (x : Expr), chkE C e x = true → PE X x (tE X.K cls E0 Γ e)
  | .var i, X, C, Γ, cls, E0, O, x, h => by
    unfold chkE at h
    split at h
    · simp only [Bool.and_eq_true, Bool.not_eq_true', decide_eq_true_eq] at h
      obtain ⟨⟨⟨h1, h2⟩, h3⟩, h4⟩ := h
      refine PE.le (pe_var (i := i) (by rw [O.N]; exact h1) (O.visOk h2) h3 h4) ?_
      rintro σ H Q ⟨hid, μ, F, ρ, S, E, A, q⟩
      unfold wE at q
      split at q
      · rename_i v ev
        obtain ⟨u, h1, h2⟩ := A.env.2 i v ev
        exact ⟨u, h1, Kv.here q A.sr h2⟩
      · exact q.elim
    · cases h
  | .cst c, X, C, Γ, cls, E0, O, x, h => by
    unfold chkE at h
    split at h
    · rename_i k kk pos
      cases c with
      | non =>
        cases k with
        | none =>
          refine PE.le pe_non ?_
          rintro σ H Q ⟨hid, μ, F, ρ, S, E, A, q⟩
          exact Kv.here q A.sr rfl
        | _ => cases h
      | bl b =>
        cases k with
        | bool b' =>
          have e : b = b' := by simpa [chkK] using h
          subst e
          refine PE.le pe_bl ?_
          rintro σ H Q ⟨hid, μ, F, ρ, S, E, A, q⟩
          exact Kv.here q A.sr rfl
        | _ => cases h
      | int b =>
        cases k with
        | int b' =>
          have e : b = b' := by simpa [chkK] using h
          subst e
          refine PE.le pe_int ?_
          rintro σ H Q ⟨hid, μ, F, ρ, S, E, A, q⟩
          exact Kv.here q A.sr rfl
        | _ => cases h
      | str b =>
        cases k with
        | str b' =>
          have e : b'.cps.toList = b := by simpa [chkK] using h
          subst e
          refine PE.le pe_str ?_
          rintro σ H Q ⟨hid, μ, F, ρ, S, E, A, q⟩
          have q' : okS b'.cps.toList = true ∧ Kv X.K ⟨cls, hid⟩ μ F Q (.str b'.cps.toList) S := q
          exact Kv.here q'.2 A.sr ⟨q'.1, by rw [sOf_cps]⟩
        | _ => cases h
    · cases h
  | .glob g, X, C, Γ, cls, E0, O, x, h => by
    unfold chkE at h
    split at h
    · simp only [Bool.and_eq_true, Bool.not_eq_true', decide_eq_true_eq] at h
      obtain ⟨⟨h1, h2⟩, h3⟩ := h
      cases hc : Γ.cn g with
      | none =>
        refine ⟨fun pins s σ H Q I q => ?_⟩
        obtain ⟨hid, μ, F, ρ, S, E, A, q⟩ := q
        unfold wE at q
        rw [hc] at q
        exact q.elim
      | some v =>
        obtain ⟨u, a, m1, m2, m3⟩ := O.m.cons g v hc
        refine PE.le (pe_glob (O.glOk h2) (by rw [h1]; exact m1) m2 h3) ?_
        rintro σ H Q ⟨hid, μ, F, ρ, S, E, A, q⟩
        unfold wE at q
        rw [hc] at q
        exact Kv.here q A.sr (m3 hid μ F)
    · cases h
  | .bin o a b, X, C, Γ, cls, E0, O, x, h => by
    unfold chkE at h
    split at h
    · simp only [Bool.and_eq_true] at h
      obtain ⟨⟨h1, h2⟩, h3⟩ := h
      rw [opIs_eq h1]
      refine PE.le (pe_op (op_binX (cls := cls) o) (sE a O _ h2) (sE b O _ h3)) ?_
      rintro σ H Q ⟨hid, μ, F, ρ, S, E, A, q⟩
      exact tE_of O.mono A q fun y S1 v H1 μ1 F1 q1 m1 f1 r1 rp1 => tE_of O.mono (A.to m1 f1 r1) q1 fun z S2 w H2 μ2 F2 q2 m2 f2 r2 rp2 =>
        ⟨hid, μ2, F2, S2, y, z, r2, Rep.mono m2 f2 _ _ rp1, rp2, wBin_mono q2 fun _ _ t => t.mono (m1.trans m2) (f1.trans f2)⟩
    · cases h
  | .neg a, X, C, Γ, cls, E0, O, x, h => by
    unfold chkE at h
    split at h
    · refine PE.le (pe_un (un_okX (cls := cls)) (sE a O _ h)) ?_
      rintro σ H Q ⟨hid, μ, F, ρ, S, E, A, q⟩
      exact tE_of O.mono A q fun y S1 v H1 μ1 F1 q1 m1 f1 r1 rp1 => ⟨hid, μ1, F1, S1, y, r1, rp1, wNeg_mono q1 fun _ _ t => t.mono m1 f1⟩
    · cases h
  | .cmp o a b, X, C, Γ, cls, E0, O, x, h => by
    unfold chkE at h
    split at h
    · simp only [Bool.and_eq_true] at h
      obtain ⟨⟨⟨h1, h2⟩, h3⟩, h4⟩ := h
      rw [copIs_eq h1]
      refine PE.le (pe_cmpR (op_cmpX (cls := cls) o O.un) (sE a O _ h2) (sE b O _ h3) (plain_mark _ h4)) ?_
      rintro σ H Q ⟨hid, μ, F, ρ, S, E, A, q⟩
      exact tE_of O.mono A q fun y S1 v H1 μ1 F1 q1 m1 f1 r1 rp1 => tE_of O.mono (A.to m1 f1 r1) q1 fun z S2 w H2 μ2 F2 q2 m2 f2 r2 rp2 =>
        ⟨hid, μ2, F2, S2, y, z, r2, Rep.mono m2 f2 _ _ rp1, rp2, wCmpB_mono q2 fun _ t => t _ H2 μ2 F2 (m1.trans m2) (f1.trans f2) r2 rfl⟩
    · cases h
  | .chain o1 o2 a b c, X, C, Γ, cls, E0, O, x, h => by
    unfold chkE at h
    split at h
    · simp only [Bool.and_eq_true] at h
      obtain ⟨⟨⟨⟨⟨h1, h2⟩, h3⟩, h4⟩, h5⟩, h6⟩ := h
      rw [copIs_eq h1, copIs_eq h2]
      refine PE.le (pe_chain (op_cmpX (cls := cls) o1 O.un) (op_cmpX (cls := cls) o2 O.un) (sE a O _ h3) (sE b O _ h4) (sE c O _ h5) (plain_mark _ h6)) ?_
      rintro σ H Q ⟨hid, μ, F, ρ, S, E, A, q⟩
      refine tE_of O.mono A q fun y S1 v H1 μ1 F1 q1 m1 f1 r1 rp1 => tE_of O.mono (A.to m1 f1 r1) q1 fun z S2 w H2 μ2 F2 q2 m2 f2 r2 rp2 =>
        ⟨hid, μ2, F2, S2, y, z, r2, Rep.mono m2 f2 _ _ rp1, rp2, wCmpB_mono q2 fun k t => ⟨k, rfl, ?_⟩⟩
      cases k with
      | false =>
        simp only [Bool.false_eq_true, if_false] at t ⊢
        exact t _ H2 μ2 F2 (m1.trans m2) (f1.trans f2) r2 rfl
      | true =>
        simp only [if_true] at t ⊢
        exact tE_of O.mono ((A.to m1 f1 r1).to m2 f2 r2) t fun z3 S3 w3 H3 μ3 F3 q3 m3 f3 r3 rp3 =>
          ⟨hid, μ3, F3, S3, z, z3, r3, Rep.mono m3 f3 _ _ rp2, rp3, wCmpB_mono q3 fun _ t => t _ H3 μ3 F3 (m1.trans (m2.trans m3)) (f1.trans (f2.trans f3)) r3 rfl⟩
    · cases h
  | .and_ a b, X, C, Γ, cls, E0, O, x, h => by
    have fin : ∀ {xa xb : Expr} {r : List Expr} {pos : Pos}, PE X xa (tE X.K cls E0 Γ a) → PE X (.BoolOp .And (xb :: r) pos) (tE X.K cls E0 Γ b) → PE X (.BoolOp .And (xa :: xb :: r) pos) (tE X.K cls E0 Γ (.and_ a b)) := by
      intro xa xb r pos ga gb
      refine PE.le (pe_and ga gb) ?_
      rintro σ H Q ⟨hid, μ, F, ρ, S, E, A, q⟩
      refine tE_of O.mono A q fun y S1 v H1 μ1 F1 q1 m1 f1 r1 rp1 => ?_
      split at q1
      · rename_i k
        refine ⟨k, rp1, ?_⟩
        cases k with
        | false =>
          simp only [Bool.false_eq_true, if_false] at q1 ⊢
          exact q1 _ H1 μ1 F1 m1 f1 r1 rfl
        | true =>
          simp only [if_true] at q1 ⊢
          exact tE_of O.mono (A.to m1 f1 r1) q1 fun z S2 w H2 μ2 F2 q2 m2 f2 r2 rp2 => q2 w H2 μ2 F2 (m1.trans m2) (f1.trans f2) r2 rp2
      · exact q1.elim
    unfold chkE at h
    split at h
    · simp only [Bool.and_eq_true] at h
      exact fin (sE a O _ h.1) (pe_one (sE b O _ h.2))
    · simp only [Bool.and_eq_true] at h
      exact fin (sE a O _ h.1) (sE b O _ h.2)
    · cases h
  | .or_ a b, X, C, Γ, cls, E0, O, x, h => by
    have fin : ∀ {xa xb : Expr} {r : List Expr} {pos : Pos}, PE X xa (tE X.K cls E0 Γ a) → PE X (.BoolOp .Or (xb :: r) pos) (tE X.K cls E0 Γ b) → PE X (.BoolOp .Or (xa :: xb :: r) pos) (tE X.K cls E0 Γ (.or_ a b)) := by
      intro xa xb r pos ga gb
      refine PE.le (pe_or ga gb) ?_
      rintro σ H Q ⟨hid, μ, F, ρ, S, E, A, q⟩
      refine tE_of O.mono A q fun y S1 v H1 μ1 F1 q1 m1 f1 r1 rp1 => ?_
      split at q1
      · rename_i k
        refine ⟨k, rp1, ?_⟩
        cases k with
        | true =>
          simp only [if_true] at q1 ⊢
          exact q1 _ H1 μ1 F1 m1 f1 r1 rfl
        | false =>
          simp only [Bool.false_eq_true, if_false] at q1 ⊢
          exact tE_of O.mono (A.to m1 f1 r1) q1 fun z S2 w H2 μ2 F2 q2 m2 f2 r2 rp2 => q2 w H2 μ2 F2 (m1.trans m2) (f1.trans f2) r2 rp2
      · exact q1.elim
    unfold chkE at h
    split at h
    · simp only [Bool.and_eq_true] at h
      exact fin (sE a O _ h.1) (pe_one (sE b O _ h.2))
    · simp only [Bool.and_eq_true] at h
      exact fin (sE a O _ h.1) (sE b O _ h.2)
    · cases h
  | .not_ a, X, C, Γ, cls, E0, O, x, h => by
    unfold chkE at h
    split at h
    · refine PE.le (pe_not (sE a O _ h)) ?_
      rintro σ H Q ⟨hid, μ, F, ρ, S, E, A, q⟩
      refine tE_of O.mono A q fun y S1 v H1 μ1 F1 q1 m1 f1 r1 rp1 => ?_
      split at q1
      · rename_i k
        exact ⟨k, rp1, q1 _ H1 μ1 F1 m1 f1 r1 rfl⟩
      · exact q1.elim
    · cases h
  | .ite c a b, X, C, Γ, cls, E0, O, x, h => by
    unfold chkE at h
    split at h
    · simp only [Bool.and_eq_true] at h
      obtain ⟨⟨h1, h2⟩, h3⟩ := h
      refine PE.le (pe_ifExp (sT c O _ h1) (sE a O _ h2) (sE b O _ h3)) ?_
      rintro σ H Q ⟨hid, μ, F, ρ, S, E, A, q⟩
      refine tT_of O.mono A q fun k S1 H1 μ1 F1 q1 m1 f1 r1 => ?_
      cases k with
      | true =>
        simp only [if_true] at q1 ⊢
        exact tE_of O.mono (A.to m1 f1 r1) q1 fun z S2 w H2 μ2 F2 q2 m2 f2 r2 rp2 => q2 w H2 μ2 F2 (m1.trans m2) (f1.trans f2) r2 rp2
      | false =>
        simp only [Bool.false_eq_true, if_false] at q1 ⊢
        exact tE_of O.mono (A.to m1 f1 r1) q1 fun z S2 w H2 μ2 F2 q2 m2 f2 r2 rp2 => q2 w H2 μ2 F2 (m1.trans m2) (f1.trans f2) r2 rp2
    · cases h
  | .tup es, X, C, Γ, cls, E0, O, x, h => by
    unfold chkE at h
    split at h
    · refine PE.le (pe_tup (sA es O _ h)) ?_
      rintro σ H Q ⟨hid, μ, F, ρ, S, E, A, q⟩
      refine tA_of O.mono A q fun xs S1 vs H1 μ1 F1 q1 m1 f1 r1 rp1 => ⟨by rw [← rp1.length, line_eq]; exact q1.1, fun p hp => ?_⟩
      exact Kv.newT (Kv.mono m1 f1 q1.2) r1 rp1 hp
    · cases h
  | .lst m es, X, C, Γ, cls, E0, O, x, h => by
    unfold chkE at h
    split at h
    · refine PE.le (pe_lst (sA es O _ h)) ?_
      rintro σ H Q ⟨hid, μ, F, ρ, S, E, A, q⟩
      refine tA_of O.mono A q fun xs S1 vs H1 μ1 F1 q1 m1 f1 r1 rp1 => ⟨by rw [← rp1.length, line_eq]; exact q1.1, fun p hp => ?_⟩
      exact Kv.new (wNew_mono q1.2 fun _ _ t => t.mono m1 f1) r1 rp1 hp
    · cases h
  | .ix a i, X, C, Γ, cls, E0, O, x, h => by
    unfold chkE at h
    split at h
    · simp only [Bool.and_eq_true] at h
      obtain ⟨⟨h1, h2⟩, h3⟩ := h
      refine PE.le (pe_ix (ix_okD (cls := cls) (by have := O.un; omega)) (sE a O _ h1) (sE i O _ h2) (plain_ix h3)) ?_
      rintro σ H Q ⟨hid, μ, F, ρ, S, E, A, q⟩
      exact tE_of O.mono A q fun y S1 v H1 μ1 F1 q1 m1 f1 r1 rp1 => tE_of O.mono (A.to m1 f1 r1) q1 fun z S2 w H2 μ2 F2 q2 m2 f2 r2 rp2 =>
        ⟨hid, μ2, F2, S2, y, z, r2, Rep.mono m2 f2 _ _ rp1, rp2, wIx_mono q2 fun _ _ t => t.mono (m1.trans m2) (f1.trans f2)⟩
    · cases h
  | .slice a lo hi, X, C, Γ, cls, E0, O, x, h => by
    unfold chkE at h
    split at h
    · simp only [Bool.and_eq_true] at h
      obtain ⟨⟨h1, h2⟩, h3⟩ := h
      refine PE.le (pe_slice (sl_okX (cls := cls)) (sE a O _ h1) (sO lo O _ h2) (sO hi O _ h3)) ?_
      rintro σ H Q ⟨hid, μ, F, ρ, S, E, A, q⟩
      exact tE_of O.mono A q fun y S1 v H1 μ1 F1 q1 m1 f1 r1 rp1 => tO_of O.mono (A.to m1 f1 r1) q1 fun l S2 H2 μ2 F2 q2 m2 f2 r2 =>
        tO_of O.mono ((A.to m1 f1 r1).to m2 f2 r2) q2 fun u S3 H3 μ3 F3 q3 m3 f3 r3 =>
        ⟨hid, μ3, F3, S3, y, r3, Rep.mono (m2.trans m3) (f2.trans f3) _ _ rp1, wSl_mono q3 fun _ _ t => t.mono (m1.trans (m2.trans m3)) (f1.trans (f2.trans f3))⟩
    · cases h
  | .rev a, X, C, Γ, cls, E0, O, x, h => by
    unfold chkE at h
    split at h
    · simp only [Bool.and_eq_true, decide_eq_true_eq] at h
      obtain ⟨h1, h2⟩ := h
      subst h2
      refine PE.le (pe_revS (sE a O _ h1)) ?_
      rintro σ H Q ⟨hid, μ, F, ρ, S, E, A, q⟩
      refine tE_of O.mono A q fun y S1 v H1 μ1 F1 q1 m1 f1 r1 rp1 => ?_
      unfold wRev at q1
      split at q1
      · rename_i s
        obtain ⟨o, ev⟩ := rp1
        refine ⟨s, ev, o, q1 _ H1 μ1 F1 m1 f1 r1 ⟨?_, rfl⟩⟩
        exact okS_mk (by rw [List.length_reverse]; exact okS_len o) fun c hc => okS_all o c (List.mem_reverse.mp hc)
      · exact q1.elim
    · cases h
  | .call f es, X, C, Γ, cls, E0, O, x, h => by
    unfold chkE at h
    split at h
    · rename_i n p xs pos
      simp only [Bool.and_eq_true, Bool.not_eq_true', decide_eq_true_eq] at h
      obtain ⟨⟨⟨⟨h1, h2⟩, h3⟩, h5⟩, h4⟩ := h
      subst h1
      obtain ⟨sp, k, hf, hr, FV⟩ := O.calls f (by simpa using h5)
      · have rd : ∀ σ H Q, tE X.K cls E0 Γ (.call f es) σ H Q → tCallV X.K cls E0 sp (tA X.K cls E0 Γ es) σ H Q := by
          rintro σ H Q ⟨hid, μ, F, ρ, S, E, A, q⟩
          refine tA_of O.mono A q fun ys S1 vs H1 μ1 F1 q1 m1 f1 r1 rp1 => ?_
          rw [hf] at q1
          exact ⟨hid, μ1, F1, S1, ys, r1, rp1, O.mono f sp hf ys S1 _ _ _ _ q1 (fun _ _ t => t.mono m1 f1) fun e S' t => (A.le σ (Agree.refl _ _) e S' t).mono m1 f1⟩
        have pl := chkEs_pl es xs h4
        cases xs with
        | nil =>
          have e : es = .nil := by
            cases es with
            | nil => rfl
            | cons _ _ => cases h4
          subst e
          refine PE.le (pe_callV0 O.gd FV hr (O.glOk h2) O.pass h3) fun σ H Q q => ?_
          have := rd σ H Q q
          obtain ⟨hid, μ, F, ρ, S, E, A, q⟩ := this
          exact q [] H μ F (Ext.refl _) (Same.refl _) A.sr rfl
        | cons x1 xs =>
          exact PE.le (pe_callV O.gd FV hr (O.glOk h2) O.pass (sA es O _ h4) h3 (plain_star (pl x1 List.mem_cons_self) xs _) (plain_any xs pos _ fun y hy => pl y (List.mem_cons_of_mem _ hy)).1) rd
    · cases h
  | .callk kp es kes, X, C, Γ, cls, E0, O, x, h => by
    unfold chkE at h
    split at h
    · rename_i n p xs kws pos
      simp only [Bool.and_eq_true, Bool.not_eq_true', decide_eq_true_eq] at h
      obtain ⟨⟨⟨⟨⟨⟨⟨⟨h1, h2⟩, h3⟩, h4⟩, h5⟩, h6⟩, h7⟩, h8⟩, h9⟩ := h
      subst h1
      obtain ⟨sp, k, hf, hr, FV⟩ := O.calls kp.f (by simpa using h4)
      obtain ⟨w1, w2, w3, w4⟩ := chkKw_ok (pos := pos) (env := X.env) kp.ks kws h8
      have pl := chkEs_pl es xs h6
      have fin : ∀ {hid : List (Addr × HO)} {μ μ1 μ2 : List Addr} {F F1 F2 : Hp} {ρ : Env} {S S2 : Sto} {E : XP} {σ : L2.St} {H H2 : Hp} {Q : VK} {ys zs : List PV} {vs ws : List V}, At X.K cls E0 hid μ F ρ S E σ H → Ext μ μ1 → Same F F1 → Ext μ1 μ2 → Same F1 F2 → SR X.K ⟨cls, hid⟩ μ2 F2 H2 S2 → RepL X.K ⟨cls, hid⟩ μ1 F1 ys vs → RepL X.K ⟨cls, hid⟩ μ2 F2 zs ws →
          (match Γ.fn kp.f with | some sp => sp (pick kp.ix (ys ++ zs)) S2 (Kv X.K ⟨cls, hid⟩ μ F Q) E | none => False) → liftS X.K cls sp (pick kp.ix (vs ++ ws)) H2 Q (E0.at σ) := by
        intro hid μ μ1 μ2 F F1 F2 ρ S S2 E σ H H2 Q ys zs vs ws A m1 f1 m2 f2 r2 rp1 rp2 q
        rw [hf] at q
        exact ⟨hid, μ2, F2, S2, _, r2, repL_pick ((RepL.mono m2 f2 _ _ rp1).append rp2) kp.ix, O.mono kp.f sp hf _ S2 _ _ _ _ q (fun _ _ t => t.mono (m1.trans m2) (f1.trans f2)) fun e S' t => (A.le σ (Agree.refl _ _) e S' t).mono (m1.trans m2) (f1.trans f2)⟩
      have l1 := chkEs_len es xs h6
      have l2 := chkKs_len kes kws h9
      cases xs with
      | nil =>
        have e : es = .nil := by
          cases es with
          | nil => rfl
          | cons _ _ => cases h6
        subst e
        refine PE.le (pe_callKV0 O.gd FV h5 hr (O.glOk h2) O.pass (sK kes O kws h9) w2 w3 h3 (by rw [w4]; rfl)) ?_
        rintro σ H Q ⟨hid, μ, F, ρ, S, E, A, q⟩
        exact tA_of O.mono A (wEs_len O.mono kes E ρ S _ q) fun zs S2 ws H2 μ2 F2 ⟨lz, q2⟩ m2 f2 r2 rp2 => ⟨h7, by rw [← rp2.length, lz, ← l2, w1], fin A (Ext.refl _) (Same.refl _) m2 f2 r2 (ys := []) (vs := []) rfl rp2 q2⟩
      | cons x1 xs =>
        have pst := plain_star (pl x1 List.mem_cons_self) xs X.env
        refine PE.le (pe_callKV O.gd FV h5 hr (O.glOk h2) O.pass (sA es O _ h6) (sK kes O kws h9) w2 w3 h3 pst (by rw [(plain_any (x1 :: xs) pos X.env pl).1, w4]; rfl)) ?_
        rintro σ H Q ⟨hid, μ, F, ρ, S, E, A, q⟩
        exact tA_of O.mono A (wEs_len O.mono es E ρ S _ q) fun ys S1 vs H1 μ1 F1 ⟨ly, q1⟩ m1 f1 r1 rp1 => tA_of O.mono (A.to m1 f1 r1) (wEs_len O.mono kes E ρ S1 _ q1) fun zs S2 ws H2 μ2 F2 ⟨lz, q2⟩ m2 f2 r2 rp2 =>
          ⟨by rw [← rp1.length, ly, ← l1, h7], by rw [← rp2.length, lz, ← l2, w1], fin A m1 f1 m2 f2 r2 rp1 rp2 q2⟩
    · cases h
  | .isi a t, X, C, Γ, cls, E0, O, x, h => by
    unfold chkE at h
    split at h
    · rename_i n p xa m pm pos
      simp only [Bool.and_eq_true, Bool.not_eq_true', decide_eq_true_eq] at h
      obtain ⟨⟨⟨⟨⟨⟨⟨⟨h1, h2⟩, h3⟩, h4⟩, h5⟩, h6⟩, h7⟩, h8⟩, h9⟩ := h
      subst h1
      subst h6
      have hT := O.m.tn t (by simpa using h8)
      obtain ⟨c, hc, hcv⟩ : ∃ c, PE X (.Name (Str.ofString t) pm) (tC c) ∧ ClsV c (cv cls t) := by
        unfold cv
        rcases hT with ⟨C', e1, e2⟩ | ⟨e1, e2, e3, e4, e5⟩
        · rw [e1]; exact ⟨.ref C', pe_glob (O.glOk h7) e2 rfl h9, .own C'⟩
        · rw [e1]; exact ⟨.ty t, pe_bltn (O.glOk h7) e2 e3 rfl e4 h9, .ty t⟩
      refine PE.le (pe_callB call_isi (O.glOk h2) (O.m.bl "isinstance" (by simpa using h3)) (by decide +kernel) (pa_cons (sE a O xa h4) (pa_cons hc pa_nil) (plain_star h5 _ _)) (by decide) (by decide) (plain_star h5 _ _) rfl) ?_
      rintro σ H Q ⟨hid, μ, F, ρ, S, E, A, q⟩
      refine tE_of O.mono A q fun y S1 v H1 μ1 F1 ⟨b, q1, q2⟩ m1 f1 r1 rp1 => ?_
      obtain ⟨u, e1, e2⟩ := Option.bind_eq_some_iff.mp q1
      exact ⟨v, c, cv cls u, cv cls t, b, rfl, hcv, tyx_ok O.m r1 rp1 e1, O.m.sub _ _ _ e2, q2 _ H1 μ1 F1 m1 f1 r1 rfl⟩
    · cases h
  | .bi m f es, X, C, Γ, cls, E0, O, x, h => by
    unfold chkE at h
    split at h
    · rename_i n p x1 xs pos
      simp only [Bool.and_eq_true, decide_eq_true_eq] at h
      obtain ⟨⟨⟨h1, h2⟩, h3⟩, h4⟩ := h
      subst h1
      have pl := chkEs_pl es _ h4
      have hm := O.m.bl (biName f) (by simpa using h3)
      have hu : X.A.units + 64 < cLine := by have := O.un; omega
      have rd : ∀ σ H Q, tE X.K cls E0 Γ (.bi m f es) σ H Q → tCB (fun vs H Q => ∃ hid, rBi X.K ⟨cls, hid⟩ m f vs H Q) (tA X.K cls E0 Γ es) σ H Q := by
        rintro σ H Q ⟨hid, μ, F, ρ, S, E, A, q⟩
        exact tA_of O.mono A q fun ys S1 vs H1 μ1 F1 q1 m1 f1 r1 rp1 => ⟨hid, μ1, F1, S1, ys, r1, rp1, wBi_mono q1 fun _ _ t => t.mono m1 f1⟩
      have hnn : Str.ofString (biName f) ≠ "__name__" := by cases f <;> decide
      have hdd : (Str.ofString (biName f) == ("__debug__" : Str)) = false := by cases f <;> decide
      have hc := bi_okX (cls := cls) m f O.calm O.gd hu
      have hb := biBoot f
      rcases biTy f with ⟨id, e⟩ | ⟨T, e⟩
      · rw [e] at hc hb
        exact PE.le (pe_callB hc (O.glOk h2) hm hb (sA es O _ h4) hnn hdd (plain_star (pl x1 List.mem_cons_self) xs _) (plain_any xs pos _ fun y hy => pl y (List.mem_cons_of_mem _ hy)).1) rd
      · rw [e] at hc hb
        exact PE.le (pe_callTy hc (O.glOk h2) hm hb (sA es O _ h4) hnn hdd (plain_star (pl x1 List.mem_cons_self) xs _) (plain_any xs pos _ fun y hy => pl y (List.mem_cons_of_mem _ hy)).1) rd
    · cases h
  | .mth m o es, X, C, Γ, cls, E0, O, x, h => by
    unfold chkE at h
    split at h
    · rename_i xo n apos x1 xs cpos
      simp only [Bool.and_eq_true, decide_eq_true_eq] at h
      obtain ⟨⟨⟨⟨⟨h1, h2⟩, h3⟩, h4⟩, h5⟩, h6⟩ := h
      subst h1
      have pl := chkEs_pl es _ h3
      obtain ⟨s1, s2, s3⟩ := mtSlot m
      have pa := plain_any (x1 :: xs) cpos X.env pl
      refine PE.le (pe_bm s1 s2 s3 (mt_okX (cls := cls) m) (sE o O _ h2) (sA es O _ h3) (plain_base h6 _ _ _) ?_ h4 (plain_star (pl x1 List.mem_cons_self) xs _) (plain_any xs cpos _ fun y hy => pl y (List.mem_cons_of_mem _ hy)).1) ?_
      · rw [pa.2]
        show (true && true && decide ((x1 :: xs).length + 0 + 0 < 30)) = true
        rw [decide_eq_true (show (x1 :: xs).length + 0 + 0 < 30 from h5)]
        rfl
      · rintro σ H Q ⟨hid, μ, F, ρ, S, E, A, q⟩
        refine tE_of O.mono A q fun y S1 v H1 μ1 F1 q1 m1 f1 r1 rp1 => ⟨mt_ty r1 rp1 q1.1, tA_of O.mono (A.to m1 f1 r1) q1.2 fun ys S2 vs H2 μ2 F2 q2 m2 f2 r2 rp2 => ?_⟩
        exact ⟨hid, μ2, F2, S2, y, ys, r2, Rep.mono m2 f2 _ _ rp1, rp2, wMt_mono q2 fun _ _ t => t.mono (m1.trans m2) (f1.trans f2)⟩
    · cases h
  | .comp m own p it c e, X, C, Γ, cls, E0, O, x, h => by
    unfold chkE at h
    split at h
    · rename_i elt tg iter ifs scope pos
      simp only [Bool.and_eq_true] at h
      obtain ⟨⟨⟨⟨⟨⟨⟨h1, h2⟩, h3⟩, h4⟩, h5⟩, h6⟩, h7⟩, h8⟩ := h
      have hown := lc_own h5
      have hs : ∀ i ∈ p.slots, i ∈ own := fun i hi => by
        have := List.all_eq_true.mp h7 i hi
        simpa using this
      refine PE.le (pe_lc (own := ownP C.N own) (g := tgOf X.K p) (tt := tC' X.K cls Wh.none Γ c) (te := tE X.K cls Wh.none Γ e) O.calm (by rw [O.N]; exact O.nd) (sI it O tg iter h1) (by rw [O.N, O.env]; exact blkOk_by h4)
        (fun s H a cl fp => sP (O.blk s H scope cl a fp) h6) (fun s H a cl fp => sC c (O.blk s H scope cl a fp) ifs h3) (fun s H a cl fp => sE e (O.blk s H scope cl a fp) elt h8) (plain_fold h2 _)) ?_
      rintro σ H Q ⟨hid, μ, F, ρ, S, E, A, q⟩
      rw [hown]
      exact comp_ok O.mono A hs q
    · cases h
theorem sT : ∀ (e : IR) {X : Cx} {C : SCx} {Γ : Ctx} {cls : Cls} {E0 : Wh} (O : XOk X C Γ cls E0) (x : Expr), chkE C e x = true → PT X x (tT X.K cls E0 Γ e)
  | .and_ a b, X, C, Γ, cls, E0, O, x, h => by
    have fin : ∀ {xa xb : Expr} {r : List Expr} {pos : Pos}, PT X xa (tT X.K cls E0 Γ a) → PW X (.BoolOp .And (xb :: r) pos) (tT X.K cls E0 Γ b) → PT X (.BoolOp .And (xa :: xb :: r) pos) (tT X.K cls E0 Γ (.and_ a b)) := by
      intro xa xb r pos ga gb
      refine PT.le (pw_and ga gb).pt ?_
      rintro σ H Q ⟨hid, μ, F, ρ, S, E, A, q⟩
      refine tT_of O.mono A q fun k S1 H1 μ1 F1 q1 m1 f1 r1 => ?_
      cases k with
      | false =>
        simp only [Bool.false_eq_true, if_false] at q1 ⊢
        exact q1 H1 μ1 F1 m1 f1 r1
      | true =>
        simp only [if_true] at q1 ⊢
        exact tT_of O.mono (A.to m1 f1 r1) q1 fun z S2 H2 μ2 F2 q2 m2 f2 r2 => q2 H2 μ2 F2 (m1.trans m2) (f1.trans f2) r2
    unfold chkE at h
    split at h
    · simp only [Bool.and_eq_true] at h
      exact fin (sT a O _ h.1) (pw_and1 (sT b O _ h.2))
    · simp only [Bool.and_eq_true] at h
      exact fin (sT a O _ h.1) (pw_bool (sT b O _ h.2))
    · cases h
  | .or_ a b, X, C, Γ, cls, E0, O, x, h => by
    have fin : ∀ {xa xb : Expr} {r : List Expr} {pos : Pos}, PT X xa (tT X.K cls E0 Γ a) → PW X (.BoolOp .Or (xb :: r) pos) (tT X.K cls E0 Γ b) → PT X (.BoolOp .Or (xa :: xb :: r) pos) (tT X.K cls E0 Γ (.or_ a b)) := by
      intro xa xb r pos ga gb
      refine PT.le (pw_or ga gb).pt ?_
      rintro σ H Q ⟨hid, μ, F, ρ, S, E, A, q⟩
      refine tT_of O.mono A q fun k S1 H1 μ1 F1 q1 m1 f1 r1 => ?_
      cases k with
      | true =>
        simp only [if_true] at q1 ⊢
        exact q1 H1 μ1 F1 m1 f1 r1
      | false =>
        simp only [Bool.false_eq_true, if_false] at q1 ⊢
        exact tT_of O.mono (A.to m1 f1 r1) q1 fun z S2 H2 μ2 F2 q2 m2 f2 r2 => q2 H2 μ2 F2 (m1.trans m2) (f1.trans f2) r2
    unfold chkE at h
    split at h
    · simp only [Bool.and_eq_true] at h
      exact fin (sT a O _ h.1) (pw_or1 (sT b O _ h.2))
    · simp only [Bool.and_eq_true] at h
      exact fin (sT a O _ h.1) (pw_bool (sT b O _ h.2))
    · cases h
  | .not_ a, X, C, Γ, cls, E0, O, x, h => by
    unfold chkE at h
    split at h
    · refine PT.le (pt_not (sT a O _ h)) ?_
      rintro σ H Q ⟨hid, μ, F, ρ, S, E, A, q⟩
      exact tT_of O.mono A q fun k S1 H1 μ1 F1 q1 m1 f1 r1 => q1 H1 μ1 F1 m1 f1 r1
    · cases h
  | .cmp o a b, X, C, Γ, cls, E0, O, x, h => by
    unfold chkE at h
    split at h
    · simp only [Bool.and_eq_true] at h
      obtain ⟨⟨⟨h1, h2⟩, h3⟩, h4⟩ := h
      rw [copIs_eq h1]
      refine PT.le (pt_cmpR (op_cmpX (cls := cls) o O.un) (sE a O _ h2) (sE b O _ h3) (plain_mark _ h4)) ?_
      rintro σ H Q ⟨hid, μ, F, ρ, S, E, A, q⟩
      exact tE_of O.mono A q fun y S1 v H1 μ1 F1 q1 m1 f1 r1 rp1 => tE_of O.mono (A.to m1 f1 r1) q1 fun z S2 w H2 μ2 F2 q2 m2 f2 r2 rp2 =>
        ⟨hid, μ2, F2, S2, y, z, r2, Rep.mono m2 f2 _ _ rp1, rp2, wCmpB_mono q2 fun k t => ⟨k, rfl, t H2 μ2 F2 (m1.trans m2) (f1.trans f2) r2⟩⟩
    · cases h
  | .chain o1 o2 a b c, X, C, Γ, cls, E0, O, x, h => by
    unfold chkE at h
    split at h
    · simp only [Bool.and_eq_true] at h
      obtain ⟨⟨⟨⟨⟨h1, h2⟩, h3⟩, h4⟩, h5⟩, h6⟩ := h
      rw [copIs_eq h1, copIs_eq h2]
      refine PT.le (pt_chain (op_cmpX (cls := cls) o1 O.un) (op_cmpX (cls := cls) o2 O.un) (sE a O _ h3) (sE b O _ h4) (sE c O _ h5) (plain_mark _ h6)) ?_
      rintro σ H Q ⟨hid, μ, F, ρ, S, E, A, q⟩
      refine tE_of O.mono A q fun y S1 v H1 μ1 F1 q1 m1 f1 r1 rp1 => tE_of O.mono (A.to m1 f1 r1) q1 fun z S2 w H2 μ2 F2 q2 m2 f2 r2 rp2 =>
        ⟨hid, μ2, F2, S2, y, z, r2, Rep.mono m2 f2 _ _ rp1, rp2, wCmpB_mono q2 fun k t => ⟨k, rfl, ?_⟩⟩
      cases k with
      | false =>
        simp only [Bool.false_eq_true, if_false] at t ⊢
        exact ⟨false, rfl, t H2 μ2 F2 (m1.trans m2) (f1.trans f2) r2⟩
      | true =>
        simp only [if_true] at t ⊢
        exact tE_of O.mono ((A.to m1 f1 r1).to m2 f2 r2) t fun z3 S3 w3 H3 μ3 F3 q3 m3 f3 r3 rp3 =>
          ⟨hid, μ3, F3, S3, z, z3, r3, Rep.mono m3 f3 _ _ rp2, rp3, wCmpB_mono q3 fun k t => ⟨k, rfl, t H3 μ3 F3 (m1.trans (m2.trans m3)) (f1.trans (f2.trans f3)) r3⟩⟩
    · cases h
  | .var i, X, C, Γ, cls, E0, O, x, h => by
    have g := sE (.var i) O x h
    refine pt_val' g ?_ ?_
    · unfold chkE at h
      split at h
      · intro _; rfl
      · cases h
    · rintro σ H Q ⟨hid, μ, F, ρ, S, E, A, q⟩
      refine ⟨hid, μ, F, ρ, S, E, A, ?_⟩
      unfold wT at q
      unfold wE
      split at q
      · exact KvT q
      · exact q.elim
  | .call f es, X, C, Γ, cls, E0, O, x, h => by
    have g := sE (.call f es) O x h
    refine pt_val' g ?_ ?_
    · unfold chkE at h
      split at h
      · intro _; rfl
      · cases h
    · rintro σ H Q ⟨hid, μ, F, ρ, S, E, A, q⟩
      refine ⟨hid, μ, F, ρ, S, E, A, wEs_mono O.mono es E ρ S _ _ q fun vs S1 q1 => ?_⟩
      split at q1
      · rename_i sp hf
        exact O.mono f sp hf vs S1 _ _ _ _ q1 (fun v S2 t => KvT t) fun _ _ z => z
      · exact q1.elim
  | .callk kp es kes, X, C, Γ, cls, E0, O, x, h => by
    have g := sE (.callk kp es kes) O x h
    refine pt_val' g ?_ ?_
    · unfold chkE at h
      split at h
      · intro _; rfl
      · cases h
    · rintro σ H Q ⟨hid, μ, F, ρ, S, E, A, q⟩
      refine ⟨hid, μ, F, ρ, S, E, A, wEs_mono O.mono es E ρ S _ _ q fun vs S1 q1 => wEs_mono O.mono kes E ρ S1 _ _ q1 fun ws S2 q2 => ?_⟩
      split at q2
      · rename_i sp hf
        exact O.mono kp.f sp hf _ S2 _ _ _ _ q2 (fun v S2 t => KvT t) fun _ _ z => z
      · exact q2.elim
  | .isi a t, X, C, Γ, cls, E0, O, x, h => by
    have g := sE (.isi a t) O x h
    refine pt_val' g ?_ ?_
    · unfold chkE at h
      split at h
      · intro _; rfl
      · cases h
    · rintro σ H Q ⟨hid, μ, F, ρ, S, E, A, q⟩
      exact ⟨hid, μ, F, ρ, S, E, A, wE_mono O.mono a E ρ S _ _ q fun y S1 ⟨b, q1, q2⟩ => ⟨b, q1, KvT ⟨b, rfl, q2⟩⟩⟩
  | .bi m f es, X, C, Γ, cls, E0, O, x, h => by
    have g := sE (.bi m f es) O x h
    refine pt_val' g ?_ ?_
    · unfold chkE at h
      split at h
      · intro _; rfl
      · cases h
    · rintro σ H Q ⟨hid, μ, F, ρ, S, E, A, q⟩
      exact ⟨hid, μ, F, ρ, S, E, A, wEs_mono O.mono es E ρ S _ _ q fun vs S1 q1 => wBi_mono q1 fun v S2 t => KvT t⟩
  | .ix a i, X, C, Γ, cls, E0, O, x, h => by
    have g := sE (.ix a i) O x h
    refine pt_val' g ?_ ?_
    · unfold chkE at h
      split at h
      · intro _; rfl
      · cases h
    · rintro σ H Q ⟨hid, μ, F, ρ, S, E, A, q⟩
      exact ⟨hid, μ, F, ρ, S, E, A, wE_mono O.mono a E ρ S _ _ q fun y S1 q1 => wE_mono O.mono i E ρ S1 _ _ q1 fun z S2 q2 => wIx_mono q2 fun v S3 t => KvT t⟩
  | .cst _, X, C, Γ, cls, E0, O, x, h => ⟨fun pins s σ H Q I ⟨hid, μ, F, ρ, S, E, A, q⟩ => q.elim⟩
  | .glob _, X, C, Γ, cls, E0, O, x, h => ⟨fun pins s σ H Q I ⟨hid, μ, F, ρ, S, E, A, q⟩ => q.elim⟩
  | .bin _ _ _, X, C, Γ, cls, E0, O, x, h => ⟨fun pins s σ H Q I ⟨hid, μ, F, ρ, S, E, A, q⟩ => q.elim⟩
  | .neg _, X, C, Γ, cls, E0, O, x, h => ⟨fun pins s σ H Q I ⟨hid, μ, F, ρ, S, E, A, q⟩ => q.elim⟩
  | .ite _ _ _, X, C, Γ, cls, E0, O, x, h => ⟨fun pins s σ H Q I ⟨hid, μ, F, ρ, S, E, A, q⟩ => q.elim⟩
  | .tup _, X, C, Γ, cls, E0, O, x, h => ⟨fun pins s σ H Q I ⟨hid, μ, F, ρ, S, E, A, q⟩ => q.elim⟩
  | .lst _ _, X, C, Γ, cls, E0, O, x, h => ⟨fun pins s σ H Q I ⟨hid, μ, F, ρ, S, E, A, q⟩ => q.elim⟩
  | .slice _ _ _, X, C, Γ, cls, E0, O, x, h => ⟨fun pins s σ H Q I ⟨hid, μ, F, ρ, S, E, A, q⟩ => q.elim⟩
  | .rev _, X, C, Γ, cls, E0, O, x, h => ⟨fun pins s σ H Q I ⟨hid, μ, F, ρ, S, E, A, q⟩ => q.elim⟩
  | .mth _ _ _, X, C, Γ, cls, E0, O, x, h => ⟨fun pins s σ H Q I ⟨hid, μ, F, ρ, S, E, A, q⟩ => q.elim⟩
  | .comp _ _ _ _ _ _, X, C, Γ, cls, E0, O, x, h => ⟨fun pins s σ H Q I ⟨hid, μ, F, ρ, S, E, A, q⟩ => q.elim⟩
theorem sA : ∀ (es : IRs) {X : Cx} {C : SCx} {Γ : Ctx} {cls : Cls} {E0 : Wh} (O : XOk X C Γ cls E0) (xs : List Expr), chkEs C es xs = true → PA X xs (tA X.K cls E0 Γ es)
  | .nil, X, C, Γ, cls, E0, O, xs, h => by
    have h' : xs.isEmpty = true := h
    cases xs with
    | cons _ _ => cases h'
    | nil =>
      refine PA.le pa_nil ?_
      rintro σ H Q ⟨hid, μ, F, ρ, S, E, A, q⟩
      exact q [] H μ F (Ext.refl _) (Same.refl _) A.sr rfl
  | .cons e es, X, C, Γ, cls, E0, O, [], h => by cases h
  | .cons e es, X, C, Γ, cls, E0, O, x :: xs, h => by
    have h' : (chkE C e x && plainX x && chkEs C es xs) = true := h
    simp only [Bool.and_eq_true] at h'
    obtain ⟨⟨h1, h2⟩, h3⟩ := h'
    refine PA.le (pa_cons (sE e O x h1) (sA es O xs h3) (plain_star h2 xs _)) ?_
    rintro σ H Q ⟨hid, μ, F, ρ, S, E, A, q⟩
    exact tE_of O.mono A q fun y S1 v H1 μ1 F1 q1 m1 f1 r1 rp1 => tA_of O.mono (A.to m1 f1 r1) q1 fun ys S2 vs H2 μ2 F2 q2 m2 f2 r2 rp2 =>
      q2 (v :: vs) H2 μ2 F2 (m1.trans m2) (f1.trans f2) r2 ⟨v, vs, rfl, Rep.mono m2 f2 _ _ rp1, rp2⟩
theorem sK : ∀ (es : IRs) {X : Cx} {C : SCx} {Γ : Ctx} {cls : Cls} {E0 : Wh} (O : XOk X C Γ cls E0) (xs : List Keyword), chkKs C es xs = true → PK X xs (tA X.K cls E0 Γ es)
  | .nil, X, C, Γ, cls, E0, O, xs, h => by
    have h' : xs.isEmpty = true := h
    cases xs with
    | cons _ _ => cases h'
    | nil =>
      refine PK.le pk_nil ?_
      rintro σ H Q ⟨hid, μ, F, ρ, S, E, A, q⟩
      exact q [] H μ F (Ext.refl _) (Same.refl _) A.sr rfl
  | .cons e es, X, C, Γ, cls, E0, O, [], h => by cases h
  | .cons e es, X, C, Γ, cls, E0, O, ⟨nm, x, kp⟩ :: xs, h => by
    have h' : (chkE C e x && chkKs C es xs) = true := h
    simp only [Bool.and_eq_true] at h'
    refine PK.le (pk_cons (sE e O x h'.1) (sK es O xs h'.2)) ?_
    rintro σ H Q ⟨hid, μ, F, ρ, S, E, A, q⟩
    exact tE_of O.mono A q fun y S1 v H1 μ1 F1 q1 m1 f1 r1 rp1 => tA_of O.mono (A.to m1 f1 r1) q1 fun ys S2 vs H2 μ2 F2 q2 m2 f2 r2 rp2 =>
      q2 (v :: vs) H2 μ2 F2 (m1.trans m2) (f1.trans f2) r2 ⟨v, vs, rfl, Rep.mono m2 f2 _ _ rp1, rp2⟩
theorem sO : ∀ (e : IRo) {X : Cx} {C : SCx} {Γ : Ctx} {cls : Cls} {E0 : Wh} (O : XOk X C Γ cls E0) (x : Option Expr), chkO C e x = true → PO X x (tO X.K cls E0 Γ e)
  | .none, X, C, Γ, cls, E0, O, x, h => by
    have h' : x.isNone = true := h
    cases x with
    | some _ => cases h'
    | none =>
      refine PO.le po_none ?_
      rintro σ H Q ⟨hid, μ, F, ρ, S, E, A, q⟩
      exact q H μ F (Ext.refl _) (Same.refl _) A.sr
  | .some e, X, C, Γ, cls, E0, O, none, h => by cases h
  | .some e, X, C, Γ, cls, E0, O, some x, h => by
    refine PO.le (po_some (sE e O x h)) ?_
    rintro σ H Q ⟨hid, μ, F, ρ, S, E, A, q⟩
    refine tE_of O.mono A q fun y S1 v H1 μ1 F1 q1 m1 f1 r1 rp1 => ?_
    split at q1
    · exact ⟨_, rp1, q1 H1 μ1 F1 m1 f1 r1⟩
    · exact q1.elim
theorem sC : ∀ (e : IRo) {X : Cx} {C : SCx} {Γ : Ctx} {cls : Cls} {E0 : Wh} (O : XOk X C Γ cls E0) (xs : List Expr), chkC C e xs = true → PTs X xs (tC' X.K cls E0 Γ e)
  | .none, X, C, Γ, cls, E0, O, xs, h => by
    have h' : xs.isEmpty = true := h
    cases xs with
    | cons _ _ => cases h'
    | nil =>
      refine PTs.le pts_nil ?_
      rintro σ H Q ⟨hid, μ, F, ρ, S, E, A, q⟩
      exact q H μ F (Ext.refl _) (Same.refl _) A.sr
  | .some e, X, C, Γ, cls, E0, O, xs, h => by
    unfold chkC at h
    split at h
    · refine PTs.le (pts_one (sT e O _ h)) ?_
      rintro σ H Q ⟨hid, μ, F, ρ, S, E, A, q⟩
      exact ⟨hid, μ, F, ρ, S, E, A, q⟩
    · cases h
theorem sI : ∀ (it : It) {X : Cx} {C : SCx} {Γ : Ctx} {cls : Cls} {E0 : Wh} (O : XOk X C Γ cls E0) (tg x : Expr), chkIt C it x = true → PI X tg x (tI X.K cls E0 Γ it)
  | .seq e, X, C, Γ, cls, E0, O, tg, x, h => pi_seq O.mono (sE e O x h)
  | .rng1 e, X, C, Γ, cls, E0, O, tg, x, h => by
    unfold chkIt at h
    split at h
    · rename_i n p x1 pos
      simp only [Bool.and_eq_true, decide_eq_true_eq] at h
      obtain ⟨⟨⟨⟨h1, h2⟩, h3⟩, h4⟩, h5⟩ := h
      subst h1
      refine PI.le (pi_range1 (O.glOk h2) (O.m.bl "range" (by simpa using h3)) (pa_cons (sE e O x1 h4) pa_nil (plain_star h5 [] _)) (plain_star h5 [] _)) ?_
      rintro σ H R ⟨hid, μ, F, ρ, S, E, A, q⟩
      refine tE_of O.mono A q fun y S1 v H1 μ1 F1 q1 m1 f1 r1 rp1 => ?_
      split at q1
      · rename_i n
        have hl : n.toNat ≤ line := by have := q1.1; omega
        have e1 : v = V.int n := rp1
        refine ⟨n, by rw [e1], ?_, ?_, q1.2.2 _ H1 μ1 F1 m1 f1 r1 (itr_ok hl _)⟩
        · have := q1.2.1; unfold line at this; omega
        · have := q1.1; unfold line at this; omega
      · exact q1.elim
    · cases h
  | .rng2 a b, X, C, Γ, cls, E0, O, tg, x, h => by
    unfold chkIt at h
    split at h
    · rename_i n p x1 x2 pos
      simp only [Bool.and_eq_true, decide_eq_true_eq] at h
      obtain ⟨⟨⟨⟨⟨⟨h1, h2⟩, h3⟩, h4⟩, h5⟩, h6⟩, h7⟩ := h
      subst h1
      refine PI.le (pi_range2 (O.glOk h2) (O.m.bl "range" (by simpa using h3)) (pa_cons (sE a O x1 h4) (pa_cons (sE b O x2 h5) pa_nil (plain_star h7 [] _)) (plain_star h6 _ _)) (by rw [plain_star h6, plain_star h7]; rfl) (plain_star h7 [] _)) ?_
      rintro σ H R ⟨hid, μ, F, ρ, S, E, A, q⟩
      refine tE_of O.mono A q fun y S1 v H1 μ1 F1 q1 m1 f1 r1 rp1 => tE_of O.mono (A.to m1 f1 r1) q1 fun z S2 w H2 μ2 F2 q2 m2 f2 r2 rp2 => ?_
      split at q2
      · rename_i i j
        obtain ⟨⟨g1, g2, g3, g4, g5⟩, q3⟩ := q2
        have hl : (j - i).toNat ≤ line := by omega
        have e1 : v = V.int i := rp1
        have e2 : w = V.int j := rp2
        unfold line at g1 g2 g3 g4
        exact ⟨i, j, by rw [e1, e2], ⟨by omega, by omega, by omega, by omega⟩, q3 _ H2 μ2 F2 (m1.trans m2) (f1.trans f2) r2 (itr_ok hl _)⟩
      · exact q2.elim
    · cases h
  | .enum _, X, C, Γ, cls, E0, O, tg, x, h => by cases h
  | .zip _ _, X, C, Γ, cls, E0, O, tg, x, h => by cases h
  | .items _, X, C, Γ, cls, E0, O, tg, x, h => by cases h
end
end
end PL
set_option maxRecDepth 100000
set_option maxHeartbeats 4000000
/-! PL1m: statements. -/
namespace PL
open PySem PySem.Spec PyProof.Rows L2

theorem PS.le {X : Cx} {e : Stmt} {t t' : TS} (h : PS X e t) (g : ∀ D σ H, t' D σ H → t D σ H) : PS X e t' := ⟨fun pins s σ H D I q => h.run pins s σ H D I (g D σ H q)⟩
theorem PSs.le {X : Cx} {e : List Stmt} {t t' : TS} (h : PSs X e t) (g : ∀ D σ H, t' D σ H → t D σ H) : PSs X e t' := ⟨fun pins s σ H D I q => h.run pins s σ H D I (g D σ H q)⟩

def isLC : Expr → Bool
  | .ListComp .. => true
  | _ => false
def isTup : Expr → Bool
  | .Tuple .. => true
  | _ => false
theorem sw_plain {v : Expr} (h : plainX v = true) (h2 : isLC v = false) (t : Option Expr) (l : Nat) (env : PySem.Env) : swapsWith v t l env = pure false := by
  cases v <;> first | rfl | (cases h; done) | (cases h2; done)
theorem sole_sub {v o i : Expr} {p : Pos} (l : Nat) (env : PySem.Env) : swapsWithSole [.Subscript o i p] v l env = pure false := by
  cases v <;> rfl
theorem sole_tup {v : Expr} {xs : List Expr} {k : Nat} {p : Pos} (l : Nat) (env : PySem.Env) : swapsWithSole [.Tuple xs k p] v l env = pure false := by
  cases v <;> rfl
theorem st_sub {v o i : Expr} {p : Pos} (env : PySem.Env) : swappedStores [.Subscript o i p] v env = pure none := by
  cases v <;> rfl
theorem st_tup {v : Expr} {xs : List Expr} {k : Nat} {p : Pos} (h : isTup v = false) (env : PySem.Env) : swappedStores [.Tuple xs k p] v env = pure none := by
  cases v <;> first | rfl | (cases h; done)
theorem kind_blk {env : PySem.Env} (h : env.scope.kind = .function) : env.blockKind = .function := by
  unfold Env.blockKind; rw [h]; rfl
/-- whether a comprehension's value is stored as it is made -/
def swB (C : SCx) (n : Str) (p1 p2 : Pos) (scope : Scope) : Bool := C.loc n && (p1.line == p2.line) && !(scope.names.any fun (m, k) => m == n && (k == .local || k == .cell))
theorem sw_lc {elt : Expr} {gs : List Comprehension} {scope : Scope} {pos py : Pos} {n : Str} {l : Nat} {env : PySem.Env} {C : SCx} (he : env.scope = C.sc) (hk : env.scope.kind = .function) :
    swapsWith (.ListComp elt gs scope pos) (some (.Name n py)) l env = pure (swB C n py pos scope) := by
  unfold swapsWith swB
  have hb := kind_blk hk
  have hkk : env.kindOf n = C.sc.names.lookup n := by unfold Env.kindOf; rw [he]
  have hl : (env.kindOf n == some .local) = C.loc n := by
    rw [hkk]
    unfold SCx.loc
    split
    · rename_i e; rw [e]; rfl
    · rename_i e
      cases q : C.sc.names.lookup n with
      | none => rfl
      | some k =>
        cases k <;> first | rfl | exact absurd q e
  simp only [hb, hl, Expr.pos]
  rfl

def nm2 (x y : Expr) (l : Nat) (C : SCx) : Bool := match x, y with
  | .Name a p, .Name b q => C.loc a && C.loc b && (p.line == l) && (q.line == l) && !(a == b)
  | _, _ => false
/-- a, b = x, y is stored from the right -/
theorem sw_two {a b : Str} {p q pt pt2 : Pos} {kt k2 : Nat} {va vb : Expr} {env : PySem.Env} {C : SCx} (he : env.scope = C.sc) (hk : env.scope.kind = .function) (h1 : plainX va = true) (h2 : plainX vb = true)
    (h3 : [va, vb].all (foldedForSure 8) = false) (h4 : [va, vb].all (constantsAlone 8) = false) (ha : C.loc a = true) (hb : C.loc b = true) (hl : q.line = p.line) (hab : a ≠ b) :
    swappedStores [.Tuple [.Name a p, .Name b q] kt pt] (.Tuple [va, vb] k2 pt2) env = pure (some [a, b]) := by
  have key : ∀ n, C.loc n = true → (env.kindOf n == some .local) = true := fun n h => by
    unfold SCx.loc at h
    rw [← he] at h
    unfold Env.kindOf
    split at h
    · rename_i e; rw [e]; rfl
    · cases h
  have hba : (b == a) = false := by
    rw [beq_eq_false_iff_ne]
    exact fun z => hab z.symm
  unfold swappedStores
  dsimp only
  rw [h3, h4, if_neg (by simp [kind_blk hk]), if_neg (fun h => ?_)]
  · have ka : env.kindOf a = some .local := by simpa using key a ha
    have kb : env.kindOf b = some .local := by simpa using key b hb
    simp [List.filterMap_cons, ka, kb, hl, hba, Expr.pos, List.eraseDups_cons]
  · rw [List.any_eq_true] at h
    obtain ⟨x, hx, h⟩ := h
    have px : plainX x = true := by
      simp only [List.mem_cons, List.not_mem_nil, or_false] at hx
      rcases hx with rfl | rfl
      · exact h1
      · exact h2
    cases x <;> first | (cases px; done) | (cases h; done)
theorem sw_three {a b c : Str} {p q r pt pt2 : Pos} {kt k2 : Nat} {va vb vc : Expr} {env : PySem.Env} {C : SCx} (he : env.scope = C.sc) (hk : env.scope.kind = .function) (h1 : plainX va = true) (h2 : plainX vb = true) (h2' : plainX vc = true)
    (h3 : [va, vb, vc].all (foldedForSure 8) = false) (h4 : [va, vb, vc].all (constantsAlone 8) = false) (ha : C.loc a = true) (hb : C.loc b = true) (hc : C.loc c = true) (hl : q.line = p.line) (hl2 : r.line = p.line) (hab : a ≠ b) (hac : a ≠ c) (hbc : b ≠ c) :
    swappedStores [.Tuple [.Name a p, .Name b q, .Name c r] kt pt] (.Tuple [va, vb, vc] k2 pt2) env = pure (some [a, b, c]) := by
  have key : ∀ n, C.loc n = true → (env.kindOf n == some .local) = true := fun n h => by
    unfold SCx.loc at h
    rw [← he] at h
    unfold Env.kindOf
    split at h
    · rename_i e; rw [e]; rfl
    · cases h
  have hba : (b == a) = false := by rw [beq_eq_false_iff_ne]; exact fun z => hab z.symm
  have hca : (c == a) = false := by rw [beq_eq_false_iff_ne]; exact fun z => hac z.symm
  have hcb : (c == b) = false := by rw [beq_eq_false_iff_ne]; exact fun z => hbc z.symm
  unfold swappedStores
  dsimp only
  rw [h3, h4, if_neg (by simp [kind_blk hk]), if_neg (fun h => ?_)]
  · have ka : env.kindOf a = some .local := by simpa using key a ha
    have kb : env.kindOf b = some .local := by simpa using key b hb
    have kc : env.kindOf c = some .local := by simpa using key c hc
    simp [List.filterMap_cons, ka, kb, kc, hl, hl2, hba, hca, hcb, Expr.pos, List.eraseDups_cons]
  · rw [List.any_eq_true] at h
    obtain ⟨x, hx, h⟩ := h
    have px : plainX x = true := by
      simp only [List.mem_cons, List.not_mem_nil, or_false] at hx
      rcases hx with rfl | rfl | rfl
      · exact h1
      · exact h2
      · exact h2'
    cases x <;> first | (cases px; done) | (cases h; done)

def chkL (C : SCx) (i : Nat) : Expr → Bool
  | .Name n _ => decide (C.N[i]? = some n) && C.loc n && C.mt i
  | _ => false
mutual
def chkS (C : SCx) : IS → Stmt → Bool
  | .set i e, st => match st with
    | .Assign [.Name n _] v _ => decide (C.N[i]? = some n) && C.sto n && C.mt i && chkE C e v && plainX v
    | _ => false
  | .unp is e, st => match st with
    | .Assign [.Tuple xs _ _] v _ => chkPs C is xs && is.all C.mt && chkE C e v && plainX v && !isTup v
    | _ => false
  | .par2 i j a b, st => match st with
    | .Assign [.Tuple [.Name n p, .Name m q] _ _] (.Tuple [va, vb] _ _) _ => chkL C i (.Name n p) && chkL C j (.Name m q) && chkE C a va && chkE C b vb && plainX va && plainX vb && !([va, vb].all (foldedForSure 8)) && !([va, vb].all (constantsAlone 8)) && (q.line == p.line) && !(decide (i = j))
    | _ => false
  | .par3 i j k a b c, st => match st with
    | .Assign [.Tuple [.Name n p, .Name m q, .Name l r] _ _] (.Tuple [va, vb, vc] _ _) _ => chkL C i (.Name n p) && chkL C j (.Name m q) && chkL C k (.Name l r) && chkE C a va && chkE C b vb && chkE C c vc && plainX va && plainX vb && plainX vc &&
        !([va, vb, vc].all (foldedForSure 8)) && !([va, vb, vc].all (constantsAlone 8)) && (q.line == p.line) && (r.line == p.line) && !(decide (i = j)) && !(decide (i = k)) && !(decide (j = k))
    | _ => false
  | .setix o i e, st => match st with
    | .Assign [.Subscript xo xi _] v _ => chkE C o xo && chkE C i xi && plainX xi && chkE C e v
    | _ => false
  | .unpix o i j e, st => match st with
    | .Assign [.Tuple [.Subscript xo xi _, .Name n _] _ _] v _ => chkE C o xo && chkE C i xi && plainX xi && decide (C.N[j]? = some n) && C.sto n && C.mt j && chkE C e v && plainX v && !isTup v
    | _ => false
  | .ex e, st => match st with
    | .Expr x _ => chkE C e x && plainX x && !isLC x
    | _ => false
  | .ret e, st => match st with
    | .Return (some x) _ => chkE C e x
    | _ => false
  | .retn, st => match st with
    | .Return none _ => true
    | _ => false
  | .ite c a b, st => match st with
    | .If x xa xb _ => chkE C c x && chkSs C a xa && chkSs C b xb
    | _ => false
  | .for_ p it b, st => match st with
    | .For tg iter body [] _ => chkIt C it iter && plainX iter && chkP C p tg && p.slots.all C.mt && chkSs C b body
    | _ => false
  | .while_ c b, st => match st with
    | .While x body [] _ => chkE C c x && chkSs C b body
    | _ => false
  | .raise_ _ _, st => match st with
    | .Raise _ _ _ => true
    | _ => false
  | .pass, st => match st with
    | .Pass _ => true
    | .Expr (.Constant (.str _) _ _) _ => true
    | _ => false
  | .brk, st => match st with
    | .Break _ => true
    | _ => false
  | .cont, st => match st with
    | .Continue _ => true
    | _ => false
def chkSs (C : SCx) : ISs → List Stmt → Bool
  | .nil, xs => xs.isEmpty
  | .cons s r, xs => match xs with
    | x :: xr => chkS C s x && chkSs C r xr
    | [] => false
end

section
variable {K : PySem.W.Frag} {ca : CA} {μ μ' μ1 : List Addr} {F F' F1 H H' H1 : Hp} {S S1 : Sto} {Q : VK} {E0 : Wh} {cls : Cls} {Γ : Ctx} {hid : List (Addr × HO)} {ρ : Env} {σ σ1 : L2.St} {E : XP}
/-- ends by values -/
structure EndsR (K : PySem.W.Frag) (cls : Cls) (E0 : Wh) (hid : List (Addr × HO)) (μ : List Addr) (F : Hp) (σ : L2.St) (Dp : Ends) (D : L2.Ends) : Prop where
  nx : ∀ ρ' S' σ' H' μ' F', Dp.nx ρ' S' → Ext μ μ' → Same F F' → SR K ⟨cls, hid⟩ μ' F' H' S' → EnvR K ⟨cls, hid⟩ μ' F' ρ' σ' → Agree E0 σ σ' → D.nx σ' H'
  bk : ∀ ρ' S' σ' H' μ' F', Dp.bk ρ' S' → Ext μ μ' → Same F F' → SR K ⟨cls, hid⟩ μ' F' H' S' → EnvR K ⟨cls, hid⟩ μ' F' ρ' σ' → Agree E0 σ σ' → D.bk σ' H'
  ct : ∀ ρ' S' σ' H' μ' F', Dp.ct ρ' S' → Ext μ μ' → Same F F' → SR K ⟨cls, hid⟩ μ' F' H' S' → EnvR K ⟨cls, hid⟩ μ' F' ρ' σ' → Agree E0 σ σ' → D.ct σ' H'
  rt : ∀ v S', Dp.rt v S' → Kv K ⟨cls, hid⟩ μ F D.rt v S'
theorem EndsR.mono {Dp : Ends} {D : L2.Ends} (m : Ext μ μ1) (f : Same F F1) (g : Agree E0 σ σ1) (R : EndsR K cls E0 hid μ F σ Dp D) : EndsR K cls E0 hid μ1 F1 σ1 Dp D :=
  ⟨fun ρ' S' σ' H' μ' F' h m' f' r e a => R.nx ρ' S' σ' H' μ' F' h (m.trans m') (f.trans f') r e (g.trans a), fun ρ' S' σ' H' μ' F' h m' f' r e a => R.bk ρ' S' σ' H' μ' F' h (m.trans m') (f.trans f') r e (g.trans a),
    fun ρ' S' σ' H' μ' F' h m' f' r e a => R.ct ρ' S' σ' H' μ' F' h (m.trans m') (f.trans f') r e (g.trans a), fun v S' h => (R.rt v S' h).mono m f⟩
def tS (K : PySem.W.Frag) (cls : Cls) (E0 : Wh) (Γ : Ctx) (s : IS) : TS := fun D σ H => ∃ hid μ F ρ S E Dp, At K cls E0 hid μ F ρ S E σ H ∧ EndsR K cls E0 hid μ F σ Dp D ∧ wS Γ E s Dp ρ S
def tSs (K : PySem.W.Frag) (cls : Cls) (E0 : Wh) (Γ : Ctx) (s : ISs) : TS := fun D σ H => ∃ hid μ F ρ S E Dp, At K cls E0 hid μ F ρ S E σ H ∧ EndsR K cls E0 hid μ F σ Dp D ∧ wSs Γ E s Dp ρ S
/-- another state of the same body -/
theorem At.re (A : At K cls E0 hid μ F ρ S E σ H) {ρ1 : Env} (m : Ext μ μ1) (f : Same F F1) (r : SR K ⟨cls, hid⟩ μ1 F1 H1 S1) (e : EnvR K ⟨cls, hid⟩ μ1 F1 ρ1 σ1) (g : Agree E0 σ σ1) : At K cls E0 hid μ1 F1 ρ1 S1 E σ1 H1 :=
  ⟨r, e, fun σ' g' x S' h => (A.le σ' (g.trans g') x S' h).mono m f⟩
theorem names_agree : ∀ (is : List Nat) (vs : List V) (σ0 σ : L2.St) (Q : L2.St → Hp → Prop), (∀ i ∈ is, E0.mt i = true) → Agree E0 σ0 σ → gNames is vs σ H Q → gNames is vs σ H fun σ' H' => Q σ' H' ∧ Agree E0 σ0 σ'
  | [], vs, σ0, σ, Q, hm, g, h => ⟨h.1, h.2, g⟩
  | i :: r, vs, σ0, σ, Q, hm, g, h => by
    obtain ⟨v, t, e, q⟩ := h
    exact ⟨v, t, e, names_agree r t σ0 _ Q (fun j hj => hm j (List.mem_cons_of_mem _ hj)) (g.trans (Agree.set (hm i List.mem_cons_self))) q⟩
theorem tgOf_agree {p : Pt} {v : V} {Q : L2.St → Hp → Prop} (hm : ∀ i ∈ p.slots, E0.mt i = true) (h : tgOf K p v σ H Q) : tgOf K p v σ H fun σ' H' => Q σ' H' ∧ Agree E0 σ σ' := by
  cases p with
  | nm i => exact ⟨h, Agree.set (hm i (by simp [Pt.slots]))⟩
  | tp is =>
    obtain ⟨a, xs, e, q, l, n⟩ := h
    exact ⟨a, xs, e, q, l, names_agree is xs σ σ Q hm (Agree.refl _ _) n⟩
end
end PL
set_option maxRecDepth 100000
set_option maxHeartbeats 4000000
/-! PL1n: a matching statement's wish is its reading. -/
namespace PL
open PySem PySem.Spec PyProof.Rows L2

/-- the machine's context of a def's body -/
structure SOk (X : Cx) (C : SCx) (Γ : Ctx) (cls : Cls) (E0 : Wh) : Prop where
  x : XOk X C Γ cls E0
  kind : C.sc.kind = .function
  own : PassesOwn (model X.prog X.w) X.A X.env X.xe
  mt : ∀ i, C.mt i = true → E0.mt i = true

section
variable {X : Cx} {C : SCx} {Γ : Ctx} {cls : Cls} {E0 : Wh}
theorem SOk.knd (O : SOk X C Γ cls E0) : X.env.scope.kind = .function := by rw [O.x.env]; exact O.kind
theorem SOk.locOk (O : SOk X C Γ cls E0) {n : Str} (h : C.loc n = true) : X.env.scope.names.lookup n = some .local := by
  unfold SCx.loc at h
  rw [← O.x.env] at h
  split at h
  · rename_i e; exact e
  · cases h
theorem chkL_ok {i : Nat} {n : Str} {p : Pos} (h : chkL C i (.Name n p) = true) : C.N[i]? = some n ∧ C.loc n = true ∧ C.mt i = true := by
  unfold chkL at h
  simp only [Bool.and_eq_true, decide_eq_true_eq] at h
  exact ⟨h.1.1, h.1.2, h.2⟩
/-- name = value: the wish -/
theorem set_rd (O : SOk X C Γ cls E0) {i : Nat} {e : IR} (hm : C.mt i = true) : ∀ D σ H, tS X.K cls E0 Γ (.set i e) D σ H → tAsg (tE X.K cls E0 Γ e) (gName i) D σ H := by
  rintro D σ H ⟨hid, μ, F, ρ, S, E, Dp, A, R, q⟩
  exact tE_of O.x.mono A q fun y S1 v H1 μ1 F1 q1 m1 f1 r1 rp1 => R.nx _ _ _ _ _ _ q1 m1 f1 r1 ((A.env.mono m1 f1).set rp1 i) (Agree.set (O.mt i hm))
/-- name = [..], whichever way it is stored -/
theorem s_setLc (O : SOk X C Γ cls E0) {i : Nat} {n : Str} {py pos spos : Pos} {own : List Nat} {p : Pt} {it : It} {c : IRo} {m : Bool} {e : IR} {elt tg iter : Expr} {ifs : List Expr} {scope : Scope} (hN : C.N[i]? = some n) (hs : C.sto n = true) (hm : C.mt i = true)
    (h : chkE C (.comp m own p it c e) (.ListComp elt [⟨tg, iter, ifs, 0⟩] scope pos) = true) : PS X (.Assign [.Name n py] (.ListComp elt [⟨tg, iter, ifs, 0⟩] scope pos) spos) (tS X.K cls E0 Γ (.set i (.comp m own p it c e))) := by
  have sw := sw_lc (elt := elt) (gs := [⟨tg, iter, ifs, 0⟩]) (scope := scope) (pos := pos) (py := py) (n := n) (l := spos.line) O.x.env O.knd
  obtain ⟨g1, g2⟩ := O.x.stoOk hs
  cases hb : swB C n py pos scope with
  | false =>
    rw [hb] at sw
    exact PS.le (ps_set (by rw [O.x.N]; exact O.x.nd) (by rw [O.x.N]; exact hN) g1 (sE _ O.x _ h) sw g2) (set_rd O hm)
  | true =>
    rw [hb] at sw
    have hl : C.loc n = true := by
      unfold swB at hb
      simp only [Bool.and_eq_true] at hb
      exact hb.1.1
    have h' := h
    unfold chkE at h'
    simp only [Bool.and_eq_true] at h'
    obtain ⟨⟨⟨⟨⟨⟨⟨h1, h2⟩, h3⟩, h4⟩, h5⟩, h6⟩, h7⟩, h8⟩ := h'
    have hown := lc_own h5
    have hs : ∀ i ∈ p.slots, i ∈ own := fun i hi => by
      have := List.all_eq_true.mp h7 i hi
      simpa using this
    refine PS.le (ps_setLc (own := ownP C.N own) (g := tgOf X.K p) (tt := tC' X.K cls Wh.none Γ c) (te := tE X.K cls Wh.none Γ e) O.x.calm (by rw [O.x.N]; exact O.x.nd) (by rw [O.x.N]; exact hN) (O.locOk hl) sw (sI it O.x tg iter h1) (by rw [O.x.N, O.x.env]; exact blkOk_by h4)
      (fun s H a cl fp => sP (O.x.blk s H scope cl a fp) h6) (fun s H a cl fp => sC c (O.x.blk s H scope cl a fp) ifs h3) (fun s H a cl fp => sE e (O.x.blk s H scope cl a fp) elt h8) (plain_fold h2 _)) ?_
    rintro D σ H ⟨hid, μ, F, ρ, S, E, Dp, A, R, q⟩
    rw [hown]
    refine comp_ok (Q := fun x H1 => gName i x σ H1 D.nx) O.x.mono A hs (wE_mono O.x.mono _ _ _ _ _ _ q fun y S1 q1 v H1 μ1 F1 m1 f1 r1 rp1 => ?_)
    exact R.nx _ _ _ _ _ _ q1 m1 f1 r1 ((A.env.mono m1 f1).set rp1 i) (Agree.set (O.mt i hm))

mutual
theorem sS (O : SOk X C Γ cls E0) : ∀ (s : IS) (st : Stmt), chkS C s st = true → PS X st (tS X.K cls E0 Γ s)
  | .set i e, st, h => by
    unfold chkS at h
    split at h
    · rename_i n p v pos
      simp only [Bool.and_eq_true, decide_eq_true_eq] at h
      obtain ⟨⟨⟨⟨h1, h2⟩, h3⟩, h4⟩, h5⟩ := h
      cases hl : isLC v with
      | false =>
        obtain ⟨g1, g2⟩ := O.x.stoOk h2
        exact PS.le (ps_set (by rw [O.x.N]; exact O.x.nd) (by rw [O.x.N]; exact h1) g1 (sE e O.x v h4) (sw_plain h5 hl _ _ _) g2) (set_rd O h3)
      | true =>
        cases v <;> first | (cases hl; done) | skip
        rename_i elt gens scope vpos
        have hh := h4
        cases e <;> first | (cases h4; done) | skip
        rename_i m own p' it c e'
        unfold chkE at hh
        split at hh
        · rename_i heq
          cases heq
          exact s_setLc O h1 h2 h3 h4
        · cases hh
    · cases h
  | .unp is e, st, h => by
    unfold chkS at h
    split at h
    · rename_i xs k p v pos
      simp only [Bool.and_eq_true, Bool.not_eq_true'] at h
      obtain ⟨⟨⟨⟨h1, h2⟩, h3⟩, h4⟩, h5⟩ := h
      have hg : PG X (.Tuple xs k p) (tgOf X.K (.tp is)) := sP O.x (p := .tp is) (x := .Tuple xs k p) h1
      refine PS.le (ps_asg (sE e O.x v h3) hg (sole_tup _ _) (st_tup h5 _)) ?_
      rintro D σ H ⟨hid, μ, F, ρ, S, E, Dp, A, R, q⟩
      refine tE_of O.x.mono A q fun y S1 v H1 μ1 F1 q1 m1 f1 r1 rp1 => ?_
      have hm : ∀ i ∈ (Pt.tp is).slots, E0.mt i = true := fun i hi => O.mt i (List.all_eq_true.mp h2 i hi)
      refine tgOf_mono (tgOf_agree hm (asg_ok r1 (A.env.mono m1 f1) rp1 q1)) fun σ' H' ⟨⟨eH, ⟨ρ', k', e'⟩, _⟩, ag⟩ => ?_
      subst eH
      exact R.nx _ _ _ _ _ _ k' m1 f1 r1 e' ag
    · cases h
  | .par2 i j a b, st, h => by
    unfold chkS at h
    split at h
    · rename_i n p m q kt pt va vb k2 pt2 pos
      simp only [Bool.and_eq_true, Bool.not_eq_true', beq_iff_eq, decide_eq_false_iff_not] at h
      obtain ⟨⟨⟨⟨⟨⟨⟨⟨⟨h1, h2⟩, h3⟩, h4⟩, h5⟩, h6⟩, h7⟩, h8⟩, h9⟩, h10⟩ := h
      obtain ⟨a1, a2, a3⟩ := chkL_ok h1
      obtain ⟨b1, b2, b3⟩ := chkL_ok h2
      have hne : n ≠ m := fun z => h10 (nodup_ix O.x.nd a1 (by rw [z]; exact b1))
      refine PS.le (ps_par O.x.calm (by rw [O.x.N]; exact O.x.nd) (by rw [O.x.N]; exact a1) (by rw [O.x.N]; exact b1) h10 (O.locOk a2) (O.locOk b2)
        (pa_cons (sE a O.x va h3) (pa_cons (sE b O.x vb h4) pa_nil (plain_star h6 [] _)) (plain_star h5 _ _)) (sw_two O.x.env O.knd h5 h6 h7 h8 a2 b2 h9 hne)) ?_
      rintro D σ H ⟨hid, μ, F, ρ, S, E, Dp, A, R, q⟩
      refine tE_of O.x.mono A q fun y S1 v H1 μ1 F1 q1 m1 f1 r1 rp1 => tE_of O.x.mono (A.to m1 f1 r1) q1 fun z S2 w H2 μ2 F2 q2 m2 f2 r2 rp2 => ⟨v, w, rfl, ?_⟩
      exact R.nx _ _ _ _ _ _ q2 (m1.trans m2) (f1.trans f2) r2 (((A.env.mono (m1.trans m2) (f1.trans f2)).set (Rep.mono m2 f2 _ _ rp1) i).set rp2 j) ((Agree.set (O.mt i a3)).trans (Agree.set (O.mt j b3)))
    · cases h
  | .par3 i j k a b c, st, h => by
    unfold chkS at h
    split at h
    · rename_i n p m q l r kt pt va vb vc k2 pt2 pos
      simp only [Bool.and_eq_true, Bool.not_eq_true', beq_iff_eq, decide_eq_false_iff_not] at h
      obtain ⟨⟨⟨⟨⟨⟨⟨⟨⟨⟨⟨⟨⟨⟨⟨h1, h2⟩, h3⟩, h4⟩, h5⟩, h6⟩, h7⟩, h8⟩, h9⟩, h10⟩, h11⟩, h12⟩, h13⟩, h14⟩, h15⟩, h16⟩ := h
      obtain ⟨a1, a2, a3⟩ := chkL_ok h1
      obtain ⟨b1, b2, b3⟩ := chkL_ok h2
      obtain ⟨c1, c2, c3⟩ := chkL_ok h3
      have hab : n ≠ m := fun z => h14 (nodup_ix O.x.nd a1 (by rw [z]; exact b1))
      have hac : n ≠ l := fun z => h15 (nodup_ix O.x.nd a1 (by rw [z]; exact c1))
      have hbc : m ≠ l := fun z => h16 (nodup_ix O.x.nd b1 (by rw [z]; exact c1))
      refine PS.le (ps_par3 O.x.calm (by rw [O.x.N]; exact O.x.nd) (by rw [O.x.N]; exact a1) (by rw [O.x.N]; exact b1) (by rw [O.x.N]; exact c1) h14 h15 h16 (O.locOk a2) (O.locOk b2) (O.locOk c2)
        (pa_cons (sE a O.x va h4) (pa_cons (sE b O.x vb h5) (pa_cons (sE c O.x vc h6) pa_nil (plain_star h9 [] _)) (plain_star h8 _ _)) (plain_star h7 _ _)) (sw_three O.x.env O.knd h7 h8 h9 h10 h11 a2 b2 c2 h12 h13 hab hac hbc)) ?_
      rintro D σ H ⟨hid, μ, F, ρ, S, E, Dp, A, R, q⟩
      refine tE_of O.x.mono A q fun y S1 v H1 μ1 F1 q1 m1 f1 r1 rp1 => tE_of O.x.mono (A.to m1 f1 r1) q1 fun z S2 w H2 μ2 F2 q2 m2 f2 r2 rp2 => tE_of O.x.mono ((A.to m1 f1 r1).to m2 f2 r2) q2 fun x3 S3 u H3 μ3 F3 q3 m3 f3 r3 rp3 => ⟨v, w, u, rfl, ?_⟩
      exact R.nx _ _ _ _ _ _ q3 (m1.trans (m2.trans m3)) (f1.trans (f2.trans f3)) r3 ((((A.env.mono (m1.trans (m2.trans m3)) (f1.trans (f2.trans f3))).set (Rep.mono (m2.trans m3) (f2.trans f3) _ _ rp1) i).set (Rep.mono m3 f3 _ _ rp2) j).set rp3 k) (((Agree.set (O.mt i a3)).trans (Agree.set (O.mt j b3))).trans (Agree.set (O.mt k c3)))
    · cases h
  | .setix o i e, st, h => by
    unfold chkS at h
    split at h
    · rename_i xo xi p v pos
      simp only [Bool.and_eq_true] at h
      obtain ⟨⟨⟨h1, h2⟩, h3⟩, h4⟩ := h
      refine PS.le (ps_asg (sE e O.x v h4) (pg_sub (sE o O.x xo h1) (sE i O.x xi h2) set_list (fun u => by cases xi <;> first | rfl | (cases h3; done))) (sole_sub _ _) (st_sub _)) ?_
      rintro D σ H ⟨hid, μ, F, ρ, S, E, Dp, A, R, q⟩
      refine tE_of O.x.mono A q fun y S1 v H1 μ1 F1 q1 m1 f1 r1 rp1 => tE_of O.x.mono (A.to m1 f1 r1) q1 fun z S2 w H2 μ2 F2 q2 m2 f2 r2 rp2 => tE_of O.x.mono ((A.to m1 f1 r1).to m2 f2 r2) q2 fun x3 S3 u H3 μ3 F3 q3 m3 f3 r3 rp3 => ?_
      unfold wSet at q3
      split at q3
      · rename_i n k
        obtain ⟨xs, j, e1, e2, q4⟩ := q3
        obtain ⟨a, ha, ew⟩ : ∃ a, μ2[n]? = some a ∧ w = V.ref a := rp2
        obtain ⟨vs, hv, rl⟩ := r3.lst n a xs e1 (m3 n a ha)
        have eu : u = V.int k := rp3
        refine ⟨a, vs, k, j, ew, eu, hv, by rw [← rl.length]; exact e2, ?_⟩
        exact R.nx _ _ _ _ _ _ q4 (m1.trans (m2.trans m3)) (f1.trans (f2.trans f3)) (r3.setL (m3 n a ha) (rl.set (Rep.mono (m2.trans m3) (f2.trans f3) _ _ rp1) j)) (A.env.mono (m1.trans (m2.trans m3)) (f1.trans (f2.trans f3))) (Agree.refl _ _)
      · exact q3.elim
    · cases h
  | .unpix o i j e, st, h => by
    unfold chkS at h
    split at h
    · rename_i xo xi p1 n p2 k p3 v pos
      simp only [Bool.and_eq_true, Bool.not_eq_true', decide_eq_true_eq] at h
      obtain ⟨⟨⟨⟨⟨⟨⟨⟨h1, h2⟩, h3⟩, h4⟩, h5⟩, h6⟩, h7⟩, h8⟩, h9⟩ := h
      obtain ⟨g1, g2⟩ := O.x.stoOk h5
      have hsub : PG X (.Subscript xo xi p1) (gSub (tE X.K cls E0 Γ o) (tE X.K cls E0 Γ i) rSetL) := pg_sub (sE o O.x xo h1) (sE i O.x xi h2) set_list (fun u => by cases xi <;> first | rfl | (cases h3; done))
      have hnm : PG X (.Name n p2) (gName j) := pg_name (by rw [O.x.N]; exact O.x.nd) (by rw [O.x.N]; exact h4) g1 g2
      refine PS.le (ps_asg (sE e O.x v h7) (pg_tup O.x.calm (pgs_cons hsub (pgs_cons hnm pgs_nil)) rfl rfl) (sole_tup _ _) (st_tup h9 _)) ?_
      rintro D σ H ⟨hid, μ, F, ρ, S, E, Dp, A, R, q⟩
      refine tE_of O.x.mono A q fun y S1 v H1 μ1 F1 q1 m1 f1 r1 rp1 => ?_
      split at q1
      · rename_i a b
        obtain ⟨ad, vs, ev, hq, rl⟩ := rp1
        obtain ⟨va, vb, e2, ra, rb⟩ := repL2 rl
        subst e2
        refine ⟨ad, [va, vb], ev, sqT_mono r1.sub hq, rfl, va, [vb], rfl, ?_⟩
        refine tE_of O.x.mono (A.to m1 f1 r1) q1 fun z S2 w H2 μ2 F2 q2 m2 f2 r2 rp2 => tE_of O.x.mono ((A.to m1 f1 r1).to m2 f2 r2) q2 fun x3 S3 u H3 μ3 F3 q3 m3 f3 r3 rp3 => ?_
        unfold wSet at q3
        split at q3
        · rename_i n' k'
          obtain ⟨xs, jj, e1, e2, q4⟩ := q3
          obtain ⟨a', ha, ew⟩ : ∃ a, μ2[n']? = some a ∧ w = V.ref a := rp2
          obtain ⟨vs', hv, rl'⟩ := r3.lst n' a' xs e1 (m3 n' a' ha)
          have eu : u = V.int k' := rp3
          refine ⟨a', vs', k', jj, ew, eu, hv, by rw [← rl'.length]; exact e2, vb, [], rfl, rfl, ?_⟩
          exact R.nx _ _ _ _ _ _ q4 (m1.trans (m2.trans m3)) (f1.trans (f2.trans f3)) (r3.setL (m3 n' a' ha) (rl'.set (Rep.mono (m2.trans m3) (f2.trans f3) _ _ ra) jj)) ((A.env.mono (m1.trans (m2.trans m3)) (f1.trans (f2.trans f3))).set (Rep.mono (m2.trans m3) (f2.trans f3) _ _ rb) j) (Agree.set (O.mt j h6))
        · exact q3.elim
      · exact q1.elim
    · cases h
  | .ex e, st, h => by
    unfold chkS at h
    split at h
    · simp only [Bool.and_eq_true, Bool.not_eq_true'] at h
      obtain ⟨⟨h1, h2⟩, h3⟩ := h
      refine PS.le (ps_expr (sE e O.x _ h1) (sw_plain h2 h3 _ _ _)) ?_
      rintro D σ H ⟨hid, μ, F, ρ, S, E, Dp, A, R, q⟩
      exact tE_of O.x.mono A q fun y S1 v H1 μ1 F1 q1 m1 f1 r1 rp1 => R.nx _ _ _ _ _ _ q1 m1 f1 r1 (A.env.mono m1 f1) (Agree.refl _ _)
    · cases h
  | .ret e, st, h => by
    unfold chkS at h
    split at h
    · refine PS.le (ps_ret (sE e O.x _ h)) ?_
      rintro D σ H ⟨hid, μ, F, ρ, S, E, Dp, A, R, q⟩
      exact tE_of O.x.mono A q fun y S1 v H1 μ1 F1 q1 m1 f1 r1 rp1 => R.rt _ _ q1 v H1 μ1 F1 m1 f1 r1 rp1
    · cases h
  | .retn, st, h => by
    unfold chkS at h
    split at h
    · refine PS.le ps_retN ?_
      rintro D σ H ⟨hid, μ, F, ρ, S, E, Dp, A, R, q⟩
      exact R.rt _ _ q _ H μ F (Ext.refl _) (Same.refl _) A.sr rfl
    · cases h
  | .ite c a b, st, h => by
    unfold chkS at h
    split at h
    · simp only [Bool.and_eq_true] at h
      obtain ⟨⟨h1, h2⟩, h3⟩ := h
      refine PS.le (ps_if (sT c O.x _ h1) (sSs O a _ h2) (sSs O b _ h3)) ?_
      rintro D σ H ⟨hid, μ, F, ρ, S, E, Dp, A, R, q⟩
      refine tT_of O.x.mono A q fun k S1 H1 μ1 F1 q1 m1 f1 r1 => ?_
      cases k with
      | true =>
        simp only [if_true] at q1 ⊢
        exact ⟨hid, μ1, F1, ρ, S1, E, Dp, A.to m1 f1 r1, R.mono m1 f1 (Agree.refl _ _), q1⟩
      | false =>
        simp only [Bool.false_eq_true, if_false] at q1 ⊢
        exact ⟨hid, μ1, F1, ρ, S1, E, Dp, A.to m1 f1 r1, R.mono m1 f1 (Agree.refl _ _), q1⟩
    · cases h
  | .for_ p it b, st, h => by
    unfold chkS at h
    split at h
    · rename_i tg iter body pos
      simp only [Bool.and_eq_true] at h
      obtain ⟨⟨⟨⟨h1, h2⟩, h3⟩, h4⟩, h5⟩ := h
      have hm : ∀ i ∈ p.slots, E0.mt i = true := fun i hi => O.mt i (List.all_eq_true.mp h4 i hi)
      refine PS.le (ps_for O.own O.x.calm (sI it O.x tg iter h1) (sP O.x h3) (sSs O b body h5) (plain_fold h2 _)) ?_
      rintro D σ H ⟨hid, μ, F, ρ, S, E, Dp, A, R, q⟩
      refine tI_of O.x.mono A q fun xs g S1 J H1 μ1 F1 h1 m1 f1 r1 it1 => ?_
      refine ⟨fun i m' σ2 H2 => m' = xs.length - i ∧ i ≤ xs.length ∧ ∃ μ2 F2 ρ2 S2, Ext μ μ2 ∧ Same F F2 ∧ Ext μ1 μ2 ∧ Same F1 F2 ∧ SR X.K ⟨cls, hid⟩ μ2 F2 H2 S2 ∧ EnvR X.K ⟨cls, hid⟩ μ2 F2 ρ2 σ2 ∧ Agree E0 σ σ2 ∧
        wFor g (fun x ρ' k => asg p x ρ' k) (fun D' ρ' S' => wSs Γ E b D' ρ' S') Dp (xs.drop i) ρ2 S2, ⟨xs.length, rfl, Nat.zero_le _, μ1, F1, ρ, S1, m1, f1, Ext.refl _, Same.refl _, r1, A.env.mono m1 f1, Agree.refl _ _, h1⟩, ?_⟩
      rintro i m' σ2 H2 ⟨rfl, hi, μ2, F2, ρ2, S2, m2, f2, m3, f3, r2, e2, ag2, w2⟩
      by_cases hlt : i < xs.length
      · have ed : xs.drop i = xs[i] :: xs.drop (i + 1) := List.drop_eq_getElem_cons hlt
        rw [ed] at w2
        obtain ⟨hg, w2⟩ := w2
        obtain ⟨_, hx⟩ := it1.2 _ μ2 F2 H2 S2 i m3 f3 r2 hg hi
        obtain ⟨go, yl⟩ := hx xs[i] (List.getElem?_eq_getElem hlt)
        refine .inr ⟨go, fun σ' H' => ∃ μ4 F4 ρ4 S4, Ext μ μ4 ∧ Same F F4 ∧ Ext μ1 μ4 ∧ Same F1 F4 ∧ SR X.K ⟨cls, hid⟩ μ4 F4 H' S4 ∧ EnvR X.K ⟨cls, hid⟩ μ4 F4 ρ4 σ' ∧ Agree E0 σ σ' ∧
          wFor g (fun x ρ' k => asg p x ρ' k) (fun D' ρ' S' => wSs Γ E b D' ρ' S') Dp (xs.drop (i + 1)) ρ4 S4, fun σ' H' w => ⟨xs.length - (i + 1), by omega, rfl, hlt, w⟩, fun v H' y => ?_⟩
        obtain ⟨F4, f4, r4, rx⟩ := yl v H' y
        have e4 := e2.mono (Ext.refl _) f4
        refine tgOf_mono (tgOf_agree hm (asg_ok r4 e4 rx w2)) fun σ5 H5 ⟨⟨eH, ⟨ρ5, k5, e5⟩, _⟩, ag5⟩ => ?_
        subst eH
        have A5 : At X.K cls E0 hid μ2 F4 ρ5 S2 E σ5 H5 := A.re m2 (f2.trans f4) r4 e5 (ag2.trans ag5)
        refine ⟨hid, μ2, F4, ρ5, S2, E, _, A5, ?_, k5⟩
        refine ⟨fun ρ' S' σ' H' μ' F' hn m' f' r e a => ?_, fun ρ' S' σ' H' μ' F' hn m' f' r e a => ?_, fun ρ' S' σ' H' μ' F' hn m' f' r e a => ?_, fun v S' hv => (R.rt v S' hv).mono m2 (f2.trans f4)⟩
        · exact ⟨μ', F', ρ', S', m2.trans m', f2.trans (f4.trans f'), m3.trans m', f3.trans (f4.trans f'), r, e, ag2.trans (ag5.trans a), hn⟩
        · exact R.nx ρ' S' σ' H' μ' F' hn (m2.trans m') (f2.trans (f4.trans f')) r e (ag2.trans (ag5.trans a))
        · exact ⟨μ', F', ρ', S', m2.trans m', f2.trans (f4.trans f'), m3.trans m', f3.trans (f4.trans f'), r, e, ag2.trans (ag5.trans a), hn⟩
      · have e : i = xs.length := by omega
        subst e
        rw [List.drop_length] at w2
        obtain ⟨hg, w2⟩ := w2
        obtain ⟨hst, _⟩ := it1.2 _ μ2 F2 H2 S2 xs.length m3 f3 r2 hg (Nat.le_refl _)
        exact .inl ⟨hst rfl, R.nx _ _ _ _ _ _ w2 m2 f2 r2 e2 ag2⟩
    · cases h
  | .while_ c b, st, h => by
    unfold chkS at h
    split at h
    · rename_i x body pos
      simp only [Bool.and_eq_true] at h
      obtain ⟨h1, h2⟩ := h
      refine PS.le (ps_while O.own (sT c O.x x h1) (sSs O b body h2)) ?_
      rintro D σ H ⟨hid, μ, F, ρ, S, E, Dp, A, R, q⟩
      obtain ⟨W, ⟨m0, w0⟩, turn⟩ := q
      refine ⟨fun m σ2 H2 => ∃ μ2 F2 ρ2 S2, Ext μ μ2 ∧ Same F F2 ∧ SR X.K ⟨cls, hid⟩ μ2 F2 H2 S2 ∧ EnvR X.K ⟨cls, hid⟩ μ2 F2 ρ2 σ2 ∧ Agree E0 σ σ2 ∧ W m ρ2 S2, ⟨m0, μ, F, ρ, S, Ext.refl _, Same.refl _, A.sr, A.env, Agree.refl _ _, w0⟩, ?_⟩
      rintro m σ2 H2 ⟨μ2, F2, ρ2, S2, m2, f2, r2, e2, ag2, w2⟩
      have A2 : At X.K cls E0 hid μ2 F2 ρ2 S2 E σ2 H2 := A.re m2 f2 r2 e2 ag2
      refine tT_of O.x.mono A2 (turn m ρ2 S2 w2) fun k S3 H3 μ3 F3 q3 m3 f3 r3 => ?_
      cases k with
      | true =>
        simp only [if_true] at q3 ⊢
        refine ⟨fun σ' H' => ∃ m', m' < m ∧ ∃ μ4 F4 ρ4 S4, Ext μ μ4 ∧ Same F F4 ∧ SR X.K ⟨cls, hid⟩ μ4 F4 H' S4 ∧ EnvR X.K ⟨cls, hid⟩ μ4 F4 ρ4 σ' ∧ Agree E0 σ σ' ∧ W m' ρ4 S4, fun σ' H' w => w, ?_⟩
        refine ⟨hid, μ3, F3, ρ2, S3, E, _, A2.to m3 f3 r3, ?_, q3⟩
        refine ⟨fun ρ' S' σ' H' μ' F' hn m' f' r e a => ?_, fun ρ' S' σ' H' μ' F' hn m' f' r e a => ?_, fun ρ' S' σ' H' μ' F' hn m' f' r e a => ?_, fun v S' hv => (R.rt v S' hv).mono (m2.trans m3) (f2.trans f3)⟩
        · obtain ⟨k', hk, w'⟩ := hn
          exact ⟨k', hk, μ', F', ρ', S', m2.trans (m3.trans m'), f2.trans (f3.trans f'), r, e, ag2.trans a, w'⟩
        · exact R.nx ρ' S' σ' H' μ' F' hn (m2.trans (m3.trans m')) (f2.trans (f3.trans f')) r e (ag2.trans a)
        · obtain ⟨k', hk, w'⟩ := hn
          exact ⟨k', hk, μ', F', ρ', S', m2.trans (m3.trans m'), f2.trans (f3.trans f'), r, e, ag2.trans a, w'⟩
      | false =>
        simp only [Bool.false_eq_true, if_false] at q3 ⊢
        exact R.nx _ _ _ _ _ _ q3 (m2.trans m3) (f2.trans f3) r3 (e2.mono m3 f3) ag2
    · cases h
  | .raise_ _ _, st, h => PS.le ps_never fun D σ H ⟨hid, μ, F, ρ, S, E, Dp, A, R, q⟩ => q.elim
  | .pass, st, h => by
    have rd : ∀ D σ H, tS X.K cls E0 Γ .pass D σ H → tNext D σ H := by
      rintro D σ H ⟨hid, μ, F, ρ, S, E, Dp, A, R, q⟩
      exact R.nx _ _ _ _ _ _ q (Ext.refl _) (Same.refl _) A.sr A.env (Agree.refl _ _)
    unfold chkS at h
    split at h
    · exact PS.le ps_pass rd
    · exact PS.le ps_doc rd
    · cases h
  | .brk, st, h => by
    unfold chkS at h
    split at h
    · refine PS.le ps_break ?_
      rintro D σ H ⟨hid, μ, F, ρ, S, E, Dp, A, R, q⟩
      exact R.bk _ _ _ _ _ _ q (Ext.refl _) (Same.refl _) A.sr A.env (Agree.refl _ _)
    · cases h
  | .cont, st, h => by
    unfold chkS at h
    split at h
    · refine PS.le ps_continue ?_
      rintro D σ H ⟨hid, μ, F, ρ, S, E, Dp, A, R, q⟩
      exact R.ct _ _ _ _ _ _ q (Ext.refl _) (Same.refl _) A.sr A.env (Agree.refl _ _)
    · cases h
theorem sSs (O : SOk X C Γ cls E0) : ∀ (s : ISs) (sts : List Stmt), chkSs C s sts = true → PSs X sts (tSs X.K cls E0 Γ s)
  | .nil, sts, h => by
    have h' : sts.isEmpty = true := h
    cases sts with
    | cons _ _ => cases h'
    | nil =>
      refine PSs.le pss_nil ?_
      rintro D σ H ⟨hid, μ, F, ρ, S, E, Dp, A, R, q⟩
      exact R.nx _ _ _ _ _ _ q (Ext.refl _) (Same.refl _) A.sr A.env (Agree.refl _ _)
  | .cons s r, [], h => by cases h
  | .cons s r, st :: sts, h => by
    have h' : (chkS C s st && chkSs C r sts) = true := h
    rw [Bool.and_eq_true] at h'
    refine PSs.le (pss_cons (sS O s st h'.1) (sSs O r sts h'.2)) ?_
    rintro D σ H ⟨hid, μ, F, ρ, S, E, Dp, A, R, q⟩
    refine ⟨hid, μ, F, ρ, S, E, _, A, ?_, q⟩
    refine ⟨fun ρ' S' σ' H' μ' F' hn m' f' r e a => ?_, R.bk, R.ct, R.rt⟩
    exact ⟨hid, μ', F', ρ', S', E, Dp, A.re m' f' r e a, R.mono m' f' a, hn⟩
end
end
end PL
set_option maxRecDepth 100000
set_option maxHeartbeats 4000000
/-! PL1o: a def by its body; the law's end. -/
namespace PL
open PySem PySem.Spec PyProof.Rows L2

/-! ### a def's end -/
section
variable {K : PySem.W.Frag} {ca : CA} {μ μ' : List Addr} {F F' H : Hp} {S : Sto} {Q : VK}
mutual
theorem Rep.noref {μ' : List Addr} : ∀ (x : PV) (v : V), noRef x = true → Rep K ca μ F x v → Rep K ca μ' F x v
  | .non, v, _, h => h
  | .bl _, v, _, h => h
  | .int _, v, _, h => h
  | .str _, v, _, h => h
  | .tup xs, v, n, h => by
    obtain ⟨a, vs, e, q, r⟩ := h
    exact ⟨a, vs, e, q, RepL.noref xs vs n r⟩
  | .lst xs, v, n, h => by
    obtain ⟨a, vs, e, q, r⟩ := h
    exact ⟨a, vs, e, q, RepL.noref xs vs n r⟩
  | .scr xs, v, _, h => h
  | .dct kvs, v, n, h => by
    obtain ⟨a, ks, e, q, r⟩ := h
    exact ⟨a, ks, e, q, RepD.noref kvs ks n r⟩
  | .ins c fs, v, n, h => by
    obtain ⟨a, C, dx, vs, e, hc, q, r⟩ := h
    exact ⟨a, C, dx, vs, e, hc, q, RepF.noref fs vs n r⟩
  | .ref _, v, n, h => by cases n
  | .txt _, v, _, h => h
theorem RepL.noref {μ' : List Addr} : ∀ (xs : List PV) (vs : List V), noRefL xs = true → RepL K ca μ F xs vs → RepL K ca μ' F xs vs
  | [], vs, _, h => h
  | x :: xs, vs, n, h => by
    have n' : (noRef x && noRefL xs) = true := n
    rw [Bool.and_eq_true] at n'
    obtain ⟨v, r, e, q, t⟩ := h
    exact ⟨v, r, e, Rep.noref x v n'.1 q, RepL.noref xs r n'.2 t⟩
theorem RepD.noref {μ' : List Addr} : ∀ (xs : List (PV × PV)) (vs : List (Key × V)), noRefD xs = true → RepD K ca μ F xs vs → RepD K ca μ' F xs vs
  | [], vs, _, h => h
  | (k, x) :: xs, vs, n, h => by
    have n' : (noRef x && noRefD xs) = true := n
    rw [Bool.and_eq_true] at n'
    obtain ⟨kk, v, r, e, hk, q, t⟩ := h
    exact ⟨kk, v, r, e, hk, Rep.noref x v n'.1 q, RepD.noref xs r n'.2 t⟩
theorem RepF.noref {μ' : List Addr} : ∀ (xs : List (String × PV)) (vs : List (Str × V)), noRefF xs = true → RepF K ca μ F xs vs → RepF K ca μ' F xs vs
  | [], vs, _, h => h
  | (k, x) :: xs, vs, n, h => by
    have n' : (noRef x && noRefF xs) = true := n
    rw [Bool.and_eq_true] at n'
    obtain ⟨v, r, e, q, t⟩ := h
    exact ⟨v, r, e, Rep.noref x v n'.1 q, RepF.noref xs r n'.2 t⟩
end
/-- the objects made since are forgotten -/
theorem SR.take {m : Nat} (r : SR K ca μ F H S) (hn : (S.take m).all cellNR = true) : SR K ca (μ.take m) F H (S.take m) := by
  have at1 : ∀ (n : Nat) (c : Cell), (S.take m)[n]? = some c → S[n]? = some c ∧ cellNR c = true := fun n c e => by
    refine ⟨?_, List.all_eq_true.mp hn c (List.mem_of_getElem? e)⟩
    rw [List.getElem?_take] at e
    split at e
    · exact e
    · cases e
  have at2 : ∀ (n : Nat) (a : Addr), (μ.take m)[n]? = some a → μ[n]? = some a := fun n a e => by
    rw [List.getElem?_take] at e
    split at e
    · exact e
    · cases e
  refine ⟨r.sub, by rw [List.length_take, List.length_take, r.len], r.nd.sublist (List.take_sublist _ _), fun n a e => r.off n a (at2 n a e), fun n a xs e1 e2 => ?_, fun n a xs e1 e2 => ?_, fun n a c fs e1 e2 => ?_, fun p hp => ?_⟩
  · obtain ⟨h1, h2⟩ := at1 n _ e1
    obtain ⟨vs, g1, g2⟩ := r.lst n a xs h1 (at2 n a e2)
    exact ⟨vs, g1, RepL.noref xs vs h2 g2⟩
  · obtain ⟨h1, h2⟩ := at1 n _ e1
    obtain ⟨vs, g1, g2⟩ := r.dct n a xs h1 (at2 n a e2)
    exact ⟨vs, g1, RepD.noref xs vs h2 g2⟩
  · obtain ⟨h1, h2⟩ := at1 n _ e1
    obtain ⟨C, dx, vs, g0, g1, g2⟩ := r.ins n a c fs h1 (at2 n a e2)
    exact ⟨C, dx, vs, g0, g1, RepF.noref fs vs h2 g2⟩
  · obtain ⟨h1, h2, h3⟩ := r.hid p hp
    exact ⟨h1, h2, fun hm => h3 (List.mem_of_mem_take hm)⟩
/-- an object that no cell is any more is fixed -/
theorem SR.freeze {a : Addr} {o : HO} (r : SR K ca μ F H S) (ha : H a = some o) (hm : a ∉ μ) (hh : ∀ p ∈ ca.hid, p.1 ≠ a) (hF : F a = none) : SR K ca μ (upd F a o) H S := by
  have hs : Same F (upd F a o) := same_upd hF
  refine ⟨fun b u e => ?_, r.len, r.nd, fun n b e => ?_, fun n b xs e1 e2 => ?_, fun n b xs e1 e2 => ?_, fun n b c fs e1 e2 => ?_, fun q hq => ?_⟩
  · by_cases hb : b = a
    · subst hb; rw [upd_same] at e; cases e; exact ha
    · rw [upd_ne hb] at e; exact r.sub _ _ e
  · obtain ⟨h1, u, h2⟩ := r.off n b e
    have hne : b ≠ a := fun z => hm (by rw [← z]; exact List.mem_of_getElem? e)
    rw [upd_ne hne]
    exact ⟨h1, u, h2⟩
  · obtain ⟨vs, h1, h2⟩ := r.lst n b xs e1 e2
    exact ⟨vs, h1, RepL.mono (Ext.refl _) hs _ _ h2⟩
  · obtain ⟨vs, h1, h2⟩ := r.dct n b xs e1 e2
    exact ⟨vs, h1, RepD.mono (Ext.refl _) hs _ _ h2⟩
  · obtain ⟨C, dx, vs, h0, h1, h2⟩ := r.ins n b c fs e1 e2
    exact ⟨C, dx, vs, h0, h1, RepF.mono (Ext.refl _) hs _ _ h2⟩
  · obtain ⟨h1, h2, h3⟩ := r.hid q hq
    exact ⟨h1, by rw [upd_ne (hh q hq)]; exact h2, h3⟩
theorem ext_take {m : Nat} (hl : μ.length = m) (e : Ext μ μ') : Ext μ (μ'.take m) := fun n a h => by
  have hn : n < m := by rw [← hl]; exact (List.getElem?_eq_some_iff.mp h).1
  rw [List.getElem?_take, if_pos hn]
  exact e n a h
theorem drp_ok {m : Nat} {x : PV} {v : V} (hl : μ.length = m) (e : Ext μ μ') (f : Same F F') (r : SR K ca μ' F' H S) (q : Rep K ca μ' F' x v) (h : drp m x S (Kv K ca μ F Q)) : Q v H := by
  rcases h with h | ⟨h1, h2, h3⟩ | h
  · exact h v H μ' F' e f r q
  · exact h3 v H (μ'.take m) F' (ext_take hl e) f (r.take h2) (Rep.noref x v h1 q)
  · have off : ∀ {k : Nat} {a : Addr}, m ≤ k → μ'[k]? = some a → a ∉ μ'.take m := fun {k a} hk e1 hm => by
      obtain ⟨n, hn⟩ := List.mem_iff_getElem?.mp hm
      rw [List.getElem?_take] at hn
      split at hn
      · rename_i hlt
        have := nd_ix r.nd hn e1
        omega
      · cases hn
    have hidn : ∀ {k : Nat} {a : Addr}, μ'[k]? = some a → ∀ p ∈ ca.hid, p.1 ≠ a := fun {k a} e1 p hp z => (r.hid p hp).2.2 (z ▸ List.mem_of_getElem? e1)
    split at h
    · rename_i k
      obtain ⟨a, ha, ev⟩ := q
      subst ev
      obtain ⟨hF, _⟩ := r.off k a ha
      split at h
      · rename_i xs ek
        obtain ⟨h0, h1, h2, h3⟩ := h
        obtain ⟨vs, g1, g2⟩ := r.lst k a xs ek ha
        exact h3 _ H (μ'.take m) (upd F' a (.lst vs)) (ext_take hl e) (f.trans (same_upd hF)) ((r.take h2).freeze g1 (off h0 ha) (hidn ha) hF) ⟨a, vs, rfl, upd_same, RepL.noref xs vs h1 (RepL.mono (Ext.refl _) (same_upd hF) _ _ g2)⟩
      · rename_i xs ek
        obtain ⟨h0, h1, h2, h3⟩ := h
        obtain ⟨vs, g1, g2⟩ := r.dct k a xs ek ha
        exact h3 _ H (μ'.take m) (upd F' a (.dK vs)) (ext_take hl e) (f.trans (same_upd hF)) ((r.take h2).freeze g1 (off h0 ha) (hidn ha) hF) ⟨a, vs, rfl, upd_same, RepD.noref xs vs h1 (RepD.mono (Ext.refl _) (same_upd hF) _ _ g2)⟩
      · rename_i c xs ek
        obtain ⟨h0, h1, h2, h3⟩ := h
        obtain ⟨C, dx, vs, g0, g1, g2⟩ := r.ins k a c xs ek ha
        exact h3 _ H (μ'.take m) (upd F' a (.ins C dx vs)) (ext_take hl e) (f.trans (same_upd hF)) ((r.take h2).freeze g1 (off h0 ha) (hidn ha) hF) ⟨a, C, dx, vs, rfl, g0, upd_same, RepF.noref xs vs h1 (RepF.mono (Ext.refl _) (same_upd hF) _ _ g2)⟩
      · exact h.elim
    · exact h.elim
end

section
variable {P : Program} {w : World} {K : PySem.W.Frag} {mg : Str → Option Value} {base : Heap} {cls : Cls} {Γ : Ctx} {fs bl tn : List String} {kb : List Kp} {k : Nat}
theorem FnG.mono {j k : Nat} {f : Addr} {fd : FuncData} {ps : List Str} {sp : Sp} (F : FnG P w K mg base j f fd ps sp) (h : j ≤ k) : FnG P w K mg base k f fd ps sp :=
  ⟨F.len, fun A outer s H args us vs Q E hg hr => F.run A outer s H args us vs Q E hg (hr.mono h)⟩
theorem CallV.mono {j k : Nat} {x : String} {sp : Spec} (F : CallV P w K mg base cls kb j x sp) (h : j ≤ k) : CallV P w K mg base cls kb k x sp :=
  let ⟨f, fd, ps, h1, h2, h3, h4, h5⟩ := F
  ⟨f, fd, ps, h1, h2, h3, h4.mono h, h5⟩
/-- what is known of the module so far -/
structure Kn (P : Program) (w : World) (K : PySem.W.Frag) (mg : Str → Option Value) (base : Heap) (cls : Cls) (Γ : Ctx) (fs bl tn : List String) (kb : List Kp) (k : Nat) : Prop where
  m : MOk K mg cls Γ bl tn
  calls : ∀ f ∈ fs, ∃ sp, Γ.fn f = some sp ∧ CallV P w K mg base cls kb k f sp
theorem Kn.more {x : String} {sp : Spec} (Kk : Kn P w K mg base cls Γ fs bl tn kb k) (hx : Γ.fn x = some sp) (F : CallV P w K mg base cls kb (k + 1) x sp) : Kn P w K mg base cls Γ (x :: fs) bl tn kb (k + 1) :=
  ⟨Kk.m, fun f hf => by
    rcases List.mem_cons.mp hf with rfl | hf
    · exact ⟨sp, hx, F⟩
    · obtain ⟨sp', h1, h2⟩ := Kk.calls f hf
      exact ⟨sp', h1, h2.mono (Nat.le_succ _)⟩⟩
def whOf (E : XK) : Wh := ⟨fun c d _ H => E c d H, fun _ => true⟩
def defC (st : Stmt) (N : List Str) (bl fs tn : List String) (kb : List Kp) : SCx := ⟨L2.defScope st, N, fun _ => true, bl, fs, fun _ => true, tn, kb⟩
theorem start_env {μ : List Addr} {F : Hp} {hid : List (Addr × HO)} {xs : List PV} {vs : List V} (N : List Str) (h : RepL K ⟨cls, hid⟩ μ F xs vs) : EnvR K ⟨cls, hid⟩ μ F (PL.start N.length xs) (L2.start N vs) := by
  have hl := h.length
  refine ⟨by unfold PL.start L2.start; simp [hl], fun i v e => ?_⟩
  unfold PL.start at e
  by_cases hi : i < xs.length
  · rw [List.getElem?_append_left (by simpa using hi), List.getElem?_map] at e
    cases hx : xs[i]? with
    | none => rw [hx] at e; cases e
    | some x =>
      rw [hx] at e
      have e' : x = v := by simpa using e
      subst e'
      obtain ⟨u, h1, h2⟩ := h.get hx
      refine ⟨u, ?_, h2⟩
      unfold L2.start
      rw [List.getElem?_append_left (by rw [List.length_map, ← hl]; exact hi), List.getElem?_map, h1]
      rfl
  · rw [List.getElem?_append_right (by simpa using hi), List.getElem?_replicate] at e
    split at e <;> cases e
/-- the context of a def's body -/
theorem sok_of {st : Stmt} {N ps : List Str} {qual : Str} {f : Addr} {cdv : Value} {A : Around} {outer : List PySem.Env} {s : Shared} {H : Hp} {E : XK} (Kk : Kn P w K mg base cls Γ fs bl tn kb k) (Sc : FnScope N ps (L2.defScope st)) (hg : A.guards = some [])
    (hr : Room k (A.deeper (envOfC qual (L2.defScope st) s.heap.objs.size f cdv))) :
    SOk (cxOf (L2.CX P w) P w K mg base N qual (L2.defScope st) f cdv A outer s H E) (defC st N bl fs tn kb) Γ cls (whOf E) where
  x := {
    env := rfl
    N := rfl
    nd := Sc.nd
    calm := rfl
    fn := fun _ _ => rfl
    gd := hg
    un := by have := hr.un; show (A.deeper _).units + 65 < cLine; omega
    m := Kk.m
    calls := fun f hf => let ⟨sp, h1, h2⟩ := Kk.calls f hf; ⟨sp, k, h1, hr, h2⟩
    pass := fun σ pins H' s' e s'' I c => passes_call (W := fun cls d _ H => E cls d H) (takes_of rfl rfl rfl rfl) (fun _ _ _ _ h => h) pins σ H' s' e s'' I c }
  kind := Sc.kind
  own := passes_of rfl
  mt := fun _ _ => rfl

/-- a def of the text by its body -/
theorem fnG_of {x qual : Str} {st : Stmt} {f : Addr} {fd : FuncData} {N ps : List Str} {sp : Spec} {b : ISs} (F : L2.Fun K x qual st f fd) (Sc : FnScope N ps (L2.defScope st)) (Kk : Kn P w K mg base cls Γ fs bl tn kb k)
    (hc : chkSs (defC st N bl fs tn kb) b (L2.defBody st) = true) (hsp : ∀ xs S Q E, sp xs S Q E → xs.length = ps.length ∧ wBody Γ E b N.length xs S Q) : FnG P w K mg base (k + 1) f fd ps (liftS K cls sp) := by
  obtain ⟨oc, od, kV, doc, pm, an, cdv, ct, osl, rfl, lk, hcd⟩ := F.ex
  have len : ∀ vs H Q E, liftS K cls sp vs H Q E → vs.length = ps.length := fun vs H Q E ⟨hid, μ, F', S, xs, r, rl, q⟩ => by rw [← rl.length]; exact (hsp _ _ _ _ q).1
  refine ⟨len, fun A outer s H args us vs Q E hg hr e0 hb r h => ?_⟩
  have hl := len _ _ _ _ h
  have KX : K.In s.heap := e0.mod.kin.keeps fun b o e => (e0.bs b o e).1
  have lim : s.heap.NoLimit := e0.mod.nolimit.keeps fun b o e => (e0.bs b o e).1
  have hkind : ∀ y ∈ ps.zip us, (L2.defScope st).names.lookup y.1 = some .local ∨ ((L2.defScope st).names.lookup y.1 = some .cell ∧ ((cellsFrom (s.heap.objs.size + 1) (L2.defScope st).names []).lookup y.1).isSome = true) := fun ⟨n, v⟩ hy => by
    rcases Sc.par n (List.of_mem_zip hy).1 with q | q
    · exact .inl q
    · exact .inr ⟨q, PySem.W.cellsFrom_some _ _ _ (.inl q)⟩
  refine codeAny_call_function hr.depth (KX _ _ lk) rfl Sc.co Sc.gen rfl (PySem.W.codeRec_of KX hcd) (hb _ _ _ _ ?_)
  refine wpAny_newFunctionEnv_cells Sc.kind hkind fun env he s1 x => ?_
  subst he
  refine ⟨lim.keeps x.toInCall.keep, codeAny_func ?_⟩
  have O := sok_of (qual := qual) (f := f) (cdv := cdv) (outer := outer) (s := s) (H := H) (E := E) Kk Sc hg (hr.deeper _)
  have ht := sSs O b (L2.defBody st) hc
  have I : Inv (cxOf (L2.CX P w) P w K mg base N qual (L2.defScope st) f cdv A outer s H E) [] (L2.start N vs) H s1 := inv_start Sc hr.hd e0 hl r x
  obtain ⟨hid, μ, F', S, xs, r0, rl, q⟩ := h
  have q' := (hsp _ _ _ _ q).2
  have rd : tSs K cls (whOf E) Γ b { nx := fun _ H' => Q .non H', rt := Q } (L2.start N vs) H := by
    refine ⟨hid, μ, F', _, S, KvE K ⟨cls, hid⟩ μ F' E, _, ⟨r0, start_env N rl, fun _ _ e S' z => z⟩, ?_, q'⟩
    refine ⟨fun ρ' S' σ' H' μ' F2 h m' f' r e a => ?_, fun ρ' S' σ' H' μ' F2 h _ _ _ _ _ => h.elim, fun ρ' S' σ' H' μ' F2 h _ _ _ _ _ => h.elim, fun v S' h w' H' μ' F2 m' f' r rp => drp_ok r0.len m' f' r rp h⟩
    exact drp_ok (x := .non) (v := V.non) r0.len m' f' r rfl h
  refine wpAny_mono (ht.run [] s1 (L2.start N vs) H _ I rd) (fun fl s' hs => ?_) fun e s' hs => hs
  have fin : ∀ {σ' : L2.St} {H' : Hp} {v : V} {u : Value}, Inv (cxOf (L2.CX P w) P w K mg base N qual (L2.defScope st) f cdv A outer s H E) [] σ' H' s' → RelV v u → Q v H' → CE outer P w H s Q u s' :=
    fun {σ' H' v u} J rv q => ⟨v, H', J.os, J.bare, J.base, J.hok, rv, q⟩
  cases fl with
  | ret u =>
    obtain ⟨v, σ', H', J, rv, q⟩ := hs
    exact fin J rv q
  | next =>
    obtain ⟨σ', H', J, q⟩ := hs
    exact fin (v := V.non) (u := Value.none) J rfl q
  | brk =>
    obtain ⟨_, _, _, q⟩ := hs
    exact False.elim q
  | cont =>
    obtain ⟨_, _, _, q⟩ := hs
    exact False.elim q
/-- one more def is known -/
theorem Kn.step {x : String} {st : Stmt} {f : Addr} {fd : FuncData} {N ps : List Str} {sp : Spec} {b : ISs} (Kk : Kn P w K mg base cls Γ fs bl tn kb k) (hx : Γ.fn x = some sp) (F : L2.Fun K (Str.ofString x) (Str.ofString x) st f fd) (hm : mg (Str.ofString x) = some (.ref f)) (hb : Binds K fd ps [])
    (Sc : FnScope N ps (L2.defScope st)) (hc : chkSs (defC st N bl fs tn kb) b (L2.defBody st) = true) (hsp : ∀ xs S Q E, sp xs S Q E → xs.length = ps.length ∧ wBody Γ E b N.length xs S Q) (hkb : ∀ p ∈ kb, p.f = x → KBd K fd ps p) : Kn P w K mg base cls Γ (x :: fs) bl tn kb (k + 1) :=
  Kk.more hx ⟨f, fd, ps, hm, F.kp, hb, fnG_of F Sc Kk hc hsp, hkb⟩
end

/-! ### the law's end -/
theorem lawG_call {P : Program} {w : World} {K : PySem.W.Frag} {mg mb : Str → Option Value} {k : Nat} {fa a : Addr} {fd : FuncData} {x : Str} {cls : Cls} {sp : Spec} {s₁ : Shared} {vs : List Value} {ns : List Int}
    (KX : K.In s₁.heap) (hns : s₁.heap.Ns mainGlobals mg) (hb : s₁.heap.Ns builtinsNs mb) (hbb : ∀ x : Str, x ≠ "__name__" → mb x = bootBuiltins x) (hlim : s₁.heap.NoLimit) (hg : s₁.gens = #[])
    (ha : s₁.heap.get? a = some { cls := .type "list", data := .seq vs.toArray }) (hi : IntsAre vs ns) (hl : ns.length ≤ sizeLine) (hr : Room k callerA)
    (F : ∀ base : Heap, K.In base → base.Ns mainGlobals mg → FnG P w K mg base k fa fd [x] (liftS K cls sp)) (hbind : ∀ (s : Shared) (u : Value), BindsTo s fd ⟨[u], []⟩ [(x, u)])
    (hsp : ∀ (Q : K1) (E : XP), (∀ S', Q (.bl true) S') → sp [.scr ns] [] Q E) :
    codeAny (model P w) callerA (.call (.ref fa) ⟨[.ref a], []⟩) (fun r s' => r = .ok (.ret (.bool true)) ∧ OldK s₁.heap s'.heap ∧ s'.os = s₁.os ∧ AllBare s'.gens) s₁ := by
  have rv := vals_ints hi
  have lenV := hi.length
  have core : ∀ H : Hp, Only H → SqL K H a (ns.map V.int) → HOk P w H s₁.heap → (∀ b, H b ≠ none → b = a) → (H a ≠ none → K.lookup a = none) →
      codeAny (model P w) callerA (.call (.ref fa) ⟨[.ref a], []⟩) (fun r s' => r = .ok (.ret (.bool true)) ∧ OldK s₁.heap s'.heap ∧ s'.os = s₁.os ∧ AllBare s'.gens) s₁ := by
    intro H hO hS hok hA hK
    have noA : ∀ {b : Addr} {o : Obj} {es : Array DictEntry} {ep : Nat}, s₁.heap.get? b = some o → o.data = .dict es ep → H b = none := fun {b o es ep} e d => by
      cases q : H b with
      | none => rfl
      | some u =>
        have e' : b = a := hA b (by rw [q]; simp)
        subst e'
        rw [ha] at e; cases e
        have d' : Data.seq vs.toArray _ = Data.dict es ep := d
        cases d'
    have nsK : ∀ {b : Addr} {m : Str → Option Value}, s₁.heap.Ns b m → (hidT s₁.heap H).Ns b m := fun {b m} ⟨o, es, ep, e, d, r⟩ => ⟨o, es, ep, hidT_get e (noA e d), d, r⟩
    have hKb : K.In (hidT s₁.heap H) := fun b o e => hidT_get (KX b o e) (by
      cases q : H b with
      | none => rfl
      | some u =>
        have e' : b = a := hA b (by rw [q]; simp)
        subst e'
        rw [hK (by rw [q]; simp)] at e; cases e)
    have hM : Mod K mg (hidT s₁.heap H) := ⟨hKb, nsK hns, ⟨mb, nsK hb, hbb⟩, let ⟨mc, h1, h2⟩ := hlim; ⟨mc, nsK h1, h2⟩⟩
    have e0 : Env0 P w K mg (hidT s₁.heap H) callerA [] s₁ H := ⟨rfl, hM, fun b o e => of_hidT e, Nat.le_of_eq (hidT_size _ _), trivial, fun b hb => absurd (show b ∈ ([] : List Addr) from hb) (by simp), hok, .of_eq hg⟩
    have hS0 : SR K ⟨cls, []⟩ [] H H [] := ⟨Same.refl _, rfl, List.nodup_nil, fun n a e => (by cases e), fun n a xs e => (by cases e), fun n a xs e => (by cases e), fun n a c fs e => (by cases e), fun p hp => (by cases hp)⟩
    have prom : liftS K cls sp [V.ref a] H (fun v _ => v = .bl true) (fun _ _ _ => False) :=
      ⟨[], [], H, [], [.scr ns], hS0, ⟨V.ref a, [], rfl, ⟨a, rfl, hS⟩, rfl⟩, hsp _ _ fun S' v H' μ' F' _ _ _ r => r⟩
    refine codeAny_mono ((F _ hKb (nsK hns)).run callerA [] s₁ H ⟨[.ref a], []⟩ [.ref a] [.ref a] _ _ rfl hr e0 (hbind s₁ (.ref a)) (.cons rfl .nil) prom) fun r s' h => ?_
    cases r with
    | error e =>
      obtain ⟨_, _, _, _, _, _, _, _, _, _, _, _, z⟩ := h
      exact z.elim
    | ok fl =>
      cases fl with
      | next => exact False.elim h
      | brk => exact False.elim h
      | cont => exact False.elim h
      | ret u =>
        obtain ⟨v, H', os, bare, un, hok', r', q⟩ := h
        have q' : v = .bl true := q
        subst q'
        obtain rfl : u = Value.bool true := r'
        refine ⟨rfl, OldK.of_keep fun b o e => ?_, os, bare⟩
        cases q : H b with
        | none => exact un.keep b o e q (by intro z; exact absurd (show b ∈ ([] : List Addr) from z) (by simp)) (by simp)
        | some u =>
          rcases hO b with z | ⟨ob, xs, z⟩
          · rw [q] at z; cases z
          · obtain ⟨e1, _⟩ := hok b _ z
            obtain ⟨e2, _⟩ := hok' b _ (un.frzs b ob _ z)
            rw [e] at e1; cases e1
            exact e2
  cases hk : K.lookup a with
  | some o =>
    have e := KX a o hk
    rw [ha] at e
    cases e
    refine core (fun _ => none) (fun _ => .inl rfl) (.inr ⟨_, vs.toArray, _, hk, rfl, rfl, rfl, by rw [List.size_toArray, lenV]; exact hl, by simpa using rv⟩) (fun b u z => by have z' : (none : Option HO) = some u := z; cases z') (fun b z => absurd rfl z) fun z => absurd rfl z
  | none =>
    refine core (fun b => if b = a then some (.frz { cls := .type "list", data := .seq vs.toArray } (.lst (ns.map V.int))) else none) (fun b => ?_) (.inl (.inr ⟨{ cls := .type "list", data := .seq vs.toArray }, if_pos rfl⟩)) (fun b u z => ?_) (fun b z => ?_) fun _ => hk
    · by_cases hb : b = a
      · exact .inr ⟨_, _, if_pos hb⟩
      · exact .inl (if_neg hb)
    · by_cases hb : b = a
      · have z' := (if_pos hb).symm.trans z
        cases z'
        subst hb
        exact ⟨ha, by rw [List.length_map]; exact hl, vs, _, rv, ha⟩
      · have z' := (if_neg hb).symm.trans z
        cases z'
    · by_cases hb : b = a
      · exact hb
      · exact absurd (if_neg hb) z
theorem walkG {l : PySem.W.OpenLaw} {n k : Nat} {q : Program} {loose : List Str} {XP : (Str → Option Value) → Heap → Prop} {YP : World → Heap → Prop} {d : DefRec} {K : Params → PySem.W.Frag} {x : Str}
    (hn : l.most = some n) (hn2 : n ≤ sizeLine) (hdf : d.params.defaults = []) (hr : Room k callerA)
    (hY : ∀ (w : World) (h : Heap), YP w h → (K w.params).In h)
    (F : ∀ (w : World) (mg : Str → Option Value) (fa : Addr) (h : Heap), (K w.params).In h → h.Ns mainGlobals mg → mg d.name = some (.ref fa) →
      ∃ (fd : FuncData) (cls : Cls) (sp : Spec), (∀ (s : Shared) (u : Value), BindsTo s fd ⟨[u], []⟩ [(x, u)]) ∧ (∀ (ns : List Int), ns.length ≤ n → (∀ z ∈ ns, z.natAbs.log2 < 1048576) → ∀ (Q : K1) (E : PL.XP), (∀ S', Q (.bl true) S') → sp [.scr ns] [] Q E) ∧
        ∀ base : Heap, (K w.params).In base → base.Ns mainGlobals mg → FnG l.prog w (K w.params) mg base k fa fd [x] (liftS (K w.params) cls sp)) :
    PySem.W.WalkO q loose XP YP l.row.toRowW d [] (fun f vs => PySem.call f vs) := by
  refine Att.attach_callB hn hdf fun w s₀ s₁ mg mb fa o pm cd doc a vs ns G Y ho hd hcd hmg hobj hints hlen hbits hg => ?_
  have KX := hY w _ Y
  obtain ⟨fd, cls, sp, hb, hs, hF⟩ := F w mg fa _ KX G.T.g hmg
  exact lawG_call KX G.T.g G.T.b G.T.builtins G.T.nolimit hg hobj hints (Nat.le_trans hlen hn2) hr hF hb (hs ns hlen fun z hz => by
    have h := hbits z hz
    unfold Builtin.Int.intBits at h
    split at h
    · rename_i e
      have e' : z = 0 := by simpa using e
      subst e'
      decide
    · omega)
end PL
set_option maxRecDepth 100000
set_option maxHeartbeats 4000000
/-! PLm: plain tools: what follows a statement may be weakened; loops; comprehensions. -/
namespace PL
structure Ends.Le (D D' : Ends) : Prop where
  nx : ∀ ρ S, D.nx ρ S → D'.nx ρ S
  rt : ∀ v S, D.rt v S → D'.rt v S
  bk : ∀ ρ S, D.bk ρ S → D'.bk ρ S
  ct : ∀ ρ S, D.ct ρ S → D'.ct ρ S
theorem Ends.Le.refl (D : Ends) : D.Le D := ⟨fun _ _ h => h, fun _ _ h => h, fun _ _ h => h, fun _ _ h => h⟩
theorem wSet_mono {S : Sto} {o i v : PV} {k k' : Sto → Prop} (h : wSet S o i v k) (g : ∀ S', k S' → k' S') : wSet S o i v k' := by
  unfold wSet at h ⊢
  split at h
  · obtain ⟨xs, j, h1, h2, h3⟩ := h
    exact ⟨xs, j, h1, h2, g _ h3⟩
  · exact h.elim
theorem wFor_mono {g : Sto → Prop} {a : PV → Env → (Env → Prop) → Prop} {body : Ends → Env → Sto → Prop} {D D' : Ends} (hD : D.Le D') (ha : ∀ x ρ k k', a x ρ k → (∀ ρ', k ρ' → k' ρ') → a x ρ k') (hb : ∀ D1 D2 ρ S, D1.Le D2 → body D1 ρ S → body D2 ρ S) :
    ∀ (xs : List PV) (ρ : Env) (S : Sto), wFor g a body D xs ρ S → wFor g a body D' xs ρ S
  | [], ρ, S, h => ⟨h.1, hD.nx _ _ h.2⟩
  | x :: r, ρ, S, h => ⟨h.1, ha _ _ _ _ h.2 fun ρ1 h1 => hb ⟨wFor g a body D r, D.rt, D.nx, wFor g a body D r⟩ ⟨wFor g a body D' r, D'.rt, D'.nx, wFor g a body D' r⟩ _ _ ⟨fun ρ' S' => wFor_mono hD ha hb r ρ' S', hD.rt, hD.nx, fun ρ' S' => wFor_mono hD ha hb r ρ' S'⟩ h1⟩
section
variable {Γ : Ctx} (hΓ : Γ.Mono) {E : XP}
include hΓ
mutual
theorem wS_mono : ∀ (s : IS) (D D' : Ends) (ρ : Env) (S : Sto), D.Le D' → wS Γ E s D ρ S → wS Γ E s D' ρ S
  | .set i e, D, D', ρ, S, l, h => wE_mono hΓ e E ρ S _ _ h fun v S1 h1 => l.nx _ _ h1
  | .unp p e, D, D', ρ, S, l, h => wE_mono hΓ e E ρ S _ _ h fun v S1 h1 => asg_mono h1 fun ρ' h2 => l.nx _ _ h2
  | .par2 i j a b, D, D', ρ, S, l, h => wE_mono hΓ a E ρ S _ _ h fun x S1 h1 => wE_mono hΓ b E ρ S1 _ _ h1 fun y S2 h2 => l.nx _ _ h2
  | .par3 i j k a b c, D, D', ρ, S, l, h => wE_mono hΓ a E ρ S _ _ h fun x S1 h1 => wE_mono hΓ b E ρ S1 _ _ h1 fun y S2 h2 => wE_mono hΓ c E ρ S2 _ _ h2 fun z S3 h3 => l.nx _ _ h3
  | .setix o i e, D, D', ρ, S, l, h => wE_mono hΓ e E ρ S _ _ h fun v S1 h1 => wE_mono hΓ o E ρ S1 _ _ h1 fun x S2 h2 => wE_mono hΓ i E ρ S2 _ _ h2 fun y S3 h3 => wSet_mono h3 fun S' h4 => l.nx _ _ h4
  | .unpix o i j e, D, D', ρ, S, l, h => wE_mono hΓ e E ρ S _ _ h fun v S1 h1 => by
      split at h1
      · exact wE_mono hΓ o E ρ S1 _ _ h1 fun x S2 h2 => wE_mono hΓ i E ρ S2 _ _ h2 fun y S3 h3 => wSet_mono h3 fun S' h4 => l.nx _ _ h4
      · exact h1.elim
  | .ex e, D, D', ρ, S, l, h => wE_mono hΓ e E ρ S _ _ h fun v S1 h1 => l.nx _ _ h1
  | .ret e, D, D', ρ, S, l, h => wE_mono hΓ e E ρ S _ _ h fun v S1 h1 => l.rt _ _ h1
  | .retn, D, D', ρ, S, l, h => l.rt _ _ h
  | .ite c a b, D, D', ρ, S, l, h => wT_mono hΓ c E ρ S _ _ h fun k S1 h1 => by
      cases k with
      | true => simp only [if_true] at h1 ⊢; exact wSs_mono a D D' ρ S1 l h1
      | false => simp only [Bool.false_eq_true, if_false] at h1 ⊢; exact wSs_mono b D D' ρ S1 l h1
  | .for_ p it b, D, D', ρ, S, l, h => wIt_mono hΓ it E ρ S _ _ h fun xs g S1 h1 =>
      wFor_mono (g := g) (a := fun x ρ' k => asg p x ρ' k) (body := fun D' ρ' S' => wSs Γ E b D' ρ' S') l (fun x ρ k k' h g => asg_mono h g) (fun D1 D2 ρ S l' h => wSs_mono b D1 D2 ρ S l' h) xs ρ S1 h1
  | .while_ c b, D, D', ρ, S, l, h => by
    obtain ⟨W, h0, h1⟩ := h
    refine ⟨W, h0, fun m ρ S w => wT_mono hΓ c E ρ S _ _ (h1 m ρ S w) fun k S1 h2 => ?_⟩
    cases k with
    | true =>
      simp only [if_true] at h2 ⊢
      exact wSs_mono b ⟨fun ρ' S' => ∃ m', m' < m ∧ W m' ρ' S', D.rt, D.nx, fun ρ' S' => ∃ m', m' < m ∧ W m' ρ' S'⟩ ⟨fun ρ' S' => ∃ m', m' < m ∧ W m' ρ' S', D'.rt, D'.nx, fun ρ' S' => ∃ m', m' < m ∧ W m' ρ' S'⟩ ρ S1 ⟨fun _ _ h => h, l.rt, l.nx, fun _ _ h => h⟩ h2
    | false =>
      simp only [Bool.false_eq_true, if_false] at h2 ⊢
      exact l.nx _ _ h2
  | .raise_ _ _, D, D', ρ, S, l, h => h
  | .pass, D, D', ρ, S, l, h => l.nx _ _ h
  | .brk, D, D', ρ, S, l, h => l.bk _ _ h
  | .cont, D, D', ρ, S, l, h => l.ct _ _ h
theorem wSs_mono : ∀ (s : ISs) (D D' : Ends) (ρ : Env) (S : Sto), D.Le D' → wSs Γ E s D ρ S → wSs Γ E s D' ρ S
  | .nil, D, D', ρ, S, l, h => l.nx _ _ h
  | .cons s r, D, D', ρ, S, l, h => wS_mono s { D with nx := fun ρ1 S1 => wSs Γ E r D ρ1 S1 } { D' with nx := fun ρ1 S1 => wSs Γ E r D' ρ1 S1 } ρ S ⟨fun ρ1 S1 h1 => wSs_mono r D D' ρ1 S1 l h1, l.rt, l.bk, l.ct⟩ h
end
end
/-- a for's loop, by what is true ahead of each turn -/
theorem wFor_ind {Γ : Ctx} (hΓ : Γ.Mono) {E : XP} {g : Sto → Prop} {p : Pt} {b : ISs} {D : Ends} (I : List PV → Env → Sto → Prop) (hg : ∀ r ρ S, I r ρ S → g S)
    (hs : ∀ x r ρ S, I (x :: r) ρ S → asg p x ρ fun ρ1 => wSs Γ E b ⟨I r, D.rt, D.nx, I r⟩ ρ1 S) (hd : ∀ ρ S, I [] ρ S → D.nx ρ S) :
    ∀ (xs : List PV) (ρ : Env) (S : Sto), I xs ρ S → wFor g (fun x ρ' k => asg p x ρ' k) (fun D' ρ' S' => wSs Γ E b D' ρ' S') D xs ρ S
  | [], ρ, S, h => ⟨hg _ _ _ h, hd _ _ h⟩
  | x :: r, ρ, S, h => ⟨hg _ _ _ h, asg_mono (hs x r ρ S h) fun ρ1 h1 => wSs_mono hΓ b ⟨I r, D.rt, D.nx, I r⟩ _ ρ1 S ⟨fun ρ' S' h' => wFor_ind hΓ I hg hs hd r ρ' S' h', fun _ _ h => h, fun _ _ h => h, fun ρ' S' h' => wFor_ind hΓ I hg hs hd r ρ' S' h'⟩ h1⟩
/-- a comprehension whose body changes nothing: which items give which values -/
theorem wComp_pure {m : Bool} {g : Sto → Prop} {a : PV → (Env → Prop) → Prop} {c : Env → Sto → KB → Prop} {e : Env → Sto → K1 → Prop} {Q : K1} {S : Sto} (f : PV → Option PV) (hg : g S) :
    ∀ (xs acc : List PV), (∀ x ∈ xs, ∀ (K1 : PV → Sto → Prop) (K0 : Sto → Prop), (match f x with | some y => K1 y S | none => K0 S) → a x fun ρ => c ρ S fun b S1 => if b = true then e ρ S1 K1 else K0 S1) →
      wNew m S (acc ++ xs.filterMap f) Q → wComp m g a c e Q xs acc S
  | [], acc, h, q => ⟨hg, by simpa using q⟩
  | x :: r, acc, h, q => by
    refine ⟨hg, h x List.mem_cons_self _ _ ?_⟩
    rw [List.filterMap_cons] at q
    cases hf : f x with
    | none =>
      rw [hf] at q
      exact wComp_pure f hg r acc (fun y hy => h y (List.mem_cons_of_mem _ hy)) q
    | some y =>
      rw [hf] at q
      exact wComp_pure f hg r (acc ++ [y]) (fun y hy => h y (List.mem_cons_of_mem _ hy)) (by rw [List.append_assoc]; exact q)
/-- .. without a test -/
theorem wComp_map {m : Bool} {g : Sto → Prop} {a : PV → (Env → Prop) → Prop} {e : Env → Sto → K1 → Prop} {Q : K1} {S : Sto} {Γ : Ctx} {E : XP} (f : PV → PV) (hg : g S) (xs : List PV)
    (h : ∀ x ∈ xs, ∀ (K1 : PV → Sto → Prop), K1 (f x) S → a x fun ρ => e ρ S K1) (q : wNew m S (xs.map f) Q) : wComp m g a (fun ρ' S' k => wC Γ E .none ρ' S' k) e Q xs [] S := by
  refine wComp_pure (fun x => some (f x)) hg xs [] (fun x hx K1 K0 k => ?_) (by simpa using q)
  have := h x hx K1 k
  exact this
end PL
set_option maxRecDepth 100000
set_option maxHeartbeats 4000000
/-! PLs: plain facts by rewriting. -/
namespace PL
/-- classes of the language: one below another -/
def subB (a b : String) : Option Bool := if tyB.contains a && ["bool", "int", "str", "tuple", "list", "dict"].contains b then some (a == b || (a == "bool" && b == "int")) else none
theorem subB_ok {K : PySem.W.Frag} {a b : String} {r : Bool} (h : subB a b = some r) : PySem.W.kitOne K (.type a) (.type b) = some r := by
  refine L2.kit_ty ?_
  have key : ∀ a ∈ tyB, ∀ b ∈ ["bool", "int", "str", "tuple", "list", "dict"], L2.kitB a b = some (a == b || (a == "bool" && b == "int")) := by decide +kernel
  unfold subB at h
  split at h
  · rename_i hc
    rw [Bool.and_eq_true] at hc
    rw [← Option.some.inj h]
    exact key a (by simpa using hc.1) b (by simpa using hc.2)
  · cases h
section
variable {S : Sto} {Q : K1} {k : Bool → Prop}
theorem wNew_false {xs : List PV} : wNew false S xs Q = Q (.lst xs) S := rfl
theorem wNew_true {xs : List PV} : wNew true S xs Q = Q (.ref S.length) (S ++ [.lst xs]) := rfl
theorem drf_non : drf S .non = .non := rfl
theorem drf_bl {b} : drf S (.bl b) = .bl b := rfl
theorem drf_i {i} : drf S (.int i) = .int i := rfl
theorem drf_s {s} : drf S (.str s) = .str s := rfl
theorem drf_t {xs} : drf S (.tup xs) = .tup xs := rfl
theorem drf_l {xs} : drf S (.lst xs) = .lst xs := rfl
theorem drf_c {xs} : drf S (.scr xs) = .scr xs := rfl
theorem drf_d {xs} : drf S (.dct xs) = .dct xs := rfl
theorem drf_n {c xs} : drf S (.ins c xs) = .ins c xs := rfl
theorem drf_x {x} : drf S (.txt x) = .txt x := rfl
theorem drf_r {n} : drf S (.ref n) = drfC n S[n]? := rfl
theorem drfC_l {n xs} : drfC n (some (.lst xs)) = .lst xs := rfl
theorem drfC_d {n xs} : drfC n (some (.dct xs)) = .dct xs := rfl
theorem drfC_n {n c xs} : drfC n (some (.ins c xs)) = .ins c xs := rfl
theorem tr_b {b} : truth S (.bl b) = some b := rfl
theorem tr_i {i} : truth S (.int i) = some (i != 0) := rfl
theorem tr_s {s} : truth S (.str s) = some (!s.isEmpty) := rfl
theorem tr_n : truth S .non = some false := rfl
theorem tr_l {s} : truth S (.lst s) = some (!s.isEmpty) := rfl
theorem tr_t {s} : truth S (.tup s) = some (!s.isEmpty) := rfl
theorem ty_non : tyN S .non = some "NoneType" := rfl
theorem ty_bl {b} : tyN S (.bl b) = some "bool" := rfl
theorem ty_i {i} : tyN S (.int i) = some "int" := rfl
theorem ty_s {s} : tyN S (.str s) = some "str" := rfl
theorem ty_t {xs} : tyN S (.tup xs) = some "tuple" := rfl
theorem ty_l {xs} : tyN S (.lst xs) = some "list" := rfl
theorem ty_c {xs} : tyN S (.scr xs) = some "list" := rfl
theorem ty_d {xs} : tyN S (.dct xs) = some "dict" := rfl
theorem ty_n {c xs} : tyN S (.ins c xs) = some c := rfl
theorem bin_add {x y} : wBin .add S x y Q = wAdd S (drf S x) (drf S y) Q := rfl
theorem bin_sub {x y} : wBin .sub S x y Q = wSub S x y Q := rfl
theorem bin_mul {x y} : wBin .mul S x y Q = wMul S (drf S x) y Q := rfl
theorem bin_fdiv {x y} : wBin .fdiv S x y Q = wFdiv S x y Q := rfl
theorem bin_mod {x y} : wBin .mod S x y Q = wMod S x y Q := rfl
theorem bin_pow {x y} : wBin .pow S x y Q = wPow S x y Q := rfl
theorem add_i {i j} : wAdd S (.int i) (.int j) Q = Q (.int (i + j)) S := rfl
theorem add_s {a b} : wAdd S (.str a) (.str b) Q = (a.length + b.length ≤ line ∧ Q (.str (a ++ b)) S) := rfl
theorem add_l {a b} : wAdd S (.lst a) (.lst b) Q = (a.length + b.length ≤ line ∧ Q (.lst (a ++ b)) S) := rfl
theorem add_t {a b} : wAdd S (.tup a) (.tup b) Q = (a.length + b.length ≤ line ∧ Q (.tup (a ++ b)) S) := rfl
theorem sub_i {i j} : wSub S (.int i) (.int j) Q = Q (.int (i - j)) S := rfl
theorem mul_i {i j} : wMul S (.int i) (.int j) Q = (i.natAbs.log2 + j.natAbs.log2 < 100000000 ∧ Q (.int (i * j)) S) := rfl
theorem mul_l {a j} : wMul S (.lst a) (.int j) Q = (j < 1000000 ∧ -1000000 < j ∧ a.length * j.toNat ≤ line ∧ Q (.lst (List.replicate j.toNat a).flatten) S) := rfl
theorem fdiv_i {i j} : wFdiv S (.int i) (.int j) Q = (0 < j ∧ j.natAbs.log2 < 9000 ∧ Q (.int (i / j)) S) := rfl
theorem mod_i {i j} : wMod S (.int i) (.int j) Q = (0 < j ∧ Q (.int (i % j)) S) := rfl
theorem pow_i {i j} : wPow S (.int i) (.int j) Q = (0 ≤ j ∧ j ≤ 1000000 ∧ i.natAbs < 2 ^ 64 ∧ Q (.int (i ^ j.toNat)) S) := rfl
theorem neg_i {i} : wNeg S (.int i) Q = Q (.int (-i)) S := rfl
theorem c_eq {x y} : wCmpB .eq S x y k = eqW (drf S x) (drf S y) k := rfl
theorem c_ne {x y} : wCmpB .ne S x y k = eqW (drf S x) (drf S y) fun b => k (!b) := rfl
theorem c_lt {x y} : wCmpB .lt S x y k = wLt x y k := rfl
theorem c_gt {x y} : wCmpB .gt S x y k = wLt y x k := rfl
theorem c_le {x y} : wCmpB .le S x y k = wLt y x fun b => k (!b) := rfl
theorem c_ge {x y} : wCmpB .ge S x y k = wLt x y fun b => k (!b) := rfl
theorem c_in {x y} : wCmpB .in_ S x y k = wIn S (drf S x) (drf S y) k := rfl
theorem c_nin {x y} : wCmpB .nin S x y k = wIn S (drf S x) (drf S y) fun b => k (!b) := rfl
theorem c_is {x y} : wCmpB .is_ S x y k = wIs x y k := rfl
theorem c_isn {x y} : wCmpB .isn S x y k = wIs x y fun b => k (!b) := rfl
theorem lt_i {i j} : wLt (.int i) (.int j) k = k (decide (i < j)) := rfl
theorem lt_s {i j} : wLt (.str i) (.str j) k = k (ltS i j) := rfl
theorem eq_i {i j} : eqW (.int i) (.int j) k = k (i == j) := propext ⟨fun h => h.2.2, fun h => ⟨rfl, rfl, h⟩⟩
theorem eq_s {i j} : eqW (.str i) (.str j) k = k (i == j) := propext ⟨fun h => h.2.2, fun h => ⟨rfl, rfl, h⟩⟩
theorem eq_b {i j} : eqW (.bl i) (.bl j) k = k (i == j) := propext ⟨fun h => h.2.2, fun h => ⟨rfl, rfl, h⟩⟩
theorem eq_sn {i} : eqW (.str i) .non k = k false := propext ⟨fun h => h.2.2, fun h => ⟨rfl, rfl, h⟩⟩
theorem eq_l {i j} : eqW (.lst i) (.lst j) k = (okData (.lst i) = true ∧ okData (.lst j) = true ∧ k (eqvL i j)) := rfl
theorem eq_t {i j} : eqW (.tup i) (.tup j) k = (okData (.tup i) = true ∧ okData (.tup j) = true ∧ k (eqvL i j)) := rfl
theorem eq_lt {i j} : eqW (.lst i) (.tup j) k = (okData (.lst i) = true ∧ okData (.tup j) = true ∧ k false) := rfl
theorem in_s {c s} : wIn S (.str [c]) (.str s) k = k (decide (c ∈ s)) := rfl
theorem in_l {x ys} : wIn S x (.lst ys) k = (inOk x ys ∧ k (ys.any fun z => eqv z x)) := by cases x <;> rfl
theorem in_t {x ys} : wIn S x (.tup ys) k = ((flat x = true ∧ ys.all flat = true) ∧ k (ys.any fun z => eqv z x)) := by cases x <;> rfl
theorem is_nn : wIs .non .non k = k true := rfl
theorem is_bb {a b} : wIs (.bl a) (.bl b) k = k (a == b) := rfl
theorem is_sn {a} : wIs (.str a) .non k = k false := rfl
theorem is_in {a} : wIs (.int a) .non k = k false := rfl
theorem is_tn {a} : wIs (.tup a) .non k = k false := rfl
theorem is_ln {a} : wIs (.lst a) .non k = k false := rfl
theorem is_on {c a} : wIs (.ins c a) .non k = k false := rfl
theorem ix_l {i xs} : wIx S (.int i) (.lst xs) Q = ∃ v, (ixN xs.length i).bind (xs[·]?) = some v ∧ Q v S := rfl
theorem ix_t {i xs} : wIx S (.int i) (.tup xs) Q = ∃ v, (ixN xs.length i).bind (xs[·]?) = some v ∧ Q v S := rfl
theorem ix_c {i xs} : wIx S (.int i) (.scr xs) Q = ∃ v, (ixN xs.length i).bind (xs[·]?) = some v ∧ Q (.int v) S := rfl
theorem ix_s {i xs} : wIx S (.int i) (.str xs) Q = ∃ v, (ixN xs.length i).bind (xs[·]?) = some v ∧ Q (.str [v]) S := rfl
theorem ix_d {i xs} : wIx S i (.dct xs) Q = (keyOk i = true ∧ ∃ v, dget xs i = some v ∧ Q v S) := rfl
theorem sl_l {lo hi xs} : wSl S lo hi (.lst xs) Q = Q (.lst (cut xs lo hi)) S := rfl
theorem sl_t {lo hi xs} : wSl S lo hi (.tup xs) Q = Q (.tup (cut xs lo hi)) S := rfl
theorem sl_c {lo hi xs} : wSl S lo hi (.scr xs) Q = Q (.lst ((cut xs lo hi).map .int)) S := rfl
theorem sl_s {lo hi xs} : wSl S lo hi (.str xs) Q = Q (.str (cut xs lo hi)) S := rfl
theorem rev_s {xs} : wRev S (.str xs) Q = Q (.str xs.reverse) S := rfl
theorem bi_len {m x} : wBi m .len S [x] Q = wLen S (drf S x) Q := rfl
theorem bi_int {m i} : wBi m .int_ S [.int i] Q = Q (.int i) S := rfl
theorem bi_intb {m b} : wBi m .int_ S [.bl b] Q = Q (.int (if b then 1 else 0)) S := rfl
theorem bi_abs {m i} : wBi m .abs S [.int i] Q = Q (.int (if i < 0 then -i else i)) S := rfl
theorem bi_min2 {m i j} : wBi m .min S [.int i, .int j] Q = Q (.int (if j < i then j else i)) S := rfl
theorem bi_max2 {m i j} : wBi m .max S [.int i, .int j] Q = Q (.int (if j > i then j else i)) S := rfl
theorem bi_sum {m x} : wBi m .sum S [x] Q = match drf S x with | .lst xs => ∃ ns, ints? xs = some ns ∧ Q (.int ns.sum) S | _ => False := rfl
theorem bi_sumL {m xs} : wBi m .sum S [.lst xs] Q = ∃ ns, ints? xs = some ns ∧ Q (.int ns.sum) S := rfl
theorem bi_anyL {m xs} : wBi m .any S [.lst xs] Q = ∃ ns, bools? xs = some ns ∧ Q (.bl (ns.any id)) S := rfl
theorem bi_allL {m xs} : wBi m .all S [.lst xs] Q = ∃ ns, bools? xs = some ns ∧ Q (.bl (ns.all id)) S := rfl
theorem bi_sorted {m x} : wBi m .sorted S [x] Q = wSorted m S (drf S x) Q := rfl
theorem bi_list {m x} : wBi m .list S [x] Q = wList m S (drf S x) Q := rfl
theorem bi_tuple {m x} : wBi m .tuple S [x] Q = wTuple S (drf S x) Q := rfl
theorem bi_repr {m x} : wBi m .repr S [x] Q = (okData (drf S x) = true ∧ rok (drf S x) = true ∧ rsz (drf S x) ≤ line ∧ Q (.txt (drf S x)) S) := rfl
theorem bi_divmod {m i j} : wBi m .divmod S [.int i, .int j] Q = (0 < j ∧ j < 1073741824 ∧ Q (.tup [.int (i / j), .int (i % j)]) S) := rfl
theorem len_s {s} : wLen S (.str s) Q = Q (.int s.length) S := rfl
theorem len_l {s} : wLen S (.lst s) Q = Q (.int s.length) S := rfl
theorem len_t {s} : wLen S (.tup s) Q = Q (.int s.length) S := rfl
theorem len_c {s} : wLen S (.scr s) Q = Q (.int s.length) S := rfl
theorem len_d {s} : wLen S (.dct s) Q = Q (.int s.length) S := rfl
theorem so_l {m xs} : wSorted m S (.lst xs) Q = ∃ ss, strs? xs = some ss ∧ wNew m S ((sortS ss).map .str) Q := rfl
theorem so_s {m s} : wSorted m S (.str s) Q = wNew m S ((sortS (s.map fun c => [c])).map .str) Q := rfl
theorem li_l {m xs} : wList m S (.lst xs) Q = wNew m S xs Q := rfl
theorem li_t {m xs} : wList m S (.tup xs) Q = wNew m S xs Q := rfl
theorem li_s {m s} : wList m S (.str s) Q = wNew m S (s.map fun c => .str [c]) Q := rfl
theorem tu_l {xs} : wTuple S (.lst xs) Q = Q (.tup xs) S := rfl
theorem tu_t {xs} : wTuple S (.tup xs) Q = Q (.tup xs) S := rfl
theorem mt_join {sep xs} : wMt .join S (.str sep) [.lst xs] Q = ∃ ss, strs? xs = some ss ∧ (ss.map (·.length)).sum + ss.length * sep.length ≤ line ∧ Q (.str (joinL sep ss)) S := rfl
theorem mt_app {n y} : wMt .append S (.ref n) [y] Q = ∃ xs, S[n]? = some (.lst xs) ∧ xs.length < line ∧ Q .non (S.set n (.lst (xs ++ [y]))) := rfl
theorem mt_pop {n i} : wMt .pop S (.ref n) [.int i] Q = ∃ xs k y, S[n]? = some (.lst xs) ∧ ixN xs.length i = some k ∧ xs[k]? = some y ∧ Q y (S.set n (.lst (xs.eraseIdx k))) := rfl
theorem ok_join {s} : mtOk .join S (.str s) = True := rfl
theorem ok_app {n} : mtOk .append S (.ref n) = ∃ xs, S[n]? = some (.lst xs) := rfl
theorem ok_pop {n} : mtOk .pop S (.ref n) = ∃ xs, S[n]? = some (.lst xs) := rfl
theorem set_r {n i v} {k : Sto → Prop} : wSet S (.ref n) (.int i) v k = ∃ xs j, S[n]? = some (.lst xs) ∧ ixN xs.length i = some j ∧ k (S.set n (.lst (xs.set j v))) := rfl
theorem it_l {xs} : itemsOf S (.lst xs) = some xs := rfl
theorem it_t {xs} : itemsOf S (.tup xs) = some xs := rfl
theorem it_c {xs} : itemsOf S (.scr xs) = some (xs.map .int) := rfl
theorem it_s {s} : itemsOf S (.str s) = some (s.map fun c => .str [c]) := rfl
theorem as_n {i v ρ} {k : Env → Prop} : asg (.nm i) v ρ k = k (setV ρ i v) := rfl
theorem ex_eq {α : Type} {a : α} {p : α → Prop} : (∃ v, some a = some v ∧ p v) = p a := propext ⟨fun ⟨v, e, h⟩ => (Option.some.inj e) ▸ h, fun h => ⟨a, rfl, h⟩⟩
theorem wC_none {Γ : Ctx} {E : XP} {ρ : Env} {Q : KB} : wC Γ E .none ρ S Q = Q true S := rfl
end
theorem bools_map {α : Type} (f : α → Bool) : ∀ xs : List α, bools? (xs.map fun x => .bl (f x)) = some (xs.map f)
  | [] => rfl
  | x :: r => by rw [List.map_cons, List.map_cons, bools?, bools_map f r]; rfl
theorem strs_map {α : Type} (f : α → List Nat) : ∀ xs : List α, strs? (xs.map fun x => .str (f x)) = some (xs.map f)
  | [] => rfl
  | x :: r => by rw [List.map_cons, List.map_cons, strs?, strs_map f r]; rfl
theorem strs_map' (xs : List (List Nat)) : strs? (xs.map .str) = some xs := by
  have := strs_map (fun x => x) xs
  simpa using this
theorem ints_map {α : Type} (f : α → Int) : ∀ xs : List α, ints? (xs.map fun x => .int (f x)) = some (xs.map f)
  | [] => rfl
  | x :: r => by rw [List.map_cons, List.map_cons, ints?, ints_map f r]; rfl
theorem all_id {α : Type} (f : α → Bool) (xs : List α) : (xs.map f).all id = xs.all f := by rw [List.all_map]; rfl
theorem any_id {α : Type} (f : α → Bool) (xs : List α) : (xs.map f).any id = xs.any f := by rw [List.any_map]; rfl
theorem rngL_map (n : Nat) : ∀ i : Nat, rngL (i : Int) n = (List.range' i n).map fun k : Nat => PV.int (k : Int) := by
  induction n with
  | zero => intro i; rfl
  | succ n ih =>
    intro i
    rw [rngL, List.range'_succ, List.map_cons]
    have := ih (i + 1)
    rw [show ((i + 1 : Nat) : Int) = (i : Int) + 1 from by omega] at this
    rw [this]
theorem rng0 (n : Nat) : rngL 0 n = (List.range n).map fun k : Nat => PV.int (k : Int) := by
  have := rngL_map n 0
  rw [List.range_eq_range']
  exact this
theorem getD_at {α : Type} {l : List α} {k : Nat} {d : α} (h : k < l.length) : l.getD k d = l[k] := by
  rw [List.getD, List.getElem?_eq_getElem h]; rfl
theorem ltS_one {a b : Nat} : ltS [a] [b] = decide (a < b) := by
  unfold ltS
  rw [decide_eq_decide, List.cons_lt_cons_iff]
  constructor
  · rintro (h | ⟨_, h⟩)
    · exact h
    · exact absurd h (List.not_lt_nil _)
  · exact .inl
def SpMono (sp : Spec) : Prop := ∀ (vs : List PV) (S : Sto) (Q Q' : K1) (E E' : XP), sp vs S Q E → (∀ v S', Q v S' → Q' v S') → (∀ e S', E e S' → E' e S') → sp vs S Q' E'
theorem find_mem {α β : Type} [BEq α] [LawfulBEq α] : ∀ {l : List (α × β)} {a : α} {b : β}, l.lookup a = some b → (a, b) ∈ l
  | (x, y) :: r, a, b, h => by
    rw [List.lookup_cons] at h
    split at h
    · rename_i e
      have e' : a = x := by simpa using e
      rw [e', Option.some.inj h]
      exact List.mem_cons_self
    · exact List.mem_cons_of_mem _ (find_mem h)
/-! slices -/
theorem cut_from {α : Type} {xs : List α} {k : Nat} : cut xs (some (k : Int)) none = xs.drop k := by
  unfold cut sIx
  simp only [if_neg (show ¬ ((k : Int) < 0) from by omega), Int.toNat_natCast]
  by_cases h : k ≤ xs.length
  · rw [Nat.min_eq_left h, List.take_of_length_le (by rw [List.length_drop]; exact Nat.le_refl _)]
  · rw [Nat.min_eq_right (by omega), List.drop_length, List.drop_eq_nil_of_le (by omega)]; simp
theorem cut_to {α : Type} {xs : List α} {k : Nat} : cut xs none (some (k : Int)) = xs.take k := by
  unfold cut sIx
  simp only [if_neg (show ¬ ((k : Int) < 0) from by omega), Int.toNat_natCast, Nat.sub_zero, List.drop_zero]
  by_cases h : k ≤ xs.length
  · rw [Nat.min_eq_left h]
  · rw [Nat.min_eq_right (by omega), List.take_length, List.take_of_length_le (by omega)]
theorem cut_mid {α : Type} {xs : List α} {a b : Nat} (h : a ≤ xs.length) : cut xs (some (a : Int)) (some (b : Int)) = (xs.drop a).take (b - a) := by
  unfold cut sIx
  simp only [if_neg (show ¬ ((a : Int) < 0) from by omega), if_neg (show ¬ ((b : Int) < 0) from by omega), Int.toNat_natCast]
  rw [Nat.min_eq_left h]
  by_cases h2 : b ≤ xs.length
  · rw [Nat.min_eq_left h2]
  · rw [Nat.min_eq_right (by omega), List.take_of_length_le (by rw [List.length_drop]; exact Nat.le_refl _), List.take_of_length_le (by rw [List.length_drop]; omega)]
theorem cut_1 {α : Type} {xs : List α} : cut xs (some 1) none = xs.drop 1 := cut_from (k := 1)
theorem joinL_nil : ∀ ss : List (List Nat), joinL [] ss = ss.flatten
  | [] => rfl
  | [x] => by simp [joinL]
  | x :: y :: r => by
    have := joinL_nil (y :: r)
    rw [joinL, this]
    · simp
    · exact fun h => by cases h
/-- the signs of a text in order -/
def srt (s : List Nat) : List Nat := (sortS (s.map fun c => [c])).flatten
theorem sum_one : ∀ l : List Nat, ((l.map fun c => [c]).map (·.length)).sum = l.length
  | [] => rfl
  | x :: r => by
    show 1 + ((r.map fun c => [c]).map (·.length)).sum = r.length + 1
    rw [sum_one r]
    omega
theorem srt_perm (s : List Nat) : (srt s).Perm s := by
  have e : ∀ s : List Nat, (s.map fun c => [c]).flatten = s := by
    intro s
    induction s with
    | nil => rfl
    | cons x r ih => rw [List.map_cons, List.flatten_cons, ih]; rfl
  have h := (sortS_perm (s.map fun c => [c])).flatten
  rw [e] at h
  exact h
theorem srt_join (s : List Nat) : joinL [] (sortS (s.map fun c => [c])) = srt s := joinL_nil _
theorem srt_sum (s : List Nat) : ((sortS (s.map fun c => [c])).map (·.length)).sum = s.length := by
  rw [((sortS_perm (s.map fun c => [c])).map (·.length)).sum_nat, sum_one]
theorem srt_len (s : List Nat) : (sortS (s.map fun c => [c])).length = s.length := by
  rw [(sortS_perm _).length_eq, List.length_map]
theorem flat_pw : ∀ l : List (List Nat), (∀ x ∈ l, ∃ c, x = [c]) → l.Pairwise LeS → l.flatten.Pairwise (· ≤ ·)
  | [], _, _ => List.Pairwise.nil
  | x :: r, h, p => by
    obtain ⟨c, e⟩ := h x List.mem_cons_self
    subst e
    rw [List.pairwise_cons] at p
    rw [List.flatten_cons]
    show (c :: r.flatten).Pairwise _
    rw [List.pairwise_cons]
    refine ⟨fun d hd => ?_, flat_pw r (fun y hy => h y (List.mem_cons_of_mem _ hy)) p.2⟩
    obtain ⟨y, hy, hdy⟩ := List.mem_flatten.mp hd
    obtain ⟨e, he⟩ := h y (List.mem_cons_of_mem _ hy)
    subst he
    have hde : d = e := List.mem_singleton.mp hdy
    subst hde
    have q : ¬ ([d] < [c]) := p.1 _ hy
    refine Nat.le_of_not_lt fun z => q ?_
    rw [List.cons_lt_cons_iff]
    exact .inl z
theorem srt_sorted (s : List Nat) : (srt s).Pairwise (· ≤ ·) := by
  refine flat_pw _ (fun x hx => ?_) (sortS_sorted _)
  have := (sortS_perm (s.map fun c => [c])).mem_iff.mp hx
  obtain ⟨c, _, e⟩ := List.mem_map.mp this
  exact ⟨c, e.symm⟩
theorem srt_nodup {s : List Nat} (h : s.Nodup) : (srt s).Pairwise (· < ·) := by
  have hp := srt_perm s
  have hn : (srt s).Nodup := hp.nodup_iff.mpr h
  have := srt_sorted s
  have := this.and hn
  exact this.imp fun ⟨a, b⟩ => Nat.lt_of_le_of_ne a b
/-- the one ascending order of distinct signs -/
theorem asc_unique : ∀ {a b : List Nat}, a.Pairwise (· < ·) → b.Pairwise (· < ·) → a.Perm b → a = b := fun {a b} ha hb p =>
  p.eq_of_pairwise (le := fun x y => x < y) (fun x y _ _ h g => absurd h (Nat.lt_asymm g)) ha hb
theorem mt_joinr {S : Sto} {Q : K1} {n : Nat} {sep : List Nat} {xs : List PV} (h : S[n]? = some (.lst xs)) : wMt .join S (.str sep) [.ref n] Q = ∃ ss, strs? xs = some ss ∧ (ss.map (·.length)).sum + ss.length * sep.length ≤ line ∧ Q (.str (joinL sep ss)) S := by
  unfold wMt
  dsimp only
  rw [drf_r, h]
  rfl
theorem set_same {S : Sto} {v : Nat} {c : Cell} (h : S[v]? = some c) : S.set v c = S := by
  refine List.ext_getElem? fun i => ?_
  by_cases e : v = i
  · subst e
    rw [List.getElem?_set_self (List.getElem?_eq_some_iff.mp h).1, h]
  · rw [List.getElem?_set_ne e]
theorem drp_i {m : Nat} {v : PV} {S : Sto} {Q : K1} (h : Q v S) : drp m v S Q := .inl h
theorem line_is : line = 16777216 := rfl
/-- an index within -/
theorem ixN_nat {n k : Nat} (h : k < n) : ixN n (k : Int) = some k := by
  unfold ixN
  rw [if_pos (by omega), if_pos (by omega)]
  simp
theorem ixN_int {n : Nat} {i : Int} (h0 : 0 ≤ i) (h : i < n) : ixN n i = some i.toNat := by
  unfold ixN
  rw [if_pos h0, if_pos h]
theorem eraseIdx_map' {α β : Type} (f : α → β) : ∀ (l : List α) (i : Nat), (l.map f).eraseIdx i = (l.eraseIdx i).map f
  | [], _ => rfl
  | _ :: _, 0 => rfl
  | x :: r, i + 1 => by
    show f x :: (r.map f).eraseIdx i = f x :: (r.eraseIdx i).map f
    rw [eraseIdx_map' f r i]
theorem erase_perm {α : Type} : ∀ {l : List α} {i : Nat} (h : i < l.length), (l[i] :: l.eraseIdx i).Perm l
  | x :: r, 0, _ => List.Perm.refl _
  | x :: r, i + 1, h => by
    have h' : i < r.length := by simpa using h
    have ih := erase_perm (l := r) (i := i) h'
    show (r[i] :: x :: r.eraseIdx i).Perm (x :: r)
    exact (List.Perm.swap _ _ _).trans (ih.cons x)
theorem bind_ixN {α : Type} {xs : List α} {k : Nat} (h : k < xs.length) : (ixN xs.length (k : Int)).bind (xs[·]?) = some xs[k] := by
  rw [ixN_nat h]
  exact List.getElem?_eq_getElem h
/-- a comprehension over a mapped list -/
theorem wComp_mapf {α : Type} {m : Bool} {g : Sto → Prop} {a : PV → (Env → Prop) → Prop} {e : Env → Sto → K1 → Prop} {Q : K1} {S : Sto} (i : α → PV) (f : α → PV) (hg : g S) (l : List α)
    (h : ∀ x ∈ l, ∀ (K1 : PV → Sto → Prop), K1 (f x) S → a (i x) fun ρ => e ρ S K1) (q : wNew m S (l.map f) Q) : wComp m g a (fun _ S' k => k true S') e Q (l.map i) [] S := by
  have go : ∀ (l : List α) (acc : List PV), (∀ x ∈ l, ∀ (K1 : PV → Sto → Prop), K1 (f x) S → a (i x) fun ρ => e ρ S K1) → wNew m S (acc ++ l.map f) Q → wComp m g a (fun _ S' k => k true S') e Q (l.map i) acc S := by
    intro l
    induction l with
    | nil => intro acc _ q; exact ⟨hg, by simpa using q⟩
    | cons x r ih =>
      intro acc h q
      exact ⟨hg, h x List.mem_cons_self _ (ih (acc ++ [f x]) (fun y hy => h y (List.mem_cons_of_mem _ hy)) (by rw [List.append_assoc]; exact q))⟩
  exact go l [] h (by simpa using q)
/-- .. with a test -/
theorem wComp_filterf {α : Type} {m : Bool} {g : Sto → Prop} {a : PV → (Env → Prop) → Prop} {c : Env → Sto → KB → Prop} {e : Env → Sto → K1 → Prop} {Q : K1} {S : Sto} (i : α → PV) (p : α → Bool) (f : α → PV) (hg : g S) (l : List α)
    (h : ∀ x ∈ l, ∀ (K1 : PV → Sto → Prop) (K0 : Sto → Prop), (if p x = true then K1 (f x) S else K0 S) → a (i x) fun ρ => c ρ S fun b S1 => if b = true then e ρ S1 K1 else K0 S1) (q : wNew m S ((l.filter p).map f) Q) : wComp m g a c e Q (l.map i) [] S := by
  have go : ∀ (l : List α) (acc : List PV), (∀ x ∈ l, ∀ (K1 : PV → Sto → Prop) (K0 : Sto → Prop), (if p x = true then K1 (f x) S else K0 S) → a (i x) fun ρ => c ρ S fun b S1 => if b = true then e ρ S1 K1 else K0 S1) → wNew m S (acc ++ (l.filter p).map f) Q → wComp m g a c e Q (l.map i) acc S := by
    intro l
    induction l with
    | nil => intro acc _ q; exact ⟨hg, by simpa using q⟩
    | cons x r ih =>
      intro acc h q
      refine ⟨hg, h x List.mem_cons_self _ _ ?_⟩
      rw [List.filter_cons] at q
      have hr : ∀ x ∈ r, ∀ (K1 : PV → Sto → Prop) (K0 : Sto → Prop), (if p x = true then K1 (f x) S else K0 S) → a (i x) fun ρ => c ρ S fun b S1 => if b = true then e ρ S1 K1 else K0 S1 := fun y hy => h y (List.mem_cons_of_mem _ hy)
      cases hp : p x with
      | true =>
        rw [hp] at q
        simp only [if_true] at q ⊢
        exact ih (acc ++ [f x]) hr (by rw [List.append_assoc]; exact q)
      | false =>
        rw [hp] at q
        simp only [Bool.false_eq_true, if_false] at q ⊢
        exact ih acc hr q
  exact go l [] h (by simpa using q)
end PL
set_option maxRecDepth 100000
set_option maxHeartbeats 4000000
namespace K49
open PySem PySem.Spec PyProof.Rows L2 PL
/-- the i-th statement of the text -/
def top (i : Nat) : Stmt := PySem.Challenge.pw_fivepoints_k49_whole_runs_judged.main.body.getD i (.Pass ⟨0, 0, 0, 0⟩)
def bls : List String := ["abs", "all", "divmod", "int", "isinstance", "len", "list", "max", "min", "range", "repr", "sorted"]
def tns : List String := ["str"]
def kbs : List Kp := [⟨"is_run", 0, ["parting", "order", "things"], [2, 1, 0]⟩]
/-! are_rising(value, least, most) -/
def b_are_rising_2 : ISs := .cons (.ret (.bi false .all (.cons (.comp false [4] (.nm 4) (.rng1 (.bin .sub (.bi false .len (.cons (.var 0) .nil)) (.cst (.int 1)))) .none (.cmp .lt (.ix (.var 0) (.var 4)) (.ix (.var 0) (.bin .add (.var 4) (.cst (.int 1)))))) .nil))) .nil
def b_are_rising_1 : ISs := .cons (.ite (.not_ (.bi false .all (.cons (.comp false [3] (.nm 3) (.seq (.var 0)) .none (.cmp .in_ (.var 3) (.glob "LETTERS"))) .nil))) (.cons (.ret (.cst (.bl false))) .nil) .nil) b_are_rising_2
def b_are_rising : ISs := .cons (.ite (.or_ (.not_ (.isi (.var 0) "str")) (.not_ (.chain .le .le (.var 1) (.bi false .len (.cons (.var 0) .nil)) (.var 2)))) (.cons (.ret (.cst (.bl false))) .nil) .nil) b_are_rising_1
-- tails of are_rising: b_are_rising, b_are_rising_1, b_are_rising_2
def n_are_rising : List Str := ["value", "least", "most", "letter", "k"]
def p_are_rising : List Str := ["value", "least", "most"]
abbrev s_are_rising : Stmt := top 8
theorem c_are_rising : chkSs (defC s_are_rising n_are_rising bls [] tns kbs) b_are_rising (L2.defBody s_are_rising) = true := by decide +kernel
theorem f_are_rising : FnScope n_are_rising p_are_rising (L2.defScope s_are_rising) := C8.fnScope_by (by decide +kernel)
/-! is_parting(things, value) -/
def b_is_parting : ISs := .cons (.ret (.and_ (.call "are_rising" (.cons (.var 1) (.cons (.cst (.int 1)) (.cons (.bin .sub (.bi false .len (.cons (.var 0) .nil)) (.cst (.int 1))) .nil)))) (.bi false .all (.cons (.comp false [2] (.nm 2) (.seq (.var 1)) .none (.cmp .in_ (.var 2) (.slice (.var 0) (.some (.cst (.int 1))) .none))) .nil)))) .nil
-- tails of is_parting: b_is_parting
def n_is_parting : List Str := ["things", "value", "letter"]
def p_is_parting : List Str := ["things", "value"]
abbrev s_is_parting : Stmt := top 10
theorem c_is_parting : chkSs (defC s_is_parting n_is_parting bls ["are_rising"] tns kbs) b_is_parting (L2.defBody s_is_parting) = true := by decide +kernel
theorem f_is_parting : FnScope n_is_parting p_is_parting (L2.defScope s_is_parting) := C8.fnScope_by (by decide +kernel)
/-! check_things(value) -/
def b_check_things : ISs := .cons (.ite (.not_ (.call "are_rising" (.cons (.var 0) (.cons (.glob "LEAST_THINGS") (.cons (.glob "MOST_THINGS") .nil))))) (.cons (.raise_ "InvalidThings" .nil) .nil) .nil) .nil
-- tails of check_things: b_check_things
def n_check_things : List Str := ["value"]
def p_check_things : List Str := ["value"]
abbrev s_check_things : Stmt := top 12
theorem c_check_things : chkSs (defC s_check_things n_check_things bls ["is_parting", "are_rising"] tns kbs) b_check_things (L2.defBody s_check_things) = true := by decide +kernel
theorem f_check_things : FnScope n_check_things p_check_things (L2.defScope s_check_things) := C8.fnScope_by (by decide +kernel)
/-! is_order(things, value) -/
def b_is_order : ISs := .cons (.ret (.and_ (.isi (.var 1) "str") (.cmp .eq (.mth .join (.cst (.str [])) (.cons (.bi false .sorted (.cons (.var 1) .nil)) .nil)) (.var 0)))) .nil
-- tails of is_order: b_is_order
def n_is_order : List Str := ["things", "value"]
def p_is_order : List Str := ["things", "value"]
abbrev s_is_order : Stmt := top 14
theorem c_is_order : chkSs (defC s_is_order n_is_order bls ["check_things", "is_parting", "are_rising"] tns kbs) b_is_order (L2.defBody s_is_order) = true := by decide +kernel
theorem f_is_order : FnScope n_is_order p_is_order (L2.defScope s_is_order) := C8.fnScope_by (by decide +kernel)
/-! turns_in(order, parting) -/
def b_turns_in_1 : ISs := .cons (.ret (.bi false .len (.cons (.comp false [4] (.nm 4) (.rng1 (.bi false .len (.cons (.var 2) .nil))) (.some (.cmp .ne (.ix (.var 2) (.var 4)) (.ix (.var 2) (.bin .sub (.var 4) (.cst (.int 1)))))) (.var 4)) .nil))) .nil
def b_turns_in : ISs := .cons (.set 2 (.comp false [3] (.nm 3) (.seq (.var 0)) .none (.cmp .in_ (.var 3) (.var 1)))) b_turns_in_1
-- tails of turns_in: b_turns_in, b_turns_in_1
def n_turns_in : List Str := ["order", "parting", "sides", "thing", "k"]
def p_turns_in : List Str := ["order", "parting"]
abbrev s_turns_in : Stmt := top 15
theorem c_turns_in : chkSs (defC s_turns_in n_turns_in bls ["is_order", "check_things", "is_parting", "are_rising"] tns kbs) b_turns_in (L2.defBody s_turns_in) = true := by decide +kernel
theorem f_turns_in : FnScope n_turns_in p_turns_in (L2.defScope s_turns_in) := C8.fnScope_by (by decide +kernel)
/-! are_runs(order, known) -/
def b_are_runs : ISs := .cons (.ret (.bi false .all (.cons (.comp false [2] (.nm 2) (.seq (.var 1)) .none (.cmp .le (.call "turns_in" (.cons (.var 0) (.cons (.var 2) .nil))) (.cst (.int 2)))) .nil))) .nil
-- tails of are_runs: b_are_runs
def n_are_runs : List Str := ["order", "known", "parting"]
def p_are_runs : List Str := ["order", "known"]
abbrev s_are_runs : Stmt := top 16
theorem c_are_runs : chkSs (defC s_are_runs n_are_runs bls ["turns_in", "is_order", "check_things", "is_parting", "are_rising"] tns kbs) b_are_runs (L2.defBody s_are_runs) = true := by decide +kernel
theorem f_are_runs : FnScope n_are_runs p_are_runs (L2.defScope s_are_runs) := C8.fnScope_by (by decide +kernel)
/-! is_run(things, order, parting) -/
def b_is_run_3 : ISs := .cons (.ret (.call "are_runs" (.cons (.var 1) (.cons (.lst false (.cons (.var 2) .nil)) .nil)))) .nil
def b_is_run_2 : ISs := .cons (.ite (.not_ (.call "is_parting" (.cons (.var 0) (.cons (.var 2) .nil)))) (.cons (.raise_ "InvalidParting" .nil) .nil) .nil) b_is_run_3
def b_is_run_1 : ISs := .cons (.ite (.not_ (.call "is_order" (.cons (.var 0) (.cons (.var 1) .nil)))) (.cons (.raise_ "InvalidThings" .nil) .nil) .nil) b_is_run_2
def b_is_run : ISs := .cons (.ex (.call "check_things" (.cons (.var 0) .nil))) b_is_run_1
-- tails of is_run: b_is_run, b_is_run_1, b_is_run_2, b_is_run_3
def n_is_run : List Str := ["things", "order", "parting"]
def p_is_run : List Str := ["things", "order", "parting"]
abbrev s_is_run : Stmt := top 17
theorem c_is_run : chkSs (defC s_is_run n_is_run bls ["are_runs", "turns_in", "is_order", "check_things", "is_parting", "are_rising"] tns kbs) b_is_run (L2.defBody s_is_run) = true := by decide +kernel
theorem f_is_run : FnScope n_is_run p_is_run (L2.defScope s_is_run) := C8.fnScope_by (by decide +kernel)
/-! _law_vat(_law_script, _law_k) -/
def b_q_vat_L1 : ISs := .cons (.set 3 (.bin .mod (.bi false .int_ (.cons (.bin .add (.bin .mul (.var 3) (.cst (.int 25219))) (.bi false .int_ (.cons (.var 4) .nil))) .nil)) (.cst (.int 2147483269)))) .nil
def b_q_vat_3 : ISs := .cons (.ret (.lst true (.cons (.bin .mod (.bi false .int_ (.cons (.bin .add (.var 3) (.bin .mul (.var 2) (.cst (.int 6029)))) .nil)) (.cst (.int 2147483269))) (.cons (.cst (.int 0)) (.cons (.ite (.or_ (.cmp .lt (.var 2) (.cst (.int 0))) (.cmp .ge (.var 2) (.bin .pow (.cst (.int 10)) (.cst (.int 18))))) (.bi false .abs (.cons (.var 2) .nil)) (.cst (.int 0))) .nil))))) .nil
def b_q_vat_2 : ISs := .cons (.for_ (.nm 4) (.seq (.slice (.var 0) .none (.some (.cst (.int 8))))) b_q_vat_L1) b_q_vat_3
def b_q_vat_1 : ISs := .cons (.set 3 (.bin .add (.cst (.int 20011)) (.bin .mul (.cst (.int 8009)) (.var 1)))) b_q_vat_2
def b_q_vat : ISs := .cons (.set 2 (.ite (.cmp .lt (.var 1) (.bi false .len (.cons (.var 0) .nil))) (.bi false .int_ (.cons (.ix (.var 0) (.var 1)) .nil)) (.bin .add (.bin .mul (.cst (.int 67)) (.var 1)) (.cst (.int 23))))) b_q_vat_1
-- tails of _law_vat: b_q_vat, b_q_vat_1, b_q_vat_2, b_q_vat_3
def n_q_vat : List Str := ["_law_script", "_law_k", "_law_own", "_law_mixed_here", "_law_entry_here"]
def p_q_vat : List Str := ["_law_script", "_law_k"]
abbrev s_q_vat : Stmt := top 19
theorem c_q_vat : chkSs (defC s_q_vat n_q_vat bls ["is_run", "are_runs", "turns_in", "is_order", "check_things", "is_parting", "are_rising"] tns kbs) b_q_vat (L2.defBody s_q_vat) = true := by decide +kernel
theorem f_q_vat : FnScope n_q_vat p_q_vat (L2.defScope s_q_vat) := C8.fnScope_by (by decide +kernel)
/-! _law_nip(_law_vat_here, _law_top) -/
def b_q_nip_5 : ISs := .cons (.ret (.bin .mod (.bi false .int_ (.cons (.bin .fdiv (.ix (.var 0) (.cst (.int 0))) (.cst (.int 9001))) .nil)) (.var 1))) .nil
def b_q_nip_4 : ISs := .cons (.setix (.var 0) (.cst (.int 0)) (.bin .mod (.bi false .int_ (.cons (.bin .add (.bin .add (.bin .mul (.var 3) (.var 4)) (.bin .mul (.cst (.int 90001)) (.ix (.var 0) (.cst (.int 1))))) (.cst (.int 3))) .nil)) (.cst (.int 2147483269)))) b_q_nip_5
def b_q_nip_3 : ISs := .cons (.set 4 (.bin .add (.bin .mod (.bi false .int_ (.cons (.var 3) .nil)) (.cst (.int 17011))) (.cst (.int 53003)))) b_q_nip_4
def b_q_nip_2 : ISs := .cons (.set 3 (.bi false .int_ (.cons (.ix (.var 0) (.cst (.int 0))) .nil))) b_q_nip_3
def b_q_nip_1 : ISs := .cons (.ite (.cmp .gt (.ix (.var 0) (.cst (.int 2))) (.cst (.int 0))) (.cons (.unpix (.var 0) (.cst (.int 2)) 2 (.bi false .divmod (.cons (.bi false .int_ (.cons (.ix (.var 0) (.cst (.int 2))) .nil)) (.cons (.var 1) .nil)))) (.cons (.ret (.var 2)) .nil)) .nil) b_q_nip_2
def b_q_nip : ISs := .cons (.setix (.var 0) (.cst (.int 1)) (.bin .add (.ix (.var 0) (.cst (.int 1))) (.cst (.int 1)))) b_q_nip_1
-- tails of _law_nip: b_q_nip, b_q_nip_1, b_q_nip_2, b_q_nip_3, b_q_nip_4, b_q_nip_5
def n_q_nip : List Str := ["_law_vat_here", "_law_top", "_law_digit", "_law_level", "_law_factor"]
def p_q_nip : List Str := ["_law_vat_here", "_law_top"]
abbrev s_q_nip : Stmt := top 20
theorem c_q_nip : chkSs (defC s_q_nip n_q_nip bls ["_law_vat", "is_run", "are_runs", "turns_in", "is_order", "check_things", "is_parting", "are_rising"] tns kbs) b_q_nip (L2.defBody s_q_nip) = true := by decide +kernel
theorem f_q_nip : FnScope n_q_nip p_q_nip (L2.defScope s_q_nip) := C8.fnScope_by (by decide +kernel)
/-! _law_pick(_law_vat_here, _law_some) -/
def b_q_pick : ISs := .cons (.ret (.ix (.var 1) (.call "_law_nip" (.cons (.var 0) (.cons (.bi false .len (.cons (.var 1) .nil)) .nil))))) .nil
-- tails of _law_pick: b_q_pick
def n_q_pick : List Str := ["_law_vat_here", "_law_some"]
def p_q_pick : List Str := ["_law_vat_here", "_law_some"]
abbrev s_q_pick : Stmt := top 21
theorem c_q_pick : chkSs (defC s_q_pick n_q_pick bls ["_law_nip", "_law_vat", "is_run", "are_runs", "turns_in", "is_order", "check_things", "is_parting", "are_rising"] tns kbs) b_q_pick (L2.defBody s_q_pick) = true := by decide +kernel
theorem f_q_pick : FnScope n_q_pick p_q_pick (L2.defScope s_q_pick) := C8.fnScope_by (by decide +kernel)
/-! _law_letters(_law_vat_here, _law_many) -/
def b_q_letters_L1 : ISs := .cons (.ex (.mth .append (.var 3) (.cons (.mth .pop (.var 2) (.cons (.call "_law_nip" (.cons (.var 0) (.cons (.bi false .len (.cons (.var 2) .nil)) .nil))) .nil)) .nil))) .nil
def b_q_letters_2 : ISs := .cons (.ret (.mth .join (.cst (.str [])) (.cons (.bi false .sorted (.cons (.var 3) .nil)) .nil))) .nil
def b_q_letters_1 : ISs := .cons (.for_ (.nm 4) (.rng1 (.var 1)) b_q_letters_L1) b_q_letters_2
def b_q_letters : ISs := .cons (.par2 2 3 (.bi true .list (.cons (.call "_law_pick" (.cons (.var 0) (.cons (.lst false (.cons (.cst (.str [97, 98, 99, 100, 101, 102, 103, 104])) (.cons (.cst (.str [97, 98, 99, 100, 101, 102, 103, 104])) (.cons (.cst (.str [98, 100, 102, 104, 106, 108, 110, 112, 114, 116, 118, 120, 122])) (.cons (.cst (.str [107, 108, 109, 110, 111, 112, 113, 114, 115, 116, 117, 118, 119, 120, 121, 122])) .nil))))) .nil))) .nil)) (.lst true .nil)) b_q_letters_1
-- tails of _law_letters: b_q_letters, b_q_letters_1, b_q_letters_2
def n_q_letters : List Str := ["_law_vat_here", "_law_many", "_law_left", "_law_found", "_law_k"]
def p_q_letters : List Str := ["_law_vat_here", "_law_many"]
abbrev s_q_letters : Stmt := top 22
theorem c_q_letters : chkSs (defC s_q_letters n_q_letters bls ["_law_pick", "_law_nip", "_law_vat", "is_run", "are_runs", "turns_in", "is_order", "check_things", "is_parting", "are_rising"] tns kbs) b_q_letters (L2.defBody s_q_letters) = true := by decide +kernel
theorem f_q_letters : FnScope n_q_letters p_q_letters (L2.defScope s_q_letters) := C8.fnScope_by (by decide +kernel)
/-! _law_mixed(_law_vat_here, _law_letters_here) -/
def b_q_mixed_L1 : ISs := .cons (.ex (.mth .append (.var 3) (.cons (.mth .pop (.var 2) (.cons (.call "_law_nip" (.cons (.var 0) (.cons (.bi false .len (.cons (.var 2) .nil)) .nil))) .nil)) .nil))) .nil
def b_q_mixed_2 : ISs := .cons (.ret (.mth .join (.cst (.str [])) (.cons (.var 3) .nil))) .nil
def b_q_mixed_1 : ISs := .cons (.while_ (.cmp .ne (.var 2) (.lst false .nil)) b_q_mixed_L1) b_q_mixed_2
def b_q_mixed : ISs := .cons (.par2 2 3 (.bi true .list (.cons (.var 1) .nil)) (.lst true .nil)) b_q_mixed_1
-- tails of _law_mixed: b_q_mixed, b_q_mixed_1, b_q_mixed_2
def n_q_mixed : List Str := ["_law_vat_here", "_law_letters_here", "_law_left", "_law_found"]
def p_q_mixed : List Str := ["_law_vat_here", "_law_letters_here"]
abbrev s_q_mixed : Stmt := top 23
theorem c_q_mixed : chkSs (defC s_q_mixed n_q_mixed bls ["_law_letters", "_law_pick", "_law_nip", "_law_vat", "is_run", "are_runs", "turns_in", "is_order", "check_things", "is_parting", "are_rising"] tns kbs) b_q_mixed (L2.defBody s_q_mixed) = true := by decide +kernel
theorem f_q_mixed : FnScope n_q_mixed p_q_mixed (L2.defScope s_q_mixed) := C8.fnScope_by (by decide +kernel)
/-! _law_lots(_law_letters_here) -/
def b_q_lots_L1 : ISs := .cons (.set 1 (.bin .add (.var 1) (.comp false [3] (.nm 3) (.seq (.var 1)) .none (.bin .add (.var 3) (.var 2))))) .nil
def b_q_lots_2 : ISs := .cons (.ret (.slice (.bi false .sorted (.cons (.var 1) .nil)) (.some (.cst (.int 1))) .none)) .nil
def b_q_lots_1 : ISs := .cons (.for_ (.nm 2) (.seq (.slice (.var 0) (.some (.cst (.int 1))) .none)) b_q_lots_L1) b_q_lots_2
def b_q_lots : ISs := .cons (.set 1 (.lst false (.cons (.cst (.str [])) .nil))) b_q_lots_1
-- tails of _law_lots: b_q_lots, b_q_lots_1, b_q_lots_2
def n_q_lots : List Str := ["_law_letters_here", "_law_found", "_law_one", "_law_lot_here"]
def p_q_lots : List Str := ["_law_letters_here"]
abbrev s_q_lots : Stmt := top 24
theorem c_q_lots : chkSs (defC s_q_lots n_q_lots bls ["_law_mixed", "_law_letters", "_law_pick", "_law_nip", "_law_vat", "is_run", "are_runs", "turns_in", "is_order", "check_things", "is_parting", "are_rising"] tns kbs) b_q_lots (L2.defBody s_q_lots) = true := by decide +kernel
theorem f_q_lots : FnScope n_q_lots p_q_lots (L2.defScope s_q_lots) := C8.fnScope_by (by decide +kernel)
/-! _law_named(_law_letters_here, _law_some) -/
def b_q_named_1 : ISs := .cons (.ret (.mth .join (.cst (.str [])) (.cons (.comp false [2] (.nm 2) (.seq (.var 0)) (.some (.cmp .nin (.var 2) (.var 1))) (.var 2)) .nil))) .nil
def b_q_named : ISs := .cons (.ite (.cmp .nin (.ix (.var 0) (.cst (.int 0))) (.var 1)) (.cons (.ret (.mth .join (.cst (.str [])) (.cons (.bi false .sorted (.cons (.var 1) .nil)) .nil))) .nil) .nil) b_q_named_1
-- tails of _law_named: b_q_named, b_q_named_1
def n_q_named : List Str := ["_law_letters_here", "_law_some", "_law_one"]
def p_q_named : List Str := ["_law_letters_here", "_law_some"]
abbrev s_q_named : Stmt := top 25
theorem c_q_named : chkSs (defC s_q_named n_q_named bls ["_law_lots", "_law_mixed", "_law_letters", "_law_pick", "_law_nip", "_law_vat", "is_run", "are_runs", "turns_in", "is_order", "check_things", "is_parting", "are_rising"] tns kbs) b_q_named (L2.defBody s_q_named) = true := by decide +kernel
theorem f_q_named : FnScope n_q_named p_q_named (L2.defScope s_q_named) := C8.fnScope_by (by decide +kernel)
/-! _law_is_run_of(_law_around, _law_lot_here) -/
def b_q_is_run_of_L1 : ISs := .cons (.ite (.bi false .all (.cons (.comp false [5] (.nm 5) (.seq (.slice (.var 3) (.some (.var 4)) (.some (.bin .add (.var 4) (.var 2))))) .none (.cmp .in_ (.var 5) (.var 1))) .nil)) (.cons (.ret (.cst (.bl true))) .nil) .nil) .nil
def b_q_is_run_of_3 : ISs := .cons (.ret (.cst (.bl false))) .nil
def b_q_is_run_of_2 : ISs := .cons (.for_ (.nm 4) (.rng1 (.bi false .len (.cons (.var 0) .nil))) b_q_is_run_of_L1) b_q_is_run_of_3
def b_q_is_run_of_1 : ISs := .cons (.set 3 (.bin .add (.var 0) (.var 0))) b_q_is_run_of_2
def b_q_is_run_of : ISs := .cons (.set 2 (.bi false .len (.cons (.comp false [5] (.nm 5) (.seq (.var 0)) (.some (.cmp .in_ (.var 5) (.var 1))) (.var 5)) .nil))) b_q_is_run_of_1
-- tails of _law_is_run_of: b_q_is_run_of, b_q_is_run_of_1, b_q_is_run_of_2, b_q_is_run_of_3
def n_q_is_run_of : List Str := ["_law_around", "_law_lot_here", "_law_many", "_law_twice", "_law_k", "_law_one"]
def p_q_is_run_of : List Str := ["_law_around", "_law_lot_here"]
abbrev s_q_is_run_of : Stmt := top 26
theorem c_q_is_run_of : chkSs (defC s_q_is_run_of n_q_is_run_of bls ["_law_named", "_law_lots", "_law_mixed", "_law_letters", "_law_pick", "_law_nip", "_law_vat", "is_run", "are_runs", "turns_in", "is_order", "check_things", "is_parting", "are_rising"] tns kbs) b_q_is_run_of (L2.defBody s_q_is_run_of) = true := by decide +kernel
theorem f_q_is_run_of : FnScope n_q_is_run_of p_q_is_run_of (L2.defScope s_q_is_run_of) := C8.fnScope_by (by decide +kernel)
/-! _law_right(_law_vat_here) -/
def b_q_right_L2_8 : ISs := .cons (.ite (.cmp .ne (.bi false .repr (.cons (.var 10) .nil)) (.bi false .repr (.cons (.bin .mul (.lst false (.cons (.var 9) .nil)) (.cst (.int 3))) .nil))) (.cons (.ret (.cst (.bl false))) .nil) .nil) .nil
def b_q_right_L2_7 : ISs := .cons (.ex (.mth .append (.var 10) (.cons (.call "is_run" (.cons (.var 2) (.cons (.bin .add (.slice (.var 4) (.some (.var 5)) .none) (.slice (.var 4) .none (.some (.var 5)))) (.cons (.var 8) .nil)))) .nil))) b_q_right_L2_8
def b_q_right_L2_6 : ISs := .cons (.set 10 (.lst true (.cons (.call "is_run" (.cons (.var 2) (.cons (.var 4) (.cons (.var 8) .nil)))) (.cons (.callk ⟨"is_run", 0, ["parting", "order", "things"], [2, 1, 0]⟩ .nil (.cons (.var 8) (.cons (.rev (.var 4)) (.cons (.var 2) .nil)))) .nil)))) b_q_right_L2_7
def b_q_right_L2_5 : ISs := .cons (.set 9 (.call "_law_is_run_of" (.cons (.var 4) (.cons (.var 8) .nil)))) b_q_right_L2_6
def b_q_right_L2_4 : ISs := .cons (.set 8 (.call "_law_pick" (.cons (.var 0) (.cons (.call "_law_lots" (.cons (.var 2) .nil)) .nil)))) b_q_right_L2_5
def b_q_right_L2_3 : ISs := .cons (.ite (.cmp .isn (.call "is_run" (.cons (.var 2) (.cons (.var 4) (.cons (.var 7) .nil)))) (.cst (.bl true))) (.cons (.ret (.cst (.bl false))) .nil) .nil) b_q_right_L2_4
def b_q_right_L2_2 : ISs := .cons (.set 7 (.call "_law_named" (.cons (.var 2) (.cons (.slice (.bin .add (.var 4) (.var 4)) (.some (.var 5)) (.some (.bin .add (.var 5) (.var 6)))) .nil)))) b_q_right_L2_3
def b_q_right_L2_1 : ISs := .cons (.par2 5 6 (.call "_law_nip" (.cons (.var 0) (.cons (.bi false .len (.cons (.var 4) .nil)) .nil))) (.bin .add (.cst (.int 1)) (.call "_law_nip" (.cons (.var 0) (.cons (.bin .sub (.bi false .len (.cons (.var 4) .nil)) (.cst (.int 1))) .nil))))) b_q_right_L2_2
def b_q_right_L2 : ISs := .cons (.set 4 (.call "_law_mixed" (.cons (.var 0) (.cons (.var 2) .nil)))) b_q_right_L2_1
def b_q_right_L1_1 : ISs := .cons (.for_ (.nm 3) (.rng1 (.cst (.int 10))) b_q_right_L2) .nil
def b_q_right_L1 : ISs := .cons (.set 2 (.call "_law_letters" (.cons (.var 0) (.cons (.bin .add (.cst (.int 2)) (.call "_law_nip" (.cons (.var 0) (.cons (.cst (.int 7)) .nil)))) .nil)))) b_q_right_L1_1
def b_q_right_1 : ISs := .cons (.ret (.cst (.bl true))) .nil
def b_q_right : ISs := .cons (.for_ (.nm 1) (.rng1 (.cst (.int 4))) b_q_right_L1) b_q_right_1
-- tails of _law_right: b_q_right, b_q_right_1
def n_q_right : List Str := ["_law_vat_here", "_law_again", "_law_letters_here", "_law_turn", "_law_around", "_law_start", "_law_size", "_law_run_here", "_law_lot_here", "_law_due", "_law_told"]
def p_q_right : List Str := ["_law_vat_here"]
abbrev s_q_right : Stmt := top 27
theorem c_q_right : chkSs (defC s_q_right n_q_right bls ["_law_is_run_of", "_law_named", "_law_lots", "_law_mixed", "_law_letters", "_law_pick", "_law_nip", "_law_vat", "is_run", "are_runs", "turns_in", "is_order", "check_things", "is_parting", "are_rising"] tns kbs) b_q_right (L2.defBody s_q_right) = true := by decide +kernel
theorem f_q_right : FnScope n_q_right p_q_right (L2.defScope s_q_right) := C8.fnScope_by (by decide +kernel)
/-! law(_law_script) -/
def b_law : ISs := .cons (.ret (.bi false .all (.cons (.comp false [1] (.nm 1) (.rng1 (.bi false .max (.cons (.cst (.int 2)) (.cons (.bi false .min (.cons (.bi false .len (.cons (.var 0) .nil)) (.cons (.cst (.int 4)) .nil))) .nil)))) .none (.call "_law_right" (.cons (.call "_law_vat" (.cons (.var 0) (.cons (.var 1) .nil))) .nil))) .nil))) .nil
-- tails of law: b_law
def n_law : List Str := ["_law_script", "_law_k"]
def p_law : List Str := ["_law_script"]
abbrev s_law : Stmt := top 28
theorem c_law : chkSs (defC s_law n_law bls ["_law_right", "_law_is_run_of", "_law_named", "_law_lots", "_law_mixed", "_law_letters", "_law_pick", "_law_nip", "_law_vat", "is_run", "are_runs", "turns_in", "is_order", "check_things", "is_parting", "are_rising"] tns kbs) b_law (L2.defBody s_law) = true := by decide +kernel
theorem f_law : FnScope n_law p_law (L2.defScope s_law) := C8.fnScope_by (by decide +kernel)
end K49
set_option maxRecDepth 100000
set_option maxHeartbeats 4000000
namespace K49
open PL
def LET : List Nat := [97, 98, 99, 100, 101, 102, 103, 104, 105, 106, 107, 108, 109, 110, 111, 112, 113, 114, 115, 116, 117, 118, 119, 120, 121, 122]
def rising (s : List Nat) (a b : Int) : Bool := decide (a ≤ s.length) && decide ((s.length : Int) ≤ b) && s.all (fun c => decide (c ∈ LET)) && (List.range (s.length - 1)).all (fun k => decide (s.getD k 0 < s.getD (k + 1) 0))
def spRising : Spec := fun xs S Q _ => ∃ s a b, xs = [.str s, .int a, .int b] ∧ s.length ≤ 1000 ∧ Q (.bl (rising s a b)) S
def isPart (t v : List Nat) : Bool := rising v 1 ((t.length : Int) - 1) && v.all fun c => decide (c ∈ t.drop 1)
def spPart : Spec := fun xs S Q _ => ∃ t v, xs = [.str t, .str v] ∧ v.length ≤ 1000 ∧ Q (.bl (isPart t v)) S
def spCheck : Spec := fun xs S Q _ => ∃ v, xs = [.str v] ∧ v.length ≤ 1000 ∧ rising v 2 8 = true ∧ Q .non S
def spOrder : Spec := fun xs S Q _ => ∃ t v, xs = [.str t, .str v] ∧ v.length ≤ 1000 ∧ Q (.bl (srt v == t)) S
/-- how often a ring of yes and no turns -/
def turnsB (sd : List Bool) : Nat := ((List.range sd.length).filter fun k => sd.getD k false != sd.getD (if k = 0 then sd.length - 1 else k - 1) false).length
def sides (o p : List Nat) : List Bool := o.map fun c => decide (c ∈ p)
def spTurns : Spec := fun xs S Q _ => ∃ (o p : List Nat), xs = [.str o, .str p] ∧ o.length ≤ 1000 ∧ Q (.int (turnsB (sides o p))) S
def spRuns : Spec := fun xs S Q _ => ∃ (o : List Nat) (ps : List (List Nat)), xs = [.str o, .lst (ps.map .str)] ∧ o.length ≤ 1000 ∧ Q (.bl (ps.all fun p => decide (turnsB (sides o p) ≤ 2))) S
def spRun : Spec := fun xs S Q _ => ∃ t o p, xs = [.str t, .str o, .str p] ∧ o.length ≤ 1000 ∧ t.length ≤ 1000 ∧ p.length ≤ 1000 ∧ rising t 2 8 = true ∧ srt o = t ∧ isPart t p = true ∧ Q (.bl (decide (turnsB (sides o p) ≤ 2))) S
def MOD : Int := 2147483269
/-- the state of a source of numbers: at most n were drawn -/
def Jar (n : Nat) (c : Cell) : Prop := ∃ a b d : Int, c = .lst [.int a, .int b, .int d] ∧ 0 ≤ a ∧ a < MOD ∧ 0 ≤ b ∧ b ≤ n ∧ 0 ≤ d
def spVat : Spec := fun xs S Q _ => ∃ (ns : List Int) (k : Int), xs = [.scr ns, .int k] ∧ (∀ z ∈ ns, z.natAbs.log2 < 1048576) ∧ 0 ≤ k ∧ k ≤ 1000 ∧ ∀ c, Jar 0 c → Q (.ref S.length) (S ++ [c])
def spNip : Spec := fun xs S Q _ => ∃ (v : Nat) (top : Int) (c : Cell) (n : Nat), xs = [.ref v, .int top] ∧ S[v]? = some c ∧ Jar n c ∧ n ≤ 1000000000 ∧ 1 ≤ top ∧ top ≤ 1000000 ∧ ∀ c' r, Jar (n + 1) c' → 0 ≤ r → r < top → Q (.int r) (S.set v c')
def spPick : Spec := fun xs S Q _ => ∃ (v : Nat) (ys : List PV) (c : Cell) (n : Nat), xs = [.ref v, .lst ys] ∧ S[v]? = some c ∧ Jar n c ∧ n ≤ 1000000000 ∧ ys ≠ [] ∧ ys.length ≤ 1000000 ∧ ∀ c' y, Jar (n + 1) c' → y ∈ ys → Q y (S.set v c')
/-- ascending letters -/
def Asc (s : List Nat) : Prop := s.Pairwise (· < ·) ∧ ∀ c ∈ s, c ∈ LET
def spLetters : Spec := fun xs S Q _ => ∃ (v many : Nat) (c : Cell) (n : Nat), xs = [.ref v, .int many] ∧ S[v]? = some c ∧ Jar n c ∧ n ≤ 1000000000 - 1000 ∧ 2 ≤ many ∧ many ≤ 8 ∧ S.all cellNR = true ∧ ∀ c' s, Jar (n + 100) c' → Asc s → s.length = many → Q (.str s) (S.set v c')
def spMixed : Spec := fun xs S Q _ => ∃ (v : Nat) (s : List Nat) (c : Cell) (n : Nat), xs = [.ref v, .str s] ∧ S[v]? = some c ∧ Jar n c ∧ n ≤ 1000000000 - 1000 ∧ s.length ≤ 8 ∧ S.all cellNR = true ∧ ∀ c' o, Jar (n + 100) c' → o.Perm s → Q (.str o) (S.set v c')
def spLots : Spec := fun xs S Q _ => ∃ s, xs = [.str s] ∧ Asc s ∧ 2 ≤ s.length ∧ s.length ≤ 8 ∧ ∀ ps, ps ≠ [] → ps.length ≤ 1000 → (∀ p ∈ ps, isPart s p = true) → Q (.lst (ps.map .str)) S
def named (s u : List Nat) : List Nat := if s.getD 0 0 ∈ u then s.filter (fun c => decide (c ∉ u)) else srt u
def spNamed : Spec := fun xs S Q _ => ∃ s u, xs = [.str s, .str u] ∧ 1 ≤ s.length ∧ s.length ≤ 8 ∧ u.length ≤ 1000 ∧ Q (.str (named s u)) S
def runB (sd : List Bool) : Bool := (List.range sd.length).any fun k => (((sd ++ sd).drop k).take (sd.filter id).length).all id
def spRunOf : Spec := fun xs S Q _ => ∃ (o p : List Nat), xs = [.str o, .str p] ∧ o.length ≤ 8 ∧ Q (.bl (runB (sides o p))) S
def spRight : Spec := fun xs S Q _ => ∃ (v : Nat) (c : Cell), xs = [.ref v] ∧ S[v]? = some c ∧ Jar 0 c ∧ S.all cellNR = true ∧ ∀ c' n, Jar n c' → Q (.bl true) (S.set v c')
def spLaw : Spec := fun xs S Q _ => ∃ ns, xs = [.scr ns] ∧ ns.length ≤ 63 ∧ (∀ z ∈ ns, z.natAbs.log2 < 1048576) ∧ S = [] ∧ Q (.bl true) []
def cns : List (String × PV) := [("LETTERS", .str LET), ("LEAST_THINGS", .int 2), ("MOST_THINGS", .int 8)]
def fns : List (String × Spec) := [("are_rising", spRising), ("is_parting", spPart), ("check_things", spCheck), ("is_order", spOrder), ("turns_in", spTurns), ("are_runs", spRuns), ("is_run", spRun), ("_law_vat", spVat), ("_law_nip", spNip),
  ("_law_pick", spPick), ("_law_letters", spLetters), ("_law_mixed", spMixed), ("_law_lots", spLots), ("_law_named", spNamed), ("_law_is_run_of", spRunOf), ("_law_right", spRight), ("law", spLaw)]
def G : Ctx := ⟨fun f => fns.lookup f, fun c => cns.lookup c, subB⟩
theorem k1 : G.fn "are_rising" = some spRising := by rfl
theorem k2 : G.fn "is_parting" = some spPart := by rfl
theorem k3 : G.fn "check_things" = some spCheck := by rfl
theorem k4 : G.fn "is_order" = some spOrder := by rfl
theorem k5 : G.fn "turns_in" = some spTurns := by rfl
theorem k6 : G.fn "are_runs" = some spRuns := by rfl
theorem k7 : G.fn "is_run" = some spRun := by rfl
theorem k8 : G.fn "_law_vat" = some spVat := by rfl
theorem k9 : G.fn "_law_nip" = some spNip := by rfl
theorem k10 : G.fn "_law_pick" = some spPick := by rfl
theorem k11 : G.fn "_law_letters" = some spLetters := by rfl
theorem k12 : G.fn "_law_mixed" = some spMixed := by rfl
theorem k13 : G.fn "_law_lots" = some spLots := by rfl
theorem k14 : G.fn "_law_named" = some spNamed := by rfl
theorem k15 : G.fn "_law_is_run_of" = some spRunOf := by rfl
theorem k16 : G.fn "_law_right" = some spRight := by rfl
theorem g2 : G.cn "LETTERS" = some (.str LET) := by rfl
theorem g4 : G.cn "LEAST_THINGS" = some (.int 2) := by rfl
theorem g5 : G.cn "MOST_THINGS" = some (.int 8) := by rfl
theorem g3 : G.sub "str" "str" = some true := by rfl
theorem w_rising (xs : List PV) (S : Sto) (Q : K1) (E : XP) (h : spRising xs S Q E) : xs.length = p_are_rising.length ∧ wBody G E b_are_rising n_are_rising.length xs S Q := by
  obtain ⟨s, a, b, rfl, hl, q⟩ := h
  refine ⟨rfl, ?_⟩
  simp only [wBody, b_are_rising, b_are_rising_1, b_are_rising_2, n_are_rising, g3, wSs, wS, wT, wE, wEs, wO, wIt, start, setV, wipe, List.map_cons, List.map_nil, List.length_cons, List.length_nil, List.getElem?_cons_zero, List.getElem?_cons_succ, List.cons_append, List.nil_append, List.replicate, List.set_cons_zero, List.set_cons_succ, Nat.reduceAdd, Nat.reduceSub, Nat.zero_add, Option.bind_some, Option.some.injEq, exists_eq_left', if_true, if_false, Bool.false_eq_true, Bool.not_true, Bool.not_false, reduceIte, true_and, and_true, wNew_false, wNew_true, drf_non, drf_bl, drf_i, drf_s, drf_t, drf_l, drf_c, drf_d, drf_n, drf_x, drf_r, drfC_l, drfC_d, drfC_n, tr_b, tr_i, tr_s, tr_n, tr_l, tr_t, ty_non, ty_bl, ty_i, ty_s, ty_t, ty_l, ty_c, ty_d, ty_n, bin_add, bin_sub, bin_mul, bin_fdiv, bin_mod, bin_pow, add_i, add_s, add_l, add_t, sub_i, mul_i, mul_l, fdiv_i, mod_i, pow_i, neg_i, c_eq, c_ne, c_lt, c_gt, c_le, c_ge, c_in, c_nin, c_is, c_isn, lt_i, lt_s, eq_i, eq_s, eq_b, eq_sn, eq_l, eq_t, eq_lt, in_s, in_l, in_t, is_nn, is_bb, is_sn, is_in, is_tn, is_ln, is_on, ix_l, ix_t, ix_c, ix_s, ix_d, sl_l, sl_t, sl_c, sl_s, rev_s, bi_len, bi_int, bi_intb, bi_abs, bi_min2, bi_max2, bi_sumL, bi_anyL, bi_allL, bi_sorted, bi_list, bi_tuple, bi_repr, bi_divmod, len_s, len_l, len_t, len_c, len_d, so_l, so_s, li_l, li_t, li_s, tu_l, tu_t, mt_join, mt_app, mt_pop, ok_join, ok_app, ok_pop, set_r, as_n, ex_eq, wC_none, cut_1]
  have hL := line_is
  by_cases h1 : (s.length : Int) < a
  · rw [if_neg (by simp [h1])]
    refine drp_i ?_
    have e : rising s a b = false := by unfold rising; simp; omega
    rwa [e] at q
  rw [if_pos (by simp [h1])]
  by_cases h2 : b < (s.length : Int)
  · rw [if_pos (by simp [h2])]
    refine drp_i ?_
    have e : rising s a b = false := by unfold rising; simp; omega
    rwa [e] at q
  rw [if_neg (by simp [h2])]
  refine ⟨_, it_s, wComp_mapf _ (fun c => .bl (decide (c ∈ LET))) it_s s (fun c _ K1 k => ?_) ?_⟩
  · simp only [g2, wSs, wS, wT, wE, wEs, wO, wIt, start, setV, wipe, List.map_cons, List.map_nil, List.length_cons, List.length_nil, List.getElem?_cons_zero, List.getElem?_cons_succ, List.cons_append, List.nil_append, List.replicate, List.set_cons_zero, List.set_cons_succ, Nat.reduceAdd, Nat.reduceSub, Nat.zero_add, Option.bind_some, Option.some.injEq, exists_eq_left', if_true, if_false, Bool.false_eq_true, Bool.not_true, Bool.not_false, reduceIte, true_and, and_true, wNew_false, wNew_true, drf_non, drf_bl, drf_i, drf_s, drf_t, drf_l, drf_c, drf_d, drf_n, drf_x, drf_r, drfC_l, drfC_d, drfC_n, tr_b, tr_i, tr_s, tr_n, tr_l, tr_t, ty_non, ty_bl, ty_i, ty_s, ty_t, ty_l, ty_c, ty_d, ty_n, bin_add, bin_sub, bin_mul, bin_fdiv, bin_mod, bin_pow, add_i, add_s, add_l, add_t, sub_i, mul_i, mul_l, fdiv_i, mod_i, pow_i, neg_i, c_eq, c_ne, c_lt, c_gt, c_le, c_ge, c_in, c_nin, c_is, c_isn, lt_i, lt_s, eq_i, eq_s, eq_b, eq_sn, eq_l, eq_t, eq_lt, in_s, in_l, in_t, is_nn, is_bb, is_sn, is_in, is_tn, is_ln, is_on, ix_l, ix_t, ix_c, ix_s, ix_d, sl_l, sl_t, sl_c, sl_s, rev_s, bi_len, bi_int, bi_intb, bi_abs, bi_min2, bi_max2, bi_sumL, bi_anyL, bi_allL, bi_sorted, bi_list, bi_tuple, bi_repr, bi_divmod, len_s, len_l, len_t, len_c, len_d, so_l, so_s, li_l, li_t, li_s, tu_l, tu_t, mt_join, mt_app, mt_pop, ok_join, ok_app, ok_pop, set_r, as_n, ex_eq, wC_none, cut_1]
    exact k
  simp only [wSs, wS, wT, wE, wEs, wO, wIt, start, setV, wipe, List.map_cons, List.map_nil, List.length_cons, List.length_nil, List.getElem?_cons_zero, List.getElem?_cons_succ, List.cons_append, List.nil_append, List.replicate, List.set_cons_zero, List.set_cons_succ, Nat.reduceAdd, Nat.reduceSub, Nat.zero_add, Option.bind_some, Option.some.injEq, exists_eq_left', if_true, if_false, Bool.false_eq_true, Bool.not_true, Bool.not_false, reduceIte, true_and, and_true, wNew_false, wNew_true, drf_non, drf_bl, drf_i, drf_s, drf_t, drf_l, drf_c, drf_d, drf_n, drf_x, drf_r, drfC_l, drfC_d, drfC_n, tr_b, tr_i, tr_s, tr_n, tr_l, tr_t, ty_non, ty_bl, ty_i, ty_s, ty_t, ty_l, ty_c, ty_d, ty_n, bin_add, bin_sub, bin_mul, bin_fdiv, bin_mod, bin_pow, add_i, add_s, add_l, add_t, sub_i, mul_i, mul_l, fdiv_i, mod_i, pow_i, neg_i, c_eq, c_ne, c_lt, c_gt, c_le, c_ge, c_in, c_nin, c_is, c_isn, lt_i, lt_s, eq_i, eq_s, eq_b, eq_sn, eq_l, eq_t, eq_lt, in_s, in_l, in_t, is_nn, is_bb, is_sn, is_in, is_tn, is_ln, is_on, ix_l, ix_t, ix_c, ix_s, ix_d, sl_l, sl_t, sl_c, sl_s, rev_s, bi_len, bi_int, bi_intb, bi_abs, bi_min2, bi_max2, bi_sumL, bi_anyL, bi_allL, bi_sorted, bi_list, bi_tuple, bi_repr, bi_divmod, len_s, len_l, len_t, len_c, len_d, so_l, so_s, li_l, li_t, li_s, tu_l, tu_t, mt_join, mt_app, mt_pop, ok_join, ok_app, ok_pop, set_r, as_n, ex_eq, wC_none, cut_1, bools_map, all_id]
  by_cases h3 : s.all (fun c => decide (c ∈ LET)) = true
  · rw [if_neg (by simp only [h3]; decide)]
    refine ⟨by omega, by omega, ?_⟩
    have en : ((s.length : Int) - 1).toNat = s.length - 1 := by omega
    rw [en, rng0]
    refine wComp_mapf _ (fun k => .bl (decide (s.getD k 0 < s.getD (k + 1) 0))) trivial _ (fun k hk K1 h => ?_) ?_
    · have hk' := List.mem_range.mp hk
      simp only [wSs, wS, wT, wE, wEs, wO, wIt, start, setV, wipe, List.map_cons, List.map_nil, List.length_cons, List.length_nil, List.getElem?_cons_zero, List.getElem?_cons_succ, List.cons_append, List.nil_append, List.replicate, List.set_cons_zero, List.set_cons_succ, Nat.reduceAdd, Nat.reduceSub, Nat.zero_add, Option.bind_some, Option.some.injEq, exists_eq_left', if_true, if_false, Bool.false_eq_true, Bool.not_true, Bool.not_false, reduceIte, true_and, and_true, wNew_false, wNew_true, drf_non, drf_bl, drf_i, drf_s, drf_t, drf_l, drf_c, drf_d, drf_n, drf_x, drf_r, drfC_l, drfC_d, drfC_n, tr_b, tr_i, tr_s, tr_n, tr_l, tr_t, ty_non, ty_bl, ty_i, ty_s, ty_t, ty_l, ty_c, ty_d, ty_n, bin_add, bin_sub, bin_mul, bin_fdiv, bin_mod, bin_pow, add_i, add_s, add_l, add_t, sub_i, mul_i, mul_l, fdiv_i, mod_i, pow_i, neg_i, c_eq, c_ne, c_lt, c_gt, c_le, c_ge, c_in, c_nin, c_is, c_isn, lt_i, lt_s, eq_i, eq_s, eq_b, eq_sn, eq_l, eq_t, eq_lt, in_s, in_l, in_t, is_nn, is_bb, is_sn, is_in, is_tn, is_ln, is_on, ix_l, ix_t, ix_c, ix_s, ix_d, sl_l, sl_t, sl_c, sl_s, rev_s, bi_len, bi_int, bi_intb, bi_abs, bi_min2, bi_max2, bi_sumL, bi_anyL, bi_allL, bi_sorted, bi_list, bi_tuple, bi_repr, bi_divmod, len_s, len_l, len_t, len_c, len_d, so_l, so_s, li_l, li_t, li_s, tu_l, tu_t, mt_join, mt_app, mt_pop, ok_join, ok_app, ok_pop, set_r, as_n, ex_eq, wC_none, cut_1]
      refine ⟨s[k], bind_ixN (by omega), ?_⟩
      refine ⟨s[k + 1], bind_ixN (k := k + 1) (by omega), ?_⟩
      have : ltS [s[k]] [s[k + 1]] = decide (s.getD k 0 < s.getD (k + 1) 0) := by
        rw [ltS_one, getD_at (by omega), getD_at (by omega)]
      rw [this]
      exact h
    simp only [wSs, wS, wT, wE, wEs, wO, wIt, start, setV, wipe, List.map_cons, List.map_nil, List.length_cons, List.length_nil, List.getElem?_cons_zero, List.getElem?_cons_succ, List.cons_append, List.nil_append, List.replicate, List.set_cons_zero, List.set_cons_succ, Nat.reduceAdd, Nat.reduceSub, Nat.zero_add, Option.bind_some, Option.some.injEq, exists_eq_left', if_true, if_false, Bool.false_eq_true, Bool.not_true, Bool.not_false, reduceIte, true_and, and_true, wNew_false, wNew_true, drf_non, drf_bl, drf_i, drf_s, drf_t, drf_l, drf_c, drf_d, drf_n, drf_x, drf_r, drfC_l, drfC_d, drfC_n, tr_b, tr_i, tr_s, tr_n, tr_l, tr_t, ty_non, ty_bl, ty_i, ty_s, ty_t, ty_l, ty_c, ty_d, ty_n, bin_add, bin_sub, bin_mul, bin_fdiv, bin_mod, bin_pow, add_i, add_s, add_l, add_t, sub_i, mul_i, mul_l, fdiv_i, mod_i, pow_i, neg_i, c_eq, c_ne, c_lt, c_gt, c_le, c_ge, c_in, c_nin, c_is, c_isn, lt_i, lt_s, eq_i, eq_s, eq_b, eq_sn, eq_l, eq_t, eq_lt, in_s, in_l, in_t, is_nn, is_bb, is_sn, is_in, is_tn, is_ln, is_on, ix_l, ix_t, ix_c, ix_s, ix_d, sl_l, sl_t, sl_c, sl_s, rev_s, bi_len, bi_int, bi_intb, bi_abs, bi_min2, bi_max2, bi_sumL, bi_anyL, bi_allL, bi_sorted, bi_list, bi_tuple, bi_repr, bi_divmod, len_s, len_l, len_t, len_c, len_d, so_l, so_s, li_l, li_t, li_s, tu_l, tu_t, mt_join, mt_app, mt_pop, ok_join, ok_app, ok_pop, set_r, as_n, ex_eq, wC_none, cut_1, bools_map, all_id]
    refine drp_i ?_
    have e : rising s a b = (List.range (s.length - 1)).all (fun k => decide (s.getD k 0 < s.getD (k + 1) 0)) := by
      unfold rising
      rw [h3, decide_eq_true (by omega), decide_eq_true (by omega)]
      rfl
    rwa [e] at q
  · have h3' : s.all (fun c => decide (c ∈ LET)) = false := by simpa using h3
    rw [if_pos (by simp only [h3']; decide)]
    refine drp_i ?_
    have e : rising s a b = false := by unfold rising; rw [h3']; simp
    rwa [e] at q
theorem w_part (xs : List PV) (S : Sto) (Q : K1) (E : XP) (h : spPart xs S Q E) : xs.length = p_is_parting.length ∧ wBody G E b_is_parting n_is_parting.length xs S Q := by
  obtain ⟨t, v, rfl, hl, q⟩ := h
  refine ⟨rfl, ?_⟩
  simp only [wBody, b_is_parting, n_is_parting, k1, wSs, wS, wT, wE, wEs, wO, wIt, start, setV, wipe, List.map_cons, List.map_nil, List.length_cons, List.length_nil, List.getElem?_cons_zero, List.getElem?_cons_succ, List.cons_append, List.nil_append, List.replicate, List.set_cons_zero, List.set_cons_succ, Nat.reduceAdd, Nat.reduceSub, Nat.zero_add, Option.bind_some, Option.some.injEq, exists_eq_left', if_true, if_false, Bool.false_eq_true, Bool.not_true, Bool.not_false, reduceIte, true_and, and_true, wNew_false, wNew_true, drf_non, drf_bl, drf_i, drf_s, drf_t, drf_l, drf_c, drf_d, drf_n, drf_x, drf_r, drfC_l, drfC_d, drfC_n, tr_b, tr_i, tr_s, tr_n, tr_l, tr_t, ty_non, ty_bl, ty_i, ty_s, ty_t, ty_l, ty_c, ty_d, ty_n, bin_add, bin_sub, bin_mul, bin_fdiv, bin_mod, bin_pow, add_i, add_s, add_l, add_t, sub_i, mul_i, mul_l, fdiv_i, mod_i, pow_i, neg_i, c_eq, c_ne, c_lt, c_gt, c_le, c_ge, c_in, c_nin, c_is, c_isn, lt_i, lt_s, eq_i, eq_s, eq_b, eq_sn, eq_l, eq_t, eq_lt, in_s, in_l, in_t, is_nn, is_bb, is_sn, is_in, is_tn, is_ln, is_on, ix_l, ix_t, ix_c, ix_s, ix_d, sl_l, sl_t, sl_c, sl_s, rev_s, bi_len, bi_int, bi_intb, bi_abs, bi_min2, bi_max2, bi_sumL, bi_anyL, bi_allL, bi_sorted, bi_list, bi_tuple, bi_repr, bi_divmod, len_s, len_l, len_t, len_c, len_d, so_l, so_s, li_l, li_t, li_s, tu_l, tu_t, mt_join, mt_app, mt_pop, ok_join, ok_app, ok_pop, set_r, as_n, ex_eq, wC_none, cut_1]
  refine ⟨v, 1, _, rfl, hl, ?_⟩
  unfold isPart at q
  cases hr : rising v 1 ((t.length : Int) - 1) with
  | false =>
    rw [hr] at q
    exact drp_i q
  | true =>
    rw [hr, Bool.true_and] at q
    refine ⟨_, it_s, wComp_mapf _ (fun c => .bl (decide (c ∈ t.drop 1))) it_s v (fun c _ K1 k => ?_) ?_⟩
    · simp only [cut_1, wSs, wS, wT, wE, wEs, wO, wIt, start, setV, wipe, List.map_cons, List.map_nil, List.length_cons, List.length_nil, List.getElem?_cons_zero, List.getElem?_cons_succ, List.cons_append, List.nil_append, List.replicate, List.set_cons_zero, List.set_cons_succ, Nat.reduceAdd, Nat.reduceSub, Nat.zero_add, Option.bind_some, Option.some.injEq, exists_eq_left', if_true, if_false, Bool.false_eq_true, Bool.not_true, Bool.not_false, reduceIte, true_and, and_true, wNew_false, wNew_true, drf_non, drf_bl, drf_i, drf_s, drf_t, drf_l, drf_c, drf_d, drf_n, drf_x, drf_r, drfC_l, drfC_d, drfC_n, tr_b, tr_i, tr_s, tr_n, tr_l, tr_t, ty_non, ty_bl, ty_i, ty_s, ty_t, ty_l, ty_c, ty_d, ty_n, bin_add, bin_sub, bin_mul, bin_fdiv, bin_mod, bin_pow, add_i, add_s, add_l, add_t, sub_i, mul_i, mul_l, fdiv_i, mod_i, pow_i, neg_i, c_eq, c_ne, c_lt, c_gt, c_le, c_ge, c_in, c_nin, c_is, c_isn, lt_i, lt_s, eq_i, eq_s, eq_b, eq_sn, eq_l, eq_t, eq_lt, in_s, in_l, in_t, is_nn, is_bb, is_sn, is_in, is_tn, is_ln, is_on, ix_l, ix_t, ix_c, ix_s, ix_d, sl_l, sl_t, sl_c, sl_s, rev_s, bi_len, bi_int, bi_intb, bi_abs, bi_min2, bi_max2, bi_sumL, bi_anyL, bi_allL, bi_sorted, bi_list, bi_tuple, bi_repr, bi_divmod, len_s, len_l, len_t, len_c, len_d, so_l, so_s, li_l, li_t, li_s, tu_l, tu_t, mt_join, mt_app, mt_pop, ok_join, ok_app, ok_pop, set_r, as_n, ex_eq, wC_none, cut_1]
      exact k
    · simp only [bools_map, all_id, wSs, wS, wT, wE, wEs, wO, wIt, start, setV, wipe, List.map_cons, List.map_nil, List.length_cons, List.length_nil, List.getElem?_cons_zero, List.getElem?_cons_succ, List.cons_append, List.nil_append, List.replicate, List.set_cons_zero, List.set_cons_succ, Nat.reduceAdd, Nat.reduceSub, Nat.zero_add, Option.bind_some, Option.some.injEq, exists_eq_left', if_true, if_false, Bool.false_eq_true, Bool.not_true, Bool.not_false, reduceIte, true_and, and_true, wNew_false, wNew_true, drf_non, drf_bl, drf_i, drf_s, drf_t, drf_l, drf_c, drf_d, drf_n, drf_x, drf_r, drfC_l, drfC_d, drfC_n, tr_b, tr_i, tr_s, tr_n, tr_l, tr_t, ty_non, ty_bl, ty_i, ty_s, ty_t, ty_l, ty_c, ty_d, ty_n, bin_add, bin_sub, bin_mul, bin_fdiv, bin_mod, bin_pow, add_i, add_s, add_l, add_t, sub_i, mul_i, mul_l, fdiv_i, mod_i, pow_i, neg_i, c_eq, c_ne, c_lt, c_gt, c_le, c_ge, c_in, c_nin, c_is, c_isn, lt_i, lt_s, eq_i, eq_s, eq_b, eq_sn, eq_l, eq_t, eq_lt, in_s, in_l, in_t, is_nn, is_bb, is_sn, is_in, is_tn, is_ln, is_on, ix_l, ix_t, ix_c, ix_s, ix_d, sl_l, sl_t, sl_c, sl_s, rev_s, bi_len, bi_int, bi_intb, bi_abs, bi_min2, bi_max2, bi_sumL, bi_anyL, bi_allL, bi_sorted, bi_list, bi_tuple, bi_repr, bi_divmod, len_s, len_l, len_t, len_c, len_d, so_l, so_s, li_l, li_t, li_s, tu_l, tu_t, mt_join, mt_app, mt_pop, ok_join, ok_app, ok_pop, set_r, as_n, ex_eq, wC_none, cut_1]
      exact drp_i q
theorem w_check (xs : List PV) (S : Sto) (Q : K1) (E : XP) (h : spCheck xs S Q E) : xs.length = p_check_things.length ∧ wBody G E b_check_things n_check_things.length xs S Q := by
  obtain ⟨v, rfl, hl, hr, q⟩ := h
  refine ⟨rfl, ?_⟩
  simp only [wBody, b_check_things, n_check_things, k1, g4, g5, wSs, wS, wT, wE, wEs, wO, wIt, start, setV, wipe, List.map_cons, List.map_nil, List.length_cons, List.length_nil, List.getElem?_cons_zero, List.getElem?_cons_succ, List.cons_append, List.nil_append, List.replicate, List.set_cons_zero, List.set_cons_succ, Nat.reduceAdd, Nat.reduceSub, Nat.zero_add, Option.bind_some, Option.some.injEq, exists_eq_left', if_true, if_false, Bool.false_eq_true, Bool.not_true, Bool.not_false, reduceIte, true_and, and_true, wNew_false, wNew_true, drf_non, drf_bl, drf_i, drf_s, drf_t, drf_l, drf_c, drf_d, drf_n, drf_x, drf_r, drfC_l, drfC_d, drfC_n, tr_b, tr_i, tr_s, tr_n, tr_l, tr_t, ty_non, ty_bl, ty_i, ty_s, ty_t, ty_l, ty_c, ty_d, ty_n, bin_add, bin_sub, bin_mul, bin_fdiv, bin_mod, bin_pow, add_i, add_s, add_l, add_t, sub_i, mul_i, mul_l, fdiv_i, mod_i, pow_i, neg_i, c_eq, c_ne, c_lt, c_gt, c_le, c_ge, c_in, c_nin, c_is, c_isn, lt_i, lt_s, eq_i, eq_s, eq_b, eq_sn, eq_l, eq_t, eq_lt, in_s, in_l, in_t, is_nn, is_bb, is_sn, is_in, is_tn, is_ln, is_on, ix_l, ix_t, ix_c, ix_s, ix_d, sl_l, sl_t, sl_c, sl_s, rev_s, bi_len, bi_int, bi_intb, bi_abs, bi_min2, bi_max2, bi_sumL, bi_anyL, bi_allL, bi_sorted, bi_list, bi_tuple, bi_repr, bi_divmod, len_s, len_l, len_t, len_c, len_d, so_l, so_s, li_l, li_t, li_s, tu_l, tu_t, mt_join, mt_app, mt_pop, ok_join, ok_app, ok_pop, set_r, as_n, ex_eq, wC_none, cut_1]
  refine ⟨v, 2, 8, rfl, hl, true, by rw [hr]; rfl, drp_i q⟩
theorem w_order (xs : List PV) (S : Sto) (Q : K1) (E : XP) (h : spOrder xs S Q E) : xs.length = p_is_order.length ∧ wBody G E b_is_order n_is_order.length xs S Q := by
  obtain ⟨t, v, rfl, hl, q⟩ := h
  refine ⟨rfl, ?_⟩
  have hL := line_is
  simp only [wBody, b_is_order, n_is_order, g3, strs_map', srt_join, srt_sum, srt_len, wSs, wS, wT, wE, wEs, wO, wIt, start, setV, wipe, List.map_cons, List.map_nil, List.length_cons, List.length_nil, List.getElem?_cons_zero, List.getElem?_cons_succ, List.cons_append, List.nil_append, List.replicate, List.set_cons_zero, List.set_cons_succ, Nat.reduceAdd, Nat.reduceSub, Nat.zero_add, Option.bind_some, Option.some.injEq, exists_eq_left', if_true, if_false, Bool.false_eq_true, Bool.not_true, Bool.not_false, reduceIte, true_and, and_true, wNew_false, wNew_true, drf_non, drf_bl, drf_i, drf_s, drf_t, drf_l, drf_c, drf_d, drf_n, drf_x, drf_r, drfC_l, drfC_d, drfC_n, tr_b, tr_i, tr_s, tr_n, tr_l, tr_t, ty_non, ty_bl, ty_i, ty_s, ty_t, ty_l, ty_c, ty_d, ty_n, bin_add, bin_sub, bin_mul, bin_fdiv, bin_mod, bin_pow, add_i, add_s, add_l, add_t, sub_i, mul_i, mul_l, fdiv_i, mod_i, pow_i, neg_i, c_eq, c_ne, c_lt, c_gt, c_le, c_ge, c_in, c_nin, c_is, c_isn, lt_i, lt_s, eq_i, eq_s, eq_b, eq_sn, eq_l, eq_t, eq_lt, in_s, in_l, in_t, is_nn, is_bb, is_sn, is_in, is_tn, is_ln, is_on, ix_l, ix_t, ix_c, ix_s, ix_d, sl_l, sl_t, sl_c, sl_s, rev_s, bi_len, bi_int, bi_intb, bi_abs, bi_min2, bi_max2, bi_sumL, bi_anyL, bi_allL, bi_sorted, bi_list, bi_tuple, bi_repr, bi_divmod, len_s, len_l, len_t, len_c, len_d, so_l, so_s, li_l, li_t, li_s, tu_l, tu_t, mt_join, mt_app, mt_pop, ok_join, ok_app, ok_pop, set_r, as_n, ex_eq, wC_none, cut_1]
  exact ⟨by decide, by omega, drp_i q⟩
theorem w_turns (xs : List PV) (S : Sto) (Q : K1) (E : XP) (h : spTurns xs S Q E) : xs.length = p_turns_in.length ∧ wBody G E b_turns_in n_turns_in.length xs S Q := by
  obtain ⟨o, p, rfl, hl, q⟩ := h
  refine ⟨rfl, ?_⟩
  have hL := line_is
  simp only [wBody, b_turns_in, b_turns_in_1, n_turns_in, wSs, wS, wT, wE, wEs, wO, wIt, start, setV, wipe, List.map_cons, List.map_nil, List.length_cons, List.length_nil, List.getElem?_cons_zero, List.getElem?_cons_succ, List.cons_append, List.nil_append, List.replicate, List.set_cons_zero, List.set_cons_succ, Nat.reduceAdd, Nat.reduceSub, Nat.zero_add, Option.bind_some, Option.some.injEq, exists_eq_left', if_true, if_false, Bool.false_eq_true, Bool.not_true, Bool.not_false, reduceIte, true_and, and_true, wNew_false, wNew_true, drf_non, drf_bl, drf_i, drf_s, drf_t, drf_l, drf_c, drf_d, drf_n, drf_x, drf_r, drfC_l, drfC_d, drfC_n, tr_b, tr_i, tr_s, tr_n, tr_l, tr_t, ty_non, ty_bl, ty_i, ty_s, ty_t, ty_l, ty_c, ty_d, ty_n, bin_add, bin_sub, bin_mul, bin_fdiv, bin_mod, bin_pow, add_i, add_s, add_l, add_t, sub_i, mul_i, mul_l, fdiv_i, mod_i, pow_i, neg_i, c_eq, c_ne, c_lt, c_gt, c_le, c_ge, c_in, c_nin, c_is, c_isn, lt_i, lt_s, eq_i, eq_s, eq_b, eq_sn, eq_l, eq_t, eq_lt, in_s, in_l, in_t, is_nn, is_bb, is_sn, is_in, is_tn, is_ln, is_on, ix_l, ix_t, ix_c, ix_s, ix_d, sl_l, sl_t, sl_c, sl_s, rev_s, bi_len, bi_int, bi_intb, bi_abs, bi_min2, bi_max2, bi_sumL, bi_anyL, bi_allL, bi_sorted, bi_list, bi_tuple, bi_repr, bi_divmod, len_s, len_l, len_t, len_c, len_d, so_l, so_s, li_l, li_t, li_s, tu_l, tu_t, mt_join, mt_app, mt_pop, ok_join, ok_app, ok_pop, set_r, as_n, ex_eq, wC_none, cut_1]
  refine ⟨_, it_s, wComp_mapf _ (fun c => .bl (decide (c ∈ p))) it_s o (fun c _ K1 k => ?_) ?_⟩
  · simp only [wSs, wS, wT, wE, wEs, wO, wIt, start, setV, wipe, List.map_cons, List.map_nil, List.length_cons, List.length_nil, List.getElem?_cons_zero, List.getElem?_cons_succ, List.cons_append, List.nil_append, List.replicate, List.set_cons_zero, List.set_cons_succ, Nat.reduceAdd, Nat.reduceSub, Nat.zero_add, Option.bind_some, Option.some.injEq, exists_eq_left', if_true, if_false, Bool.false_eq_true, Bool.not_true, Bool.not_false, reduceIte, true_and, and_true, wNew_false, wNew_true, drf_non, drf_bl, drf_i, drf_s, drf_t, drf_l, drf_c, drf_d, drf_n, drf_x, drf_r, drfC_l, drfC_d, drfC_n, tr_b, tr_i, tr_s, tr_n, tr_l, tr_t, ty_non, ty_bl, ty_i, ty_s, ty_t, ty_l, ty_c, ty_d, ty_n, bin_add, bin_sub, bin_mul, bin_fdiv, bin_mod, bin_pow, add_i, add_s, add_l, add_t, sub_i, mul_i, mul_l, fdiv_i, mod_i, pow_i, neg_i, c_eq, c_ne, c_lt, c_gt, c_le, c_ge, c_in, c_nin, c_is, c_isn, lt_i, lt_s, eq_i, eq_s, eq_b, eq_sn, eq_l, eq_t, eq_lt, in_s, in_l, in_t, is_nn, is_bb, is_sn, is_in, is_tn, is_ln, is_on, ix_l, ix_t, ix_c, ix_s, ix_d, sl_l, sl_t, sl_c, sl_s, rev_s, bi_len, bi_int, bi_intb, bi_abs, bi_min2, bi_max2, bi_sumL, bi_anyL, bi_allL, bi_sorted, bi_list, bi_tuple, bi_repr, bi_divmod, len_s, len_l, len_t, len_c, len_d, so_l, so_s, li_l, li_t, li_s, tu_l, tu_t, mt_join, mt_app, mt_pop, ok_join, ok_app, ok_pop, set_r, as_n, ex_eq, wC_none, cut_1]
    exact k
  simp only [List.length_map, Int.toNat_natCast, rng0, wSs, wS, wT, wE, wEs, wO, wIt, start, setV, wipe, List.map_cons, List.map_nil, List.length_cons, List.length_nil, List.getElem?_cons_zero, List.getElem?_cons_succ, List.cons_append, List.nil_append, List.replicate, List.set_cons_zero, List.set_cons_succ, Nat.reduceAdd, Nat.reduceSub, Nat.zero_add, Option.bind_some, Option.some.injEq, exists_eq_left', if_true, if_false, Bool.false_eq_true, Bool.not_true, Bool.not_false, reduceIte, true_and, and_true, wNew_false, wNew_true, drf_non, drf_bl, drf_i, drf_s, drf_t, drf_l, drf_c, drf_d, drf_n, drf_x, drf_r, drfC_l, drfC_d, drfC_n, tr_b, tr_i, tr_s, tr_n, tr_l, tr_t, ty_non, ty_bl, ty_i, ty_s, ty_t, ty_l, ty_c, ty_d, ty_n, bin_add, bin_sub, bin_mul, bin_fdiv, bin_mod, bin_pow, add_i, add_s, add_l, add_t, sub_i, mul_i, mul_l, fdiv_i, mod_i, pow_i, neg_i, c_eq, c_ne, c_lt, c_gt, c_le, c_ge, c_in, c_nin, c_is, c_isn, lt_i, lt_s, eq_i, eq_s, eq_b, eq_sn, eq_l, eq_t, eq_lt, in_s, in_l, in_t, is_nn, is_bb, is_sn, is_in, is_tn, is_ln, is_on, ix_l, ix_t, ix_c, ix_s, ix_d, sl_l, sl_t, sl_c, sl_s, rev_s, bi_len, bi_int, bi_intb, bi_abs, bi_min2, bi_max2, bi_sumL, bi_anyL, bi_allL, bi_sorted, bi_list, bi_tuple, bi_repr, bi_divmod, len_s, len_l, len_t, len_c, len_d, so_l, so_s, li_l, li_t, li_s, tu_l, tu_t, mt_join, mt_app, mt_pop, ok_join, ok_app, ok_pop, set_r, as_n, ex_eq, wC_none, cut_1]
  refine ⟨by omega, by omega, ?_⟩
  refine wComp_filterf _ (fun k => (sides o p).getD k false != (sides o p).getD (if k = 0 then o.length - 1 else k - 1) false) (fun k => .int (k : Int)) trivial _ (fun k hk K1 K0 h => ?_) ?_
  · have hk' := List.mem_range.mp hk
    simp only [wSs, wS, wT, wE, wEs, wO, wIt, start, setV, wipe, List.map_cons, List.map_nil, List.length_cons, List.length_nil, List.getElem?_cons_zero, List.getElem?_cons_succ, List.cons_append, List.nil_append, List.replicate, List.set_cons_zero, List.set_cons_succ, Nat.reduceAdd, Nat.reduceSub, Nat.zero_add, Option.bind_some, Option.some.injEq, exists_eq_left', if_true, if_false, Bool.false_eq_true, Bool.not_true, Bool.not_false, reduceIte, true_and, and_true, wNew_false, wNew_true, drf_non, drf_bl, drf_i, drf_s, drf_t, drf_l, drf_c, drf_d, drf_n, drf_x, drf_r, drfC_l, drfC_d, drfC_n, tr_b, tr_i, tr_s, tr_n, tr_l, tr_t, ty_non, ty_bl, ty_i, ty_s, ty_t, ty_l, ty_c, ty_d, ty_n, bin_add, bin_sub, bin_mul, bin_fdiv, bin_mod, bin_pow, add_i, add_s, add_l, add_t, sub_i, mul_i, mul_l, fdiv_i, mod_i, pow_i, neg_i, c_eq, c_ne, c_lt, c_gt, c_le, c_ge, c_in, c_nin, c_is, c_isn, lt_i, lt_s, eq_i, eq_s, eq_b, eq_sn, eq_l, eq_t, eq_lt, in_s, in_l, in_t, is_nn, is_bb, is_sn, is_in, is_tn, is_ln, is_on, ix_l, ix_t, ix_c, ix_s, ix_d, sl_l, sl_t, sl_c, sl_s, rev_s, bi_len, bi_int, bi_intb, bi_abs, bi_min2, bi_max2, bi_sumL, bi_anyL, bi_allL, bi_sorted, bi_list, bi_tuple, bi_repr, bi_divmod, len_s, len_l, len_t, len_c, len_d, so_l, so_s, li_l, li_t, li_s, tu_l, tu_t, mt_join, mt_app, mt_pop, ok_join, ok_app, ok_pop, set_r, as_n, ex_eq, wC_none, cut_1]
    have hs : (sides o p).length = o.length := List.length_map _
    refine ⟨.bl ((sides o p).getD k false), ?_, ?_⟩
    · rw [List.length_map, ixN_nat hk']
      show (o.map fun c => PV.bl (decide (c ∈ p)))[k]? = _
      rw [List.getElem?_map, List.getElem?_eq_getElem hk', getD_at (by rw [hs]; exact hk')]
      simp [sides]
    refine ⟨.bl ((sides o p).getD (if k = 0 then o.length - 1 else k - 1) false), ?_, ?_⟩
    · rw [List.length_map]
      have e : ixN o.length ((k : Int) - 1) = some (if k = 0 then o.length - 1 else k - 1) := by
        unfold ixN
        by_cases h0 : k = 0
        · subst h0
          rw [if_neg (by omega), if_pos (by omega), if_pos rfl]
          congr 1
          omega
        · rw [if_pos (by omega), if_pos (by omega), if_neg h0]
          congr 1
          omega
      rw [e]
      show (o.map fun c => PV.bl (decide (c ∈ p)))[if k = 0 then o.length - 1 else k - 1]? = _
      have hlt : (if k = 0 then o.length - 1 else k - 1) < o.length := by split <;> omega
      rw [List.getElem?_map, List.getElem?_eq_getElem hlt, getD_at (by rw [hs]; exact hlt)]
      simp [sides]
    · simp only [wSs, wS, wT, wE, wEs, wO, wIt, start, setV, wipe, List.map_cons, List.map_nil, List.length_cons, List.length_nil, List.getElem?_cons_zero, List.getElem?_cons_succ, List.cons_append, List.nil_append, List.replicate, List.set_cons_zero, List.set_cons_succ, Nat.reduceAdd, Nat.reduceSub, Nat.zero_add, Option.bind_some, Option.some.injEq, exists_eq_left', if_true, if_false, Bool.false_eq_true, Bool.not_true, Bool.not_false, reduceIte, true_and, and_true, wNew_false, wNew_true, drf_non, drf_bl, drf_i, drf_s, drf_t, drf_l, drf_c, drf_d, drf_n, drf_x, drf_r, drfC_l, drfC_d, drfC_n, tr_b, tr_i, tr_s, tr_n, tr_l, tr_t, ty_non, ty_bl, ty_i, ty_s, ty_t, ty_l, ty_c, ty_d, ty_n, bin_add, bin_sub, bin_mul, bin_fdiv, bin_mod, bin_pow, add_i, add_s, add_l, add_t, sub_i, mul_i, mul_l, fdiv_i, mod_i, pow_i, neg_i, c_eq, c_ne, c_lt, c_gt, c_le, c_ge, c_in, c_nin, c_is, c_isn, lt_i, lt_s, eq_i, eq_s, eq_b, eq_sn, eq_l, eq_t, eq_lt, in_s, in_l, in_t, is_nn, is_bb, is_sn, is_in, is_tn, is_ln, is_on, ix_l, ix_t, ix_c, ix_s, ix_d, sl_l, sl_t, sl_c, sl_s, rev_s, bi_len, bi_int, bi_intb, bi_abs, bi_min2, bi_max2, bi_sumL, bi_anyL, bi_allL, bi_sorted, bi_list, bi_tuple, bi_repr, bi_divmod, len_s, len_l, len_t, len_c, len_d, so_l, so_s, li_l, li_t, li_s, tu_l, tu_t, mt_join, mt_app, mt_pop, ok_join, ok_app, ok_pop, set_r, as_n, ex_eq, wC_none, cut_1]
      exact h
  simp only [List.length_map, wSs, wS, wT, wE, wEs, wO, wIt, start, setV, wipe, List.map_cons, List.map_nil, List.length_cons, List.length_nil, List.getElem?_cons_zero, List.getElem?_cons_succ, List.cons_append, List.nil_append, List.replicate, List.set_cons_zero, List.set_cons_succ, Nat.reduceAdd, Nat.reduceSub, Nat.zero_add, Option.bind_some, Option.some.injEq, exists_eq_left', if_true, if_false, Bool.false_eq_true, Bool.not_true, Bool.not_false, reduceIte, true_and, and_true, wNew_false, wNew_true, drf_non, drf_bl, drf_i, drf_s, drf_t, drf_l, drf_c, drf_d, drf_n, drf_x, drf_r, drfC_l, drfC_d, drfC_n, tr_b, tr_i, tr_s, tr_n, tr_l, tr_t, ty_non, ty_bl, ty_i, ty_s, ty_t, ty_l, ty_c, ty_d, ty_n, bin_add, bin_sub, bin_mul, bin_fdiv, bin_mod, bin_pow, add_i, add_s, add_l, add_t, sub_i, mul_i, mul_l, fdiv_i, mod_i, pow_i, neg_i, c_eq, c_ne, c_lt, c_gt, c_le, c_ge, c_in, c_nin, c_is, c_isn, lt_i, lt_s, eq_i, eq_s, eq_b, eq_sn, eq_l, eq_t, eq_lt, in_s, in_l, in_t, is_nn, is_bb, is_sn, is_in, is_tn, is_ln, is_on, ix_l, ix_t, ix_c, ix_s, ix_d, sl_l, sl_t, sl_c, sl_s, rev_s, bi_len, bi_int, bi_intb, bi_abs, bi_min2, bi_max2, bi_sumL, bi_anyL, bi_allL, bi_sorted, bi_list, bi_tuple, bi_repr, bi_divmod, len_s, len_l, len_t, len_c, len_d, so_l, so_s, li_l, li_t, li_s, tu_l, tu_t, mt_join, mt_app, mt_pop, ok_join, ok_app, ok_pop, set_r, as_n, ex_eq, wC_none, cut_1]
  refine drp_i ?_
  have e : turnsB (sides o p) = ((List.range o.length).filter fun k => (sides o p).getD k false != (sides o p).getD (if k = 0 then o.length - 1 else k - 1) false).length := by
    unfold turnsB
    have hs : (sides o p).length = o.length := List.length_map _
    rw [hs]
  rwa [e] at q
theorem w_runs (xs : List PV) (S : Sto) (Q : K1) (E : XP) (h : spRuns xs S Q E) : xs.length = p_are_runs.length ∧ wBody G E b_are_runs n_are_runs.length xs S Q := by
  obtain ⟨o, ps, rfl, hl, q⟩ := h
  refine ⟨rfl, ?_⟩
  simp only [wBody, b_are_runs, n_are_runs, wSs, wS, wT, wE, wEs, wO, wIt, start, setV, wipe, List.map_cons, List.map_nil, List.length_cons, List.length_nil, List.getElem?_cons_zero, List.getElem?_cons_succ, List.cons_append, List.nil_append, List.replicate, List.set_cons_zero, List.set_cons_succ, Nat.reduceAdd, Nat.reduceSub, Nat.zero_add, Option.bind_some, Option.some.injEq, exists_eq_left', if_true, if_false, Bool.false_eq_true, Bool.not_true, Bool.not_false, reduceIte, true_and, and_true, wNew_false, wNew_true, drf_non, drf_bl, drf_i, drf_s, drf_t, drf_l, drf_c, drf_d, drf_n, drf_x, drf_r, drfC_l, drfC_d, drfC_n, tr_b, tr_i, tr_s, tr_n, tr_l, tr_t, ty_non, ty_bl, ty_i, ty_s, ty_t, ty_l, ty_c, ty_d, ty_n, bin_add, bin_sub, bin_mul, bin_fdiv, bin_mod, bin_pow, add_i, add_s, add_l, add_t, sub_i, mul_i, mul_l, fdiv_i, mod_i, pow_i, neg_i, c_eq, c_ne, c_lt, c_gt, c_le, c_ge, c_in, c_nin, c_is, c_isn, lt_i, lt_s, eq_i, eq_s, eq_b, eq_sn, eq_l, eq_t, eq_lt, in_s, in_l, in_t, is_nn, is_bb, is_sn, is_in, is_tn, is_ln, is_on, ix_l, ix_t, ix_c, ix_s, ix_d, sl_l, sl_t, sl_c, sl_s, rev_s, bi_len, bi_int, bi_intb, bi_abs, bi_min2, bi_max2, bi_sumL, bi_anyL, bi_allL, bi_sorted, bi_list, bi_tuple, bi_repr, bi_divmod, len_s, len_l, len_t, len_c, len_d, so_l, so_s, li_l, li_t, li_s, tu_l, tu_t, mt_join, mt_app, mt_pop, ok_join, ok_app, ok_pop, set_r, as_n, ex_eq, wC_none, cut_1]
  refine ⟨_, it_l, wComp_mapf _ (fun p => .bl (decide (turnsB (sides o p) ≤ 2))) it_l ps (fun p _ K1 k => ?_) ?_⟩
  · simp only [k5, wSs, wS, wT, wE, wEs, wO, wIt, start, setV, wipe, List.map_cons, List.map_nil, List.length_cons, List.length_nil, List.getElem?_cons_zero, List.getElem?_cons_succ, List.cons_append, List.nil_append, List.replicate, List.set_cons_zero, List.set_cons_succ, Nat.reduceAdd, Nat.reduceSub, Nat.zero_add, Option.bind_some, Option.some.injEq, exists_eq_left', if_true, if_false, Bool.false_eq_true, Bool.not_true, Bool.not_false, reduceIte, true_and, and_true, wNew_false, wNew_true, drf_non, drf_bl, drf_i, drf_s, drf_t, drf_l, drf_c, drf_d, drf_n, drf_x, drf_r, drfC_l, drfC_d, drfC_n, tr_b, tr_i, tr_s, tr_n, tr_l, tr_t, ty_non, ty_bl, ty_i, ty_s, ty_t, ty_l, ty_c, ty_d, ty_n, bin_add, bin_sub, bin_mul, bin_fdiv, bin_mod, bin_pow, add_i, add_s, add_l, add_t, sub_i, mul_i, mul_l, fdiv_i, mod_i, pow_i, neg_i, c_eq, c_ne, c_lt, c_gt, c_le, c_ge, c_in, c_nin, c_is, c_isn, lt_i, lt_s, eq_i, eq_s, eq_b, eq_sn, eq_l, eq_t, eq_lt, in_s, in_l, in_t, is_nn, is_bb, is_sn, is_in, is_tn, is_ln, is_on, ix_l, ix_t, ix_c, ix_s, ix_d, sl_l, sl_t, sl_c, sl_s, rev_s, bi_len, bi_int, bi_intb, bi_abs, bi_min2, bi_max2, bi_sumL, bi_anyL, bi_allL, bi_sorted, bi_list, bi_tuple, bi_repr, bi_divmod, len_s, len_l, len_t, len_c, len_d, so_l, so_s, li_l, li_t, li_s, tu_l, tu_t, mt_join, mt_app, mt_pop, ok_join, ok_app, ok_pop, set_r, as_n, ex_eq, wC_none, cut_1]
    refine ⟨o, p, rfl, hl, ?_⟩
    simp only [wSs, wS, wT, wE, wEs, wO, wIt, start, setV, wipe, List.map_cons, List.map_nil, List.length_cons, List.length_nil, List.getElem?_cons_zero, List.getElem?_cons_succ, List.cons_append, List.nil_append, List.replicate, List.set_cons_zero, List.set_cons_succ, Nat.reduceAdd, Nat.reduceSub, Nat.zero_add, Option.bind_some, Option.some.injEq, exists_eq_left', if_true, if_false, Bool.false_eq_true, Bool.not_true, Bool.not_false, reduceIte, true_and, and_true, wNew_false, wNew_true, drf_non, drf_bl, drf_i, drf_s, drf_t, drf_l, drf_c, drf_d, drf_n, drf_x, drf_r, drfC_l, drfC_d, drfC_n, tr_b, tr_i, tr_s, tr_n, tr_l, tr_t, ty_non, ty_bl, ty_i, ty_s, ty_t, ty_l, ty_c, ty_d, ty_n, bin_add, bin_sub, bin_mul, bin_fdiv, bin_mod, bin_pow, add_i, add_s, add_l, add_t, sub_i, mul_i, mul_l, fdiv_i, mod_i, pow_i, neg_i, c_eq, c_ne, c_lt, c_gt, c_le, c_ge, c_in, c_nin, c_is, c_isn, lt_i, lt_s, eq_i, eq_s, eq_b, eq_sn, eq_l, eq_t, eq_lt, in_s, in_l, in_t, is_nn, is_bb, is_sn, is_in, is_tn, is_ln, is_on, ix_l, ix_t, ix_c, ix_s, ix_d, sl_l, sl_t, sl_c, sl_s, rev_s, bi_len, bi_int, bi_intb, bi_abs, bi_min2, bi_max2, bi_sumL, bi_anyL, bi_allL, bi_sorted, bi_list, bi_tuple, bi_repr, bi_divmod, len_s, len_l, len_t, len_c, len_d, so_l, so_s, li_l, li_t, li_s, tu_l, tu_t, mt_join, mt_app, mt_pop, ok_join, ok_app, ok_pop, set_r, as_n, ex_eq, wC_none, cut_1]
    have e : (!decide ((2 : Int) < (turnsB (sides o p) : Int))) = decide (turnsB (sides o p) ≤ 2) := by
      rw [← decide_not, decide_eq_decide]
      omega
    rw [e]
    exact k
  · simp only [bools_map, all_id, wSs, wS, wT, wE, wEs, wO, wIt, start, setV, wipe, List.map_cons, List.map_nil, List.length_cons, List.length_nil, List.getElem?_cons_zero, List.getElem?_cons_succ, List.cons_append, List.nil_append, List.replicate, List.set_cons_zero, List.set_cons_succ, Nat.reduceAdd, Nat.reduceSub, Nat.zero_add, Option.bind_some, Option.some.injEq, exists_eq_left', if_true, if_false, Bool.false_eq_true, Bool.not_true, Bool.not_false, reduceIte, true_and, and_true, wNew_false, wNew_true, drf_non, drf_bl, drf_i, drf_s, drf_t, drf_l, drf_c, drf_d, drf_n, drf_x, drf_r, drfC_l, drfC_d, drfC_n, tr_b, tr_i, tr_s, tr_n, tr_l, tr_t, ty_non, ty_bl, ty_i, ty_s, ty_t, ty_l, ty_c, ty_d, ty_n, bin_add, bin_sub, bin_mul, bin_fdiv, bin_mod, bin_pow, add_i, add_s, add_l, add_t, sub_i, mul_i, mul_l, fdiv_i, mod_i, pow_i, neg_i, c_eq, c_ne, c_lt, c_gt, c_le, c_ge, c_in, c_nin, c_is, c_isn, lt_i, lt_s, eq_i, eq_s, eq_b, eq_sn, eq_l, eq_t, eq_lt, in_s, in_l, in_t, is_nn, is_bb, is_sn, is_in, is_tn, is_ln, is_on, ix_l, ix_t, ix_c, ix_s, ix_d, sl_l, sl_t, sl_c, sl_s, rev_s, bi_len, bi_int, bi_intb, bi_abs, bi_min2, bi_max2, bi_sumL, bi_anyL, bi_allL, bi_sorted, bi_list, bi_tuple, bi_repr, bi_divmod, len_s, len_l, len_t, len_c, len_d, so_l, so_s, li_l, li_t, li_s, tu_l, tu_t, mt_join, mt_app, mt_pop, ok_join, ok_app, ok_pop, set_r, as_n, ex_eq, wC_none, cut_1]
    exact drp_i q
theorem w_run (xs : List PV) (S : Sto) (Q : K1) (E : XP) (h : spRun xs S Q E) : xs.length = p_is_run.length ∧ wBody G E b_is_run n_is_run.length xs S Q := by
  obtain ⟨t, o, p, rfl, h1, h2, h3, hr, ho, hp, q⟩ := h
  refine ⟨rfl, ?_⟩
  simp only [wBody, b_is_run, b_is_run_1, b_is_run_2, b_is_run_3, n_is_run, k2, k3, k4, k6, wSs, wS, wT, wE, wEs, wO, wIt, start, setV, wipe, List.map_cons, List.map_nil, List.length_cons, List.length_nil, List.getElem?_cons_zero, List.getElem?_cons_succ, List.cons_append, List.nil_append, List.replicate, List.set_cons_zero, List.set_cons_succ, Nat.reduceAdd, Nat.reduceSub, Nat.zero_add, Option.bind_some, Option.some.injEq, exists_eq_left', if_true, if_false, Bool.false_eq_true, Bool.not_true, Bool.not_false, reduceIte, true_and, and_true, wNew_false, wNew_true, drf_non, drf_bl, drf_i, drf_s, drf_t, drf_l, drf_c, drf_d, drf_n, drf_x, drf_r, drfC_l, drfC_d, drfC_n, tr_b, tr_i, tr_s, tr_n, tr_l, tr_t, ty_non, ty_bl, ty_i, ty_s, ty_t, ty_l, ty_c, ty_d, ty_n, bin_add, bin_sub, bin_mul, bin_fdiv, bin_mod, bin_pow, add_i, add_s, add_l, add_t, sub_i, mul_i, mul_l, fdiv_i, mod_i, pow_i, neg_i, c_eq, c_ne, c_lt, c_gt, c_le, c_ge, c_in, c_nin, c_is, c_isn, lt_i, lt_s, eq_i, eq_s, eq_b, eq_sn, eq_l, eq_t, eq_lt, in_s, in_l, in_t, is_nn, is_bb, is_sn, is_in, is_tn, is_ln, is_on, ix_l, ix_t, ix_c, ix_s, ix_d, sl_l, sl_t, sl_c, sl_s, rev_s, bi_len, bi_int, bi_intb, bi_abs, bi_min2, bi_max2, bi_sumL, bi_anyL, bi_allL, bi_sorted, bi_list, bi_tuple, bi_repr, bi_divmod, len_s, len_l, len_t, len_c, len_d, so_l, so_s, li_l, li_t, li_s, tu_l, tu_t, mt_join, mt_app, mt_pop, ok_join, ok_app, ok_pop, set_r, as_n, ex_eq, wC_none, cut_1]
  refine ⟨t, rfl, h2, hr, ?_⟩
  refine ⟨t, o, rfl, h1, true, by rw [ho]; simp [truth, drf], ?_⟩
  simp only [wSs, wS, wT, wE, wEs, wO, wIt, start, setV, wipe, List.map_cons, List.map_nil, List.length_cons, List.length_nil, List.getElem?_cons_zero, List.getElem?_cons_succ, List.cons_append, List.nil_append, List.replicate, List.set_cons_zero, List.set_cons_succ, Nat.reduceAdd, Nat.reduceSub, Nat.zero_add, Option.bind_some, Option.some.injEq, exists_eq_left', if_true, if_false, Bool.false_eq_true, Bool.not_true, Bool.not_false, reduceIte, true_and, and_true, wNew_false, wNew_true, drf_non, drf_bl, drf_i, drf_s, drf_t, drf_l, drf_c, drf_d, drf_n, drf_x, drf_r, drfC_l, drfC_d, drfC_n, tr_b, tr_i, tr_s, tr_n, tr_l, tr_t, ty_non, ty_bl, ty_i, ty_s, ty_t, ty_l, ty_c, ty_d, ty_n, bin_add, bin_sub, bin_mul, bin_fdiv, bin_mod, bin_pow, add_i, add_s, add_l, add_t, sub_i, mul_i, mul_l, fdiv_i, mod_i, pow_i, neg_i, c_eq, c_ne, c_lt, c_gt, c_le, c_ge, c_in, c_nin, c_is, c_isn, lt_i, lt_s, eq_i, eq_s, eq_b, eq_sn, eq_l, eq_t, eq_lt, in_s, in_l, in_t, is_nn, is_bb, is_sn, is_in, is_tn, is_ln, is_on, ix_l, ix_t, ix_c, ix_s, ix_d, sl_l, sl_t, sl_c, sl_s, rev_s, bi_len, bi_int, bi_intb, bi_abs, bi_min2, bi_max2, bi_sumL, bi_anyL, bi_allL, bi_sorted, bi_list, bi_tuple, bi_repr, bi_divmod, len_s, len_l, len_t, len_c, len_d, so_l, so_s, li_l, li_t, li_s, tu_l, tu_t, mt_join, mt_app, mt_pop, ok_join, ok_app, ok_pop, set_r, as_n, ex_eq, wC_none, cut_1]
  refine ⟨t, p, rfl, h3, true, by rw [hp]; rfl, ?_⟩
  simp only [wSs, wS, wT, wE, wEs, wO, wIt, start, setV, wipe, List.map_cons, List.map_nil, List.length_cons, List.length_nil, List.getElem?_cons_zero, List.getElem?_cons_succ, List.cons_append, List.nil_append, List.replicate, List.set_cons_zero, List.set_cons_succ, Nat.reduceAdd, Nat.reduceSub, Nat.zero_add, Option.bind_some, Option.some.injEq, exists_eq_left', if_true, if_false, Bool.false_eq_true, Bool.not_true, Bool.not_false, reduceIte, true_and, and_true, wNew_false, wNew_true, drf_non, drf_bl, drf_i, drf_s, drf_t, drf_l, drf_c, drf_d, drf_n, drf_x, drf_r, drfC_l, drfC_d, drfC_n, tr_b, tr_i, tr_s, tr_n, tr_l, tr_t, ty_non, ty_bl, ty_i, ty_s, ty_t, ty_l, ty_c, ty_d, ty_n, bin_add, bin_sub, bin_mul, bin_fdiv, bin_mod, bin_pow, add_i, add_s, add_l, add_t, sub_i, mul_i, mul_l, fdiv_i, mod_i, pow_i, neg_i, c_eq, c_ne, c_lt, c_gt, c_le, c_ge, c_in, c_nin, c_is, c_isn, lt_i, lt_s, eq_i, eq_s, eq_b, eq_sn, eq_l, eq_t, eq_lt, in_s, in_l, in_t, is_nn, is_bb, is_sn, is_in, is_tn, is_ln, is_on, ix_l, ix_t, ix_c, ix_s, ix_d, sl_l, sl_t, sl_c, sl_s, rev_s, bi_len, bi_int, bi_intb, bi_abs, bi_min2, bi_max2, bi_sumL, bi_anyL, bi_allL, bi_sorted, bi_list, bi_tuple, bi_repr, bi_divmod, len_s, len_l, len_t, len_c, len_d, so_l, so_s, li_l, li_t, li_s, tu_l, tu_t, mt_join, mt_app, mt_pop, ok_join, ok_app, ok_pop, set_r, as_n, ex_eq, wC_none, cut_1]
  refine ⟨by decide, o, [p], rfl, h1, drp_i ?_⟩
  simpa using q
end K49
set_option maxRecDepth 100000
set_option maxHeartbeats 4000000
namespace K49
open PL
theorem log2_le {n b : Nat} (h : n < 2 ^ b) (hb : 0 < b) : n.log2 < b := by
  by_cases h0 : n = 0
  · subst h0; simpa using hb
  · exact (Nat.log2_lt h0).mpr h
theorem w_vat (hG : G.Mono) (xs : List PV) (S : Sto) (Q : K1) (E : XP) (h : spVat xs S Q E) : xs.length = p_q_vat.length ∧ wBody G E b_q_vat n_q_vat.length xs S Q := by
  obtain ⟨ns, k, rfl, hb, h0, h1, q⟩ := h
  refine ⟨rfl, ?_⟩
  have rest : ∀ own : Int, own.natAbs.log2 < 2000000 → wSs G E b_q_vat_1 ⟨fun _ S' => drp S.length .non S' Q, fun v S' => drp S.length v S' Q, fun _ _ => False, fun _ _ => False⟩ [some (.scr ns), some (.int k), some (.int own), none, none] S := by
    intro own ho
    simp only [b_q_vat_1, b_q_vat_2, b_q_vat_3, wSs, wS, wT, wE, wEs, wO, wIt, start, setV, wipe, List.map_cons, List.map_nil, List.length_cons, List.length_nil, List.getElem?_cons_zero, List.getElem?_cons_succ, List.cons_append, List.nil_append, List.replicate, List.set_cons_zero, List.set_cons_succ, Nat.reduceAdd, Nat.reduceSub, Nat.zero_add, Option.bind_some, Option.some.injEq, exists_eq_left', if_true, if_false, Bool.false_eq_true, Bool.not_true, Bool.not_false, reduceIte, true_and, and_true, wNew_false, wNew_true, drf_non, drf_bl, drf_i, drf_s, drf_t, drf_l, drf_c, drf_d, drf_n, drf_x, drf_r, drfC_l, drfC_d, drfC_n, tr_b, tr_i, tr_s, tr_n, tr_l, tr_t, ty_non, ty_bl, ty_i, ty_s, ty_t, ty_l, ty_c, ty_d, ty_n, bin_add, bin_sub, bin_mul, bin_fdiv, bin_mod, bin_pow, add_i, add_s, add_l, add_t, sub_i, mul_i, mul_l, fdiv_i, mod_i, pow_i, neg_i, c_eq, c_ne, c_lt, c_gt, c_le, c_ge, c_in, c_nin, c_is, c_isn, lt_i, lt_s, eq_i, eq_s, eq_b, eq_sn, eq_l, eq_t, eq_lt, in_s, in_l, in_t, is_nn, is_bb, is_sn, is_in, is_tn, is_ln, is_on, ix_l, ix_t, ix_c, ix_s, ix_d, sl_l, sl_t, sl_c, sl_s, rev_s, bi_len, bi_int, bi_intb, bi_abs, bi_min2, bi_max2, bi_sumL, bi_anyL, bi_allL, bi_sorted, bi_list, bi_tuple, bi_repr, bi_divmod, len_s, len_l, len_t, len_c, len_d, so_l, so_s, li_l, li_t, li_s, tu_l, tu_t, mt_join, mt_app, mt_pop, ok_join, ok_app, ok_pop, set_r, as_n, ex_eq, wC_none, cut_1]
    refine ⟨?_, _, it_l, ?_⟩
    · have e1 : (Int.natAbs 8009).log2 < 20 := by decide
      have e2 : k.natAbs.log2 < 20 := log2_le (by omega) (by omega)
      omega
    refine wFor_ind hG (p := .nm 4) (b := b_q_vat_L1) (fun r ρ S' => S' = S ∧ (∃ zs : List Int, r = zs.map .int) ∧ ∃ (mx : Int) (o : Option PV), 0 ≤ mx ∧ mx < 10000000000 ∧ ρ = [some (.scr ns), some (.int k), some (.int own), some (.int mx), o]) (fun r ρ S' _ => it_l) ?_ ?_ _ _ _ ⟨rfl, ⟨_, rfl⟩, _, _, by omega, by omega, rfl⟩
    · rintro x r ρ S' ⟨rfl, ⟨zs, hz⟩, mx, o, m0, m1, rfl⟩
      cases zs with
      | nil => cases hz
      | cons z zs =>
        rw [List.map_cons] at hz
        obtain ⟨rfl, rfl⟩ := List.cons.inj hz
        simp only [b_q_vat_L1, wSs, wS, wT, wE, wEs, wO, wIt, start, setV, wipe, List.map_cons, List.map_nil, List.length_cons, List.length_nil, List.getElem?_cons_zero, List.getElem?_cons_succ, List.cons_append, List.nil_append, List.replicate, List.set_cons_zero, List.set_cons_succ, Nat.reduceAdd, Nat.reduceSub, Nat.zero_add, Option.bind_some, Option.some.injEq, exists_eq_left', if_true, if_false, Bool.false_eq_true, Bool.not_true, Bool.not_false, reduceIte, true_and, and_true, wNew_false, wNew_true, drf_non, drf_bl, drf_i, drf_s, drf_t, drf_l, drf_c, drf_d, drf_n, drf_x, drf_r, drfC_l, drfC_d, drfC_n, tr_b, tr_i, tr_s, tr_n, tr_l, tr_t, ty_non, ty_bl, ty_i, ty_s, ty_t, ty_l, ty_c, ty_d, ty_n, bin_add, bin_sub, bin_mul, bin_fdiv, bin_mod, bin_pow, add_i, add_s, add_l, add_t, sub_i, mul_i, mul_l, fdiv_i, mod_i, pow_i, neg_i, c_eq, c_ne, c_lt, c_gt, c_le, c_ge, c_in, c_nin, c_is, c_isn, lt_i, lt_s, eq_i, eq_s, eq_b, eq_sn, eq_l, eq_t, eq_lt, in_s, in_l, in_t, is_nn, is_bb, is_sn, is_in, is_tn, is_ln, is_on, ix_l, ix_t, ix_c, ix_s, ix_d, sl_l, sl_t, sl_c, sl_s, rev_s, bi_len, bi_int, bi_intb, bi_abs, bi_min2, bi_max2, bi_sumL, bi_anyL, bi_allL, bi_sorted, bi_list, bi_tuple, bi_repr, bi_divmod, len_s, len_l, len_t, len_c, len_d, so_l, so_s, li_l, li_t, li_s, tu_l, tu_t, mt_join, mt_app, mt_pop, ok_join, ok_app, ok_pop, set_r, as_n, ex_eq, wC_none, cut_1]
        have e1 : (Int.natAbs 25219).log2 < 20 := by decide
        have e2 : mx.natAbs.log2 < 40 := log2_le (by omega) (by omega)
        exact ⟨by omega, by omega, ⟨zs, rfl⟩, _, _, Int.emod_nonneg _ (by omega), by have := Int.emod_lt_of_pos (mx * 25219 + z) (show (0 : Int) < 2147483269 from by omega); omega, rfl⟩
    · rintro ρ S' ⟨rfl, _, mx, o, m0, m1, rfl⟩
      have e1 : (Int.natAbs 6029).log2 < 20 := by decide
      have jar : ∀ d : Int, 0 ≤ d → Jar 0 (.lst [.int ((mx + own * 6029) % 2147483269), .int 0, .int d]) := fun d hd =>
        ⟨_, 0, d, rfl, Int.emod_nonneg _ (by omega), Int.emod_lt_of_pos _ (show (0 : Int) < 2147483269 from by omega), by omega, by omega, hd⟩
      simp only [wSs, wS, wT, wE, wEs, wO, wIt, start, setV, wipe, List.map_cons, List.map_nil, List.length_cons, List.length_nil, List.getElem?_cons_zero, List.getElem?_cons_succ, List.cons_append, List.nil_append, List.replicate, List.set_cons_zero, List.set_cons_succ, Nat.reduceAdd, Nat.reduceSub, Nat.zero_add, Option.bind_some, Option.some.injEq, exists_eq_left', if_true, if_false, Bool.false_eq_true, Bool.not_true, Bool.not_false, reduceIte, true_and, and_true, wNew_false, wNew_true, drf_non, drf_bl, drf_i, drf_s, drf_t, drf_l, drf_c, drf_d, drf_n, drf_x, drf_r, drfC_l, drfC_d, drfC_n, tr_b, tr_i, tr_s, tr_n, tr_l, tr_t, ty_non, ty_bl, ty_i, ty_s, ty_t, ty_l, ty_c, ty_d, ty_n, bin_add, bin_sub, bin_mul, bin_fdiv, bin_mod, bin_pow, add_i, add_s, add_l, add_t, sub_i, mul_i, mul_l, fdiv_i, mod_i, pow_i, neg_i, c_eq, c_ne, c_lt, c_gt, c_le, c_ge, c_in, c_nin, c_is, c_isn, lt_i, lt_s, eq_i, eq_s, eq_b, eq_sn, eq_l, eq_t, eq_lt, in_s, in_l, in_t, is_nn, is_bb, is_sn, is_in, is_tn, is_ln, is_on, ix_l, ix_t, ix_c, ix_s, ix_d, sl_l, sl_t, sl_c, sl_s, rev_s, bi_len, bi_int, bi_intb, bi_abs, bi_min2, bi_max2, bi_sumL, bi_anyL, bi_allL, bi_sorted, bi_list, bi_tuple, bi_repr, bi_divmod, len_s, len_l, len_t, len_c, len_d, so_l, so_s, li_l, li_t, li_s, tu_l, tu_t, mt_join, mt_app, mt_pop, ok_join, ok_app, ok_pop, set_r, as_n, ex_eq, wC_none, cut_1]
      refine ⟨by omega, ?_⟩
      have hL := line_is
      by_cases hn : own < 0
      · rw [if_pos (by simp [hn])]
        exact ⟨by omega, by omega, drp_i (q _ (jar _ (by first | omega | (split <;> omega))))⟩
      · rw [if_neg (by simp [hn])]
        refine ⟨by omega, by omega, by omega, by decide, ?_⟩
        split
        · exact ⟨by omega, drp_i (q _ (jar _ (by first | omega | (split <;> omega))))⟩
        · exact ⟨by omega, drp_i (q _ (jar _ (by omega)))⟩
  simp only [wBody, b_q_vat, n_q_vat, wSs, wS, wT, wE, wEs, wO, wIt, start, setV, wipe, List.map_cons, List.map_nil, List.length_cons, List.length_nil, List.getElem?_cons_zero, List.getElem?_cons_succ, List.cons_append, List.nil_append, List.replicate, List.set_cons_zero, List.set_cons_succ, Nat.reduceAdd, Nat.reduceSub, Nat.zero_add, Option.bind_some, Option.some.injEq, exists_eq_left', if_true, if_false, Bool.false_eq_true, Bool.not_true, Bool.not_false, reduceIte, true_and, and_true, wNew_false, wNew_true, drf_non, drf_bl, drf_i, drf_s, drf_t, drf_l, drf_c, drf_d, drf_n, drf_x, drf_r, drfC_l, drfC_d, drfC_n, tr_b, tr_i, tr_s, tr_n, tr_l, tr_t, ty_non, ty_bl, ty_i, ty_s, ty_t, ty_l, ty_c, ty_d, ty_n, bin_add, bin_sub, bin_mul, bin_fdiv, bin_mod, bin_pow, add_i, add_s, add_l, add_t, sub_i, mul_i, mul_l, fdiv_i, mod_i, pow_i, neg_i, c_eq, c_ne, c_lt, c_gt, c_le, c_ge, c_in, c_nin, c_is, c_isn, lt_i, lt_s, eq_i, eq_s, eq_b, eq_sn, eq_l, eq_t, eq_lt, in_s, in_l, in_t, is_nn, is_bb, is_sn, is_in, is_tn, is_ln, is_on, ix_l, ix_t, ix_c, ix_s, ix_d, sl_l, sl_t, sl_c, sl_s, rev_s, bi_len, bi_int, bi_intb, bi_abs, bi_min2, bi_max2, bi_sumL, bi_anyL, bi_allL, bi_sorted, bi_list, bi_tuple, bi_repr, bi_divmod, len_s, len_l, len_t, len_c, len_d, so_l, so_s, li_l, li_t, li_s, tu_l, tu_t, mt_join, mt_app, mt_pop, ok_join, ok_app, ok_pop, set_r, as_n, ex_eq, wC_none, cut_1]
  by_cases hk : k < (ns.length : Int)
  · rw [if_pos (by simp [hk])]
    have hkn : k.toNat < ns.length := by omega
    refine ⟨ns[k.toNat], ?_, rest _ ?_⟩
    · have := bind_ixN hkn
      rwa [show ((k.toNat : Nat) : Int) = k from by omega] at this
    · have := hb _ (List.getElem_mem hkn)
      omega
  · rw [if_neg (by simp [hk])]
    have e1 : (Int.natAbs 67).log2 < 20 := by decide
    have e2 : k.natAbs.log2 < 20 := log2_le (by omega) (by omega)
    refine ⟨by omega, rest _ ?_⟩
    have : (67 * k + 23).natAbs.log2 < 40 := log2_le (by omega) (by omega)
    omega
theorem w_nip (xs : List PV) (S : Sto) (Q : K1) (E : XP) (h : spNip xs S Q E) : xs.length = p_q_nip.length ∧ wBody G E b_q_nip n_q_nip.length xs S Q := by
  obtain ⟨v, top, c, n, rfl, hv, ⟨a, b, d, rfl, a0, a1, b0, b1, d0⟩, hn, t0, t1, q⟩ := h
  refine ⟨rfl, ?_⟩
  have hvl : v < S.length := (List.getElem?_eq_some_iff.mp hv).1
  have sv : ∀ c : Cell, (S.set v c)[v]? = some c := fun c => List.getElem?_set_self hvl
  unfold MOD at a1
  simp only [wBody, b_q_nip, b_q_nip_1, b_q_nip_2, b_q_nip_3, b_q_nip_4, b_q_nip_5, n_q_nip, hv, wSs, wS, wT, wE, wEs, wO, wIt, start, setV, wipe, List.map_cons, List.map_nil, List.length_cons, List.length_nil, List.getElem?_cons_zero, List.getElem?_cons_succ, List.cons_append, List.nil_append, List.replicate, List.set_cons_zero, List.set_cons_succ, Nat.reduceAdd, Nat.reduceSub, Nat.zero_add, Option.bind_some, Option.some.injEq, exists_eq_left', if_true, if_false, Bool.false_eq_true, Bool.not_true, Bool.not_false, reduceIte, true_and, and_true, wNew_false, wNew_true, drf_non, drf_bl, drf_i, drf_s, drf_t, drf_l, drf_c, drf_d, drf_n, drf_x, drf_r, drfC_l, drfC_d, drfC_n, tr_b, tr_i, tr_s, tr_n, tr_l, tr_t, ty_non, ty_bl, ty_i, ty_s, ty_t, ty_l, ty_c, ty_d, ty_n, bin_add, bin_sub, bin_mul, bin_fdiv, bin_mod, bin_pow, add_i, add_s, add_l, add_t, sub_i, mul_i, mul_l, fdiv_i, mod_i, pow_i, neg_i, c_eq, c_ne, c_lt, c_gt, c_le, c_ge, c_in, c_nin, c_is, c_isn, lt_i, lt_s, eq_i, eq_s, eq_b, eq_sn, eq_l, eq_t, eq_lt, in_s, in_l, in_t, is_nn, is_bb, is_sn, is_in, is_tn, is_ln, is_on, ix_l, ix_t, ix_c, ix_s, ix_d, sl_l, sl_t, sl_c, sl_s, rev_s, bi_len, bi_int, bi_intb, bi_abs, bi_min2, bi_max2, bi_sumL, bi_anyL, bi_allL, bi_sorted, bi_list, bi_tuple, bi_repr, bi_divmod, len_s, len_l, len_t, len_c, len_d, so_l, so_s, li_l, li_t, li_s, tu_l, tu_t, mt_join, mt_app, mt_pop, ok_join, ok_app, ok_pop, set_r, as_n, ex_eq, wC_none, cut_1]
  refine ⟨.int b, rfl, ?_⟩
  simp only [wSs, wS, wT, wE, wEs, wO, wIt, start, setV, wipe, List.map_cons, List.map_nil, List.length_cons, List.length_nil, List.getElem?_cons_zero, List.getElem?_cons_succ, List.cons_append, List.nil_append, List.replicate, List.set_cons_zero, List.set_cons_succ, Nat.reduceAdd, Nat.reduceSub, Nat.zero_add, Option.bind_some, Option.some.injEq, exists_eq_left', if_true, if_false, Bool.false_eq_true, Bool.not_true, Bool.not_false, reduceIte, true_and, and_true, wNew_false, wNew_true, drf_non, drf_bl, drf_i, drf_s, drf_t, drf_l, drf_c, drf_d, drf_n, drf_x, drf_r, drfC_l, drfC_d, drfC_n, tr_b, tr_i, tr_s, tr_n, tr_l, tr_t, ty_non, ty_bl, ty_i, ty_s, ty_t, ty_l, ty_c, ty_d, ty_n, bin_add, bin_sub, bin_mul, bin_fdiv, bin_mod, bin_pow, add_i, add_s, add_l, add_t, sub_i, mul_i, mul_l, fdiv_i, mod_i, pow_i, neg_i, c_eq, c_ne, c_lt, c_gt, c_le, c_ge, c_in, c_nin, c_is, c_isn, lt_i, lt_s, eq_i, eq_s, eq_b, eq_sn, eq_l, eq_t, eq_lt, in_s, in_l, in_t, is_nn, is_bb, is_sn, is_in, is_tn, is_ln, is_on, ix_l, ix_t, ix_c, ix_s, ix_d, sl_l, sl_t, sl_c, sl_s, rev_s, bi_len, bi_int, bi_intb, bi_abs, bi_min2, bi_max2, bi_sumL, bi_anyL, bi_allL, bi_sorted, bi_list, bi_tuple, bi_repr, bi_divmod, len_s, len_l, len_t, len_c, len_d, so_l, so_s, li_l, li_t, li_s, tu_l, tu_t, mt_join, mt_app, mt_pop, ok_join, ok_app, ok_pop, set_r, as_n, ex_eq, wC_none, cut_1]
  refine ⟨_, 1, hv, rfl, ?_⟩
  simp only [sv, wSs, wS, wT, wE, wEs, wO, wIt, start, setV, wipe, List.map_cons, List.map_nil, List.length_cons, List.length_nil, List.getElem?_cons_zero, List.getElem?_cons_succ, List.cons_append, List.nil_append, List.replicate, List.set_cons_zero, List.set_cons_succ, Nat.reduceAdd, Nat.reduceSub, Nat.zero_add, Option.bind_some, Option.some.injEq, exists_eq_left', if_true, if_false, Bool.false_eq_true, Bool.not_true, Bool.not_false, reduceIte, true_and, and_true, wNew_false, wNew_true, drf_non, drf_bl, drf_i, drf_s, drf_t, drf_l, drf_c, drf_d, drf_n, drf_x, drf_r, drfC_l, drfC_d, drfC_n, tr_b, tr_i, tr_s, tr_n, tr_l, tr_t, ty_non, ty_bl, ty_i, ty_s, ty_t, ty_l, ty_c, ty_d, ty_n, bin_add, bin_sub, bin_mul, bin_fdiv, bin_mod, bin_pow, add_i, add_s, add_l, add_t, sub_i, mul_i, mul_l, fdiv_i, mod_i, pow_i, neg_i, c_eq, c_ne, c_lt, c_gt, c_le, c_ge, c_in, c_nin, c_is, c_isn, lt_i, lt_s, eq_i, eq_s, eq_b, eq_sn, eq_l, eq_t, eq_lt, in_s, in_l, in_t, is_nn, is_bb, is_sn, is_in, is_tn, is_ln, is_on, ix_l, ix_t, ix_c, ix_s, ix_d, sl_l, sl_t, sl_c, sl_s, rev_s, bi_len, bi_int, bi_intb, bi_abs, bi_min2, bi_max2, bi_sumL, bi_anyL, bi_allL, bi_sorted, bi_list, bi_tuple, bi_repr, bi_divmod, len_s, len_l, len_t, len_c, len_d, so_l, so_s, li_l, li_t, li_s, tu_l, tu_t, mt_join, mt_app, mt_pop, ok_join, ok_app, ok_pop, set_r, as_n, ex_eq, wC_none, cut_1]
  refine ⟨.int d, rfl, ?_⟩
  simp only [wSs, wS, wT, wE, wEs, wO, wIt, start, setV, wipe, List.map_cons, List.map_nil, List.length_cons, List.length_nil, List.getElem?_cons_zero, List.getElem?_cons_succ, List.cons_append, List.nil_append, List.replicate, List.set_cons_zero, List.set_cons_succ, Nat.reduceAdd, Nat.reduceSub, Nat.zero_add, Option.bind_some, Option.some.injEq, exists_eq_left', if_true, if_false, Bool.false_eq_true, Bool.not_true, Bool.not_false, reduceIte, true_and, and_true, wNew_false, wNew_true, drf_non, drf_bl, drf_i, drf_s, drf_t, drf_l, drf_c, drf_d, drf_n, drf_x, drf_r, drfC_l, drfC_d, drfC_n, tr_b, tr_i, tr_s, tr_n, tr_l, tr_t, ty_non, ty_bl, ty_i, ty_s, ty_t, ty_l, ty_c, ty_d, ty_n, bin_add, bin_sub, bin_mul, bin_fdiv, bin_mod, bin_pow, add_i, add_s, add_l, add_t, sub_i, mul_i, mul_l, fdiv_i, mod_i, pow_i, neg_i, c_eq, c_ne, c_lt, c_gt, c_le, c_ge, c_in, c_nin, c_is, c_isn, lt_i, lt_s, eq_i, eq_s, eq_b, eq_sn, eq_l, eq_t, eq_lt, in_s, in_l, in_t, is_nn, is_bb, is_sn, is_in, is_tn, is_ln, is_on, ix_l, ix_t, ix_c, ix_s, ix_d, sl_l, sl_t, sl_c, sl_s, rev_s, bi_len, bi_int, bi_intb, bi_abs, bi_min2, bi_max2, bi_sumL, bi_anyL, bi_allL, bi_sorted, bi_list, bi_tuple, bi_repr, bi_divmod, len_s, len_l, len_t, len_c, len_d, so_l, so_s, li_l, li_t, li_s, tu_l, tu_t, mt_join, mt_app, mt_pop, ok_join, ok_app, ok_pop, set_r, as_n, ex_eq, wC_none, cut_1]
  by_cases hd : 0 < d
  · rw [if_pos (by simp [hd])]
    refine ⟨.int d, rfl, ?_⟩
    simp only [wSs, wS, wT, wE, wEs, wO, wIt, start, setV, wipe, List.map_cons, List.map_nil, List.length_cons, List.length_nil, List.getElem?_cons_zero, List.getElem?_cons_succ, List.cons_append, List.nil_append, List.replicate, List.set_cons_zero, List.set_cons_succ, Nat.reduceAdd, Nat.reduceSub, Nat.zero_add, Option.bind_some, Option.some.injEq, exists_eq_left', if_true, if_false, Bool.false_eq_true, Bool.not_true, Bool.not_false, reduceIte, true_and, and_true, wNew_false, wNew_true, drf_non, drf_bl, drf_i, drf_s, drf_t, drf_l, drf_c, drf_d, drf_n, drf_x, drf_r, drfC_l, drfC_d, drfC_n, tr_b, tr_i, tr_s, tr_n, tr_l, tr_t, ty_non, ty_bl, ty_i, ty_s, ty_t, ty_l, ty_c, ty_d, ty_n, bin_add, bin_sub, bin_mul, bin_fdiv, bin_mod, bin_pow, add_i, add_s, add_l, add_t, sub_i, mul_i, mul_l, fdiv_i, mod_i, pow_i, neg_i, c_eq, c_ne, c_lt, c_gt, c_le, c_ge, c_in, c_nin, c_is, c_isn, lt_i, lt_s, eq_i, eq_s, eq_b, eq_sn, eq_l, eq_t, eq_lt, in_s, in_l, in_t, is_nn, is_bb, is_sn, is_in, is_tn, is_ln, is_on, ix_l, ix_t, ix_c, ix_s, ix_d, sl_l, sl_t, sl_c, sl_s, rev_s, bi_len, bi_int, bi_intb, bi_abs, bi_min2, bi_max2, bi_sumL, bi_anyL, bi_allL, bi_sorted, bi_list, bi_tuple, bi_repr, bi_divmod, len_s, len_l, len_t, len_c, len_d, so_l, so_s, li_l, li_t, li_s, tu_l, tu_t, mt_join, mt_app, mt_pop, ok_join, ok_app, ok_pop, set_r, as_n, ex_eq, wC_none, cut_1]
    refine ⟨by omega, by omega, ?_⟩
    refine ⟨_, 2, sv _, rfl, drp_i ?_⟩
    rw [List.set_set]
    exact q _ _ ⟨a, b + 1, d / top, rfl, a0, by unfold MOD; omega, by omega, by omega, Int.ediv_nonneg (by omega) (by omega)⟩ (Int.emod_nonneg _ (by omega)) (Int.emod_lt_of_pos _ (by omega))
  · rw [if_neg (by simp [hd])]
    refine ⟨.int a, rfl, ?_⟩
    simp only [wSs, wS, wT, wE, wEs, wO, wIt, start, setV, wipe, List.map_cons, List.map_nil, List.length_cons, List.length_nil, List.getElem?_cons_zero, List.getElem?_cons_succ, List.cons_append, List.nil_append, List.replicate, List.set_cons_zero, List.set_cons_succ, Nat.reduceAdd, Nat.reduceSub, Nat.zero_add, Option.bind_some, Option.some.injEq, exists_eq_left', if_true, if_false, Bool.false_eq_true, Bool.not_true, Bool.not_false, reduceIte, true_and, and_true, wNew_false, wNew_true, drf_non, drf_bl, drf_i, drf_s, drf_t, drf_l, drf_c, drf_d, drf_n, drf_x, drf_r, drfC_l, drfC_d, drfC_n, tr_b, tr_i, tr_s, tr_n, tr_l, tr_t, ty_non, ty_bl, ty_i, ty_s, ty_t, ty_l, ty_c, ty_d, ty_n, bin_add, bin_sub, bin_mul, bin_fdiv, bin_mod, bin_pow, add_i, add_s, add_l, add_t, sub_i, mul_i, mul_l, fdiv_i, mod_i, pow_i, neg_i, c_eq, c_ne, c_lt, c_gt, c_le, c_ge, c_in, c_nin, c_is, c_isn, lt_i, lt_s, eq_i, eq_s, eq_b, eq_sn, eq_l, eq_t, eq_lt, in_s, in_l, in_t, is_nn, is_bb, is_sn, is_in, is_tn, is_ln, is_on, ix_l, ix_t, ix_c, ix_s, ix_d, sl_l, sl_t, sl_c, sl_s, rev_s, bi_len, bi_int, bi_intb, bi_abs, bi_min2, bi_max2, bi_sumL, bi_anyL, bi_allL, bi_sorted, bi_list, bi_tuple, bi_repr, bi_divmod, len_s, len_l, len_t, len_c, len_d, so_l, so_s, li_l, li_t, li_s, tu_l, tu_t, mt_join, mt_app, mt_pop, ok_join, ok_app, ok_pop, set_r, as_n, ex_eq, wC_none, cut_1]
    have ef := Int.emod_nonneg a (show (17011 : Int) ≠ 0 from by omega)
    have ef2 := Int.emod_lt_of_pos a (show (0 : Int) < 17011 from by omega)
    have e1 : a.natAbs.log2 < 40 := log2_le (by omega) (by omega)
    have e2 : (a % 17011 + 53003).natAbs.log2 < 40 := log2_le (by omega) (by omega)
    refine ⟨by omega, by omega, ?_⟩
    simp only [sv, wSs, wS, wT, wE, wEs, wO, wIt, start, setV, wipe, List.map_cons, List.map_nil, List.length_cons, List.length_nil, List.getElem?_cons_zero, List.getElem?_cons_succ, List.cons_append, List.nil_append, List.replicate, List.set_cons_zero, List.set_cons_succ, Nat.reduceAdd, Nat.reduceSub, Nat.zero_add, Option.bind_some, Option.some.injEq, exists_eq_left', if_true, if_false, Bool.false_eq_true, Bool.not_true, Bool.not_false, reduceIte, true_and, and_true, wNew_false, wNew_true, drf_non, drf_bl, drf_i, drf_s, drf_t, drf_l, drf_c, drf_d, drf_n, drf_x, drf_r, drfC_l, drfC_d, drfC_n, tr_b, tr_i, tr_s, tr_n, tr_l, tr_t, ty_non, ty_bl, ty_i, ty_s, ty_t, ty_l, ty_c, ty_d, ty_n, bin_add, bin_sub, bin_mul, bin_fdiv, bin_mod, bin_pow, add_i, add_s, add_l, add_t, sub_i, mul_i, mul_l, fdiv_i, mod_i, pow_i, neg_i, c_eq, c_ne, c_lt, c_gt, c_le, c_ge, c_in, c_nin, c_is, c_isn, lt_i, lt_s, eq_i, eq_s, eq_b, eq_sn, eq_l, eq_t, eq_lt, in_s, in_l, in_t, is_nn, is_bb, is_sn, is_in, is_tn, is_ln, is_on, ix_l, ix_t, ix_c, ix_s, ix_d, sl_l, sl_t, sl_c, sl_s, rev_s, bi_len, bi_int, bi_intb, bi_abs, bi_min2, bi_max2, bi_sumL, bi_anyL, bi_allL, bi_sorted, bi_list, bi_tuple, bi_repr, bi_divmod, len_s, len_l, len_t, len_c, len_d, so_l, so_s, li_l, li_t, li_s, tu_l, tu_t, mt_join, mt_app, mt_pop, ok_join, ok_app, ok_pop, set_r, as_n, ex_eq, wC_none, cut_1]
    refine ⟨.int (b + 1), rfl, ?_⟩
    simp only [wSs, wS, wT, wE, wEs, wO, wIt, start, setV, wipe, List.map_cons, List.map_nil, List.length_cons, List.length_nil, List.getElem?_cons_zero, List.getElem?_cons_succ, List.cons_append, List.nil_append, List.replicate, List.set_cons_zero, List.set_cons_succ, Nat.reduceAdd, Nat.reduceSub, Nat.zero_add, Option.bind_some, Option.some.injEq, exists_eq_left', if_true, if_false, Bool.false_eq_true, Bool.not_true, Bool.not_false, reduceIte, true_and, and_true, wNew_false, wNew_true, drf_non, drf_bl, drf_i, drf_s, drf_t, drf_l, drf_c, drf_d, drf_n, drf_x, drf_r, drfC_l, drfC_d, drfC_n, tr_b, tr_i, tr_s, tr_n, tr_l, tr_t, ty_non, ty_bl, ty_i, ty_s, ty_t, ty_l, ty_c, ty_d, ty_n, bin_add, bin_sub, bin_mul, bin_fdiv, bin_mod, bin_pow, add_i, add_s, add_l, add_t, sub_i, mul_i, mul_l, fdiv_i, mod_i, pow_i, neg_i, c_eq, c_ne, c_lt, c_gt, c_le, c_ge, c_in, c_nin, c_is, c_isn, lt_i, lt_s, eq_i, eq_s, eq_b, eq_sn, eq_l, eq_t, eq_lt, in_s, in_l, in_t, is_nn, is_bb, is_sn, is_in, is_tn, is_ln, is_on, ix_l, ix_t, ix_c, ix_s, ix_d, sl_l, sl_t, sl_c, sl_s, rev_s, bi_len, bi_int, bi_intb, bi_abs, bi_min2, bi_max2, bi_sumL, bi_anyL, bi_allL, bi_sorted, bi_list, bi_tuple, bi_repr, bi_divmod, len_s, len_l, len_t, len_c, len_d, so_l, so_s, li_l, li_t, li_s, tu_l, tu_t, mt_join, mt_app, mt_pop, ok_join, ok_app, ok_pop, set_r, as_n, ex_eq, wC_none, cut_1]
    have e3 : (Int.natAbs 90001).log2 < 20 := by decide
    have e4 : (b + 1).natAbs.log2 < 40 := log2_le (by omega) (by omega)
    refine ⟨by omega, by omega, ?_⟩
    refine ⟨_, 0, sv _, rfl, ?_⟩
    rw [List.set_set]
    simp only [sv, wSs, wS, wT, wE, wEs, wO, wIt, start, setV, wipe, List.map_cons, List.map_nil, List.length_cons, List.length_nil, List.getElem?_cons_zero, List.getElem?_cons_succ, List.cons_append, List.nil_append, List.replicate, List.set_cons_zero, List.set_cons_succ, Nat.reduceAdd, Nat.reduceSub, Nat.zero_add, Option.bind_some, Option.some.injEq, exists_eq_left', if_true, if_false, Bool.false_eq_true, Bool.not_true, Bool.not_false, reduceIte, true_and, and_true, wNew_false, wNew_true, drf_non, drf_bl, drf_i, drf_s, drf_t, drf_l, drf_c, drf_d, drf_n, drf_x, drf_r, drfC_l, drfC_d, drfC_n, tr_b, tr_i, tr_s, tr_n, tr_l, tr_t, ty_non, ty_bl, ty_i, ty_s, ty_t, ty_l, ty_c, ty_d, ty_n, bin_add, bin_sub, bin_mul, bin_fdiv, bin_mod, bin_pow, add_i, add_s, add_l, add_t, sub_i, mul_i, mul_l, fdiv_i, mod_i, pow_i, neg_i, c_eq, c_ne, c_lt, c_gt, c_le, c_ge, c_in, c_nin, c_is, c_isn, lt_i, lt_s, eq_i, eq_s, eq_b, eq_sn, eq_l, eq_t, eq_lt, in_s, in_l, in_t, is_nn, is_bb, is_sn, is_in, is_tn, is_ln, is_on, ix_l, ix_t, ix_c, ix_s, ix_d, sl_l, sl_t, sl_c, sl_s, rev_s, bi_len, bi_int, bi_intb, bi_abs, bi_min2, bi_max2, bi_sumL, bi_anyL, bi_allL, bi_sorted, bi_list, bi_tuple, bi_repr, bi_divmod, len_s, len_l, len_t, len_c, len_d, so_l, so_s, li_l, li_t, li_s, tu_l, tu_t, mt_join, mt_app, mt_pop, ok_join, ok_app, ok_pop, set_r, as_n, ex_eq, wC_none, cut_1]
    refine ⟨.int _, rfl, ?_⟩
    simp only [wSs, wS, wT, wE, wEs, wO, wIt, start, setV, wipe, List.map_cons, List.map_nil, List.length_cons, List.length_nil, List.getElem?_cons_zero, List.getElem?_cons_succ, List.cons_append, List.nil_append, List.replicate, List.set_cons_zero, List.set_cons_succ, Nat.reduceAdd, Nat.reduceSub, Nat.zero_add, Option.bind_some, Option.some.injEq, exists_eq_left', if_true, if_false, Bool.false_eq_true, Bool.not_true, Bool.not_false, reduceIte, true_and, and_true, wNew_false, wNew_true, drf_non, drf_bl, drf_i, drf_s, drf_t, drf_l, drf_c, drf_d, drf_n, drf_x, drf_r, drfC_l, drfC_d, drfC_n, tr_b, tr_i, tr_s, tr_n, tr_l, tr_t, ty_non, ty_bl, ty_i, ty_s, ty_t, ty_l, ty_c, ty_d, ty_n, bin_add, bin_sub, bin_mul, bin_fdiv, bin_mod, bin_pow, add_i, add_s, add_l, add_t, sub_i, mul_i, mul_l, fdiv_i, mod_i, pow_i, neg_i, c_eq, c_ne, c_lt, c_gt, c_le, c_ge, c_in, c_nin, c_is, c_isn, lt_i, lt_s, eq_i, eq_s, eq_b, eq_sn, eq_l, eq_t, eq_lt, in_s, in_l, in_t, is_nn, is_bb, is_sn, is_in, is_tn, is_ln, is_on, ix_l, ix_t, ix_c, ix_s, ix_d, sl_l, sl_t, sl_c, sl_s, rev_s, bi_len, bi_int, bi_intb, bi_abs, bi_min2, bi_max2, bi_sumL, bi_anyL, bi_allL, bi_sorted, bi_list, bi_tuple, bi_repr, bi_divmod, len_s, len_l, len_t, len_c, len_d, so_l, so_s, li_l, li_t, li_s, tu_l, tu_t, mt_join, mt_app, mt_pop, ok_join, ok_app, ok_pop, set_r, as_n, ex_eq, wC_none, cut_1]
    have e5 : (Int.natAbs 9001).log2 < 20 := by decide
    refine ⟨by omega, by omega, by omega, drp_i ?_⟩
    exact q _ _ ⟨_, b + 1, d, rfl, Int.emod_nonneg _ (by omega), Int.emod_lt_of_pos _ (show (0 : Int) < 2147483269 from by omega), by omega, by omega, d0⟩ (Int.emod_nonneg _ (by omega)) (Int.emod_lt_of_pos _ (by omega))
theorem w_pick (xs : List PV) (S : Sto) (Q : K1) (E : XP) (h : spPick xs S Q E) : xs.length = p_q_pick.length ∧ wBody G E b_q_pick n_q_pick.length xs S Q := by
  obtain ⟨v, ys, c, n, rfl, hv, hj, hn, h1, h2, q⟩ := h
  refine ⟨rfl, ?_⟩
  have hl : 0 < ys.length := List.length_pos_iff.mpr h1
  simp only [wBody, b_q_pick, n_q_pick, k9, wSs, wS, wT, wE, wEs, wO, wIt, start, setV, wipe, List.map_cons, List.map_nil, List.length_cons, List.length_nil, List.getElem?_cons_zero, List.getElem?_cons_succ, List.cons_append, List.nil_append, List.replicate, List.set_cons_zero, List.set_cons_succ, Nat.reduceAdd, Nat.reduceSub, Nat.zero_add, Option.bind_some, Option.some.injEq, exists_eq_left', if_true, if_false, Bool.false_eq_true, Bool.not_true, Bool.not_false, reduceIte, true_and, and_true, wNew_false, wNew_true, drf_non, drf_bl, drf_i, drf_s, drf_t, drf_l, drf_c, drf_d, drf_n, drf_x, drf_r, drfC_l, drfC_d, drfC_n, tr_b, tr_i, tr_s, tr_n, tr_l, tr_t, ty_non, ty_bl, ty_i, ty_s, ty_t, ty_l, ty_c, ty_d, ty_n, bin_add, bin_sub, bin_mul, bin_fdiv, bin_mod, bin_pow, add_i, add_s, add_l, add_t, sub_i, mul_i, mul_l, fdiv_i, mod_i, pow_i, neg_i, c_eq, c_ne, c_lt, c_gt, c_le, c_ge, c_in, c_nin, c_is, c_isn, lt_i, lt_s, eq_i, eq_s, eq_b, eq_sn, eq_l, eq_t, eq_lt, in_s, in_l, in_t, is_nn, is_bb, is_sn, is_in, is_tn, is_ln, is_on, ix_l, ix_t, ix_c, ix_s, ix_d, sl_l, sl_t, sl_c, sl_s, rev_s, bi_len, bi_int, bi_intb, bi_abs, bi_min2, bi_max2, bi_sumL, bi_anyL, bi_allL, bi_sorted, bi_list, bi_tuple, bi_repr, bi_divmod, len_s, len_l, len_t, len_c, len_d, so_l, so_s, li_l, li_t, li_s, tu_l, tu_t, mt_join, mt_app, mt_pop, ok_join, ok_app, ok_pop, set_r, as_n, ex_eq, wC_none, cut_1]
  refine ⟨v, _, c, n, rfl, hv, hj, hn, by omega, by omega, fun c' r hj' r0 r1 => ?_⟩
  simp only [wSs, wS, wT, wE, wEs, wO, wIt, start, setV, wipe, List.map_cons, List.map_nil, List.length_cons, List.length_nil, List.getElem?_cons_zero, List.getElem?_cons_succ, List.cons_append, List.nil_append, List.replicate, List.set_cons_zero, List.set_cons_succ, Nat.reduceAdd, Nat.reduceSub, Nat.zero_add, Option.bind_some, Option.some.injEq, exists_eq_left', if_true, if_false, Bool.false_eq_true, Bool.not_true, Bool.not_false, reduceIte, true_and, and_true, wNew_false, wNew_true, drf_non, drf_bl, drf_i, drf_s, drf_t, drf_l, drf_c, drf_d, drf_n, drf_x, drf_r, drfC_l, drfC_d, drfC_n, tr_b, tr_i, tr_s, tr_n, tr_l, tr_t, ty_non, ty_bl, ty_i, ty_s, ty_t, ty_l, ty_c, ty_d, ty_n, bin_add, bin_sub, bin_mul, bin_fdiv, bin_mod, bin_pow, add_i, add_s, add_l, add_t, sub_i, mul_i, mul_l, fdiv_i, mod_i, pow_i, neg_i, c_eq, c_ne, c_lt, c_gt, c_le, c_ge, c_in, c_nin, c_is, c_isn, lt_i, lt_s, eq_i, eq_s, eq_b, eq_sn, eq_l, eq_t, eq_lt, in_s, in_l, in_t, is_nn, is_bb, is_sn, is_in, is_tn, is_ln, is_on, ix_l, ix_t, ix_c, ix_s, ix_d, sl_l, sl_t, sl_c, sl_s, rev_s, bi_len, bi_int, bi_intb, bi_abs, bi_min2, bi_max2, bi_sumL, bi_anyL, bi_allL, bi_sorted, bi_list, bi_tuple, bi_repr, bi_divmod, len_s, len_l, len_t, len_c, len_d, so_l, so_s, li_l, li_t, li_s, tu_l, tu_t, mt_join, mt_app, mt_pop, ok_join, ok_app, ok_pop, set_r, as_n, ex_eq, wC_none, cut_1]
  have hr : r.toNat < ys.length := by omega
  have := bind_ixN hr
  rw [show ((r.toNat : Nat) : Int) = r from by omega] at this
  exact ⟨_, this, drp_i (q _ _ hj' (List.getElem_mem hr))⟩
end K49
set_option maxRecDepth 100000
set_option maxHeartbeats 4000000
namespace K49
open PL
def s1 (c : Nat) : PV := .str [c]
theorem jar_nr {n : Nat} {c : Cell} (h : Jar n c) : cellNR c = true := by
  obtain ⟨a, b, d, rfl, _⟩ := h
  rfl
theorem jar_le {n m : Nat} {c : Cell} (h : Jar n c) (hm : n ≤ m) : Jar m c := by
  obtain ⟨a, b, d, e, h1, h2, h3, h4, h5⟩ := h
  exact ⟨a, b, d, e, h1, h2, h3, by omega, h5⟩
theorem set_nr {S : Sto} {v : Nat} {c : Cell} (h : S.all cellNR = true) (hc : cellNR c = true) : (S.set v c).all cellNR = true := by
  rw [List.all_eq_true] at h ⊢
  intro x hx
  rcases List.mem_or_eq_of_mem_set hx with hx | rfl
  · exact h x hx
  · exact hc
/-- two objects behind the others -/
theorem two_0 {S : Sto} {v : Nat} {c x y : Cell} : (S.set v c ++ [x, y])[S.length]? = some x := by
  rw [List.getElem?_append_right (by rw [List.length_set]; exact Nat.le_refl _), List.length_set, Nat.sub_self]; rfl
theorem two_1 {S : Sto} {v : Nat} {c x y : Cell} : (S.set v c ++ [x, y])[S.length + 1]? = some y := by
  rw [List.getElem?_append_right (by rw [List.length_set]; omega), List.length_set, Nat.add_sub_cancel_left]; rfl
theorem two_v {S : Sto} {v : Nat} {c x y : Cell} (h : v < S.length) : (S.set v c ++ [x, y])[v]? = some c := by
  rw [List.getElem?_append_left (by rw [List.length_set]; exact h), List.getElem?_set_self h]
theorem two_s0 {S : Sto} {v : Nat} {c x y z : Cell} : (S.set v c ++ [x, y]).set S.length z = S.set v c ++ [z, y] := by
  rw [List.set_append_right _ _ (by rw [List.length_set]; exact Nat.le_refl _), List.length_set, Nat.sub_self]; rfl
theorem two_s1 {S : Sto} {v : Nat} {c x y z : Cell} : (S.set v c ++ [x, y]).set (S.length + 1) z = S.set v c ++ [x, z] := by
  rw [List.set_append_right _ _ (by rw [List.length_set]; omega), List.length_set, Nat.add_sub_cancel_left]; rfl
theorem two_sv {S : Sto} {v : Nat} {c c' x y : Cell} (h : v < S.length) : (S.set v c ++ [x, y]).set v c' = S.set v c' ++ [x, y] := by
  rw [List.set_append_left _ _ (by rw [List.length_set]; exact h), List.set_set]
theorem two_take {S : Sto} {v : Nat} {c x y : Cell} : (S.set v c ++ [x, y]).take S.length = S.set v c := by
  rw [List.take_append_of_le_length (by rw [List.length_set]; exact Nat.le_refl _), List.take_of_length_le (by rw [List.length_set]; exact Nat.le_refl _)]
theorem w_letters (hG : G.Mono) (xs : List PV) (S : Sto) (Q : K1) (E : XP) (h : spLetters xs S Q E) : xs.length = p_q_letters.length ∧ wBody G E b_q_letters n_q_letters.length xs S Q := by
  obtain ⟨v, many, c, n, rfl, hv, hj, hn, m0, m1, hS, q⟩ := h
  refine ⟨rfl, ?_⟩
  have hvl : v < S.length := (List.getElem?_eq_some_iff.mp hv).1
  have hL := line_is
  simp only [wBody, b_q_letters, n_q_letters, k10, wSs, wS, wT, wE, wEs, wO, wIt, start, setV, wipe, List.map_cons, List.map_nil, List.length_cons, List.length_nil, List.getElem?_cons_zero, List.getElem?_cons_succ, List.cons_append, List.nil_append, List.replicate, List.set_cons_zero, List.set_cons_succ, Nat.reduceAdd, Nat.reduceSub, Nat.zero_add, Option.bind_some, Option.some.injEq, exists_eq_left', if_true, if_false, Bool.false_eq_true, Bool.not_true, Bool.not_false, reduceIte, true_and, and_true, wNew_false, wNew_true, drf_non, drf_bl, drf_i, drf_s, drf_t, drf_l, drf_c, drf_d, drf_n, drf_x, drf_r, drfC_l, drfC_d, drfC_n, tr_b, tr_i, tr_s, tr_n, tr_l, tr_t, ty_non, ty_bl, ty_i, ty_s, ty_t, ty_l, ty_c, ty_d, ty_n, bin_add, bin_sub, bin_mul, bin_fdiv, bin_mod, bin_pow, add_i, add_s, add_l, add_t, sub_i, mul_i, mul_l, fdiv_i, mod_i, pow_i, neg_i, c_eq, c_ne, c_lt, c_gt, c_le, c_ge, c_in, c_nin, c_is, c_isn, lt_i, lt_s, eq_i, eq_s, eq_b, eq_sn, eq_l, eq_t, eq_lt, in_s, in_l, in_t, is_nn, is_bb, is_sn, is_in, is_tn, is_ln, is_on, ix_l, ix_t, ix_c, ix_s, ix_d, sl_l, sl_t, sl_c, sl_s, rev_s, bi_len, bi_int, bi_intb, bi_abs, bi_min2, bi_max2, bi_sumL, bi_anyL, bi_allL, bi_sorted, bi_list, bi_tuple, bi_repr, bi_divmod, len_s, len_l, len_t, len_c, len_d, so_l, so_s, li_l, li_t, li_s, tu_l, tu_t, mt_join, mt_app, mt_pop, ok_join, ok_app, ok_pop, set_r, as_n, ex_eq, wC_none, cut_1]
  refine ⟨by decide, by decide, by decide, by decide, by omega, v, _, c, n, rfl, hv, hj, by omega, by simp, by decide, fun c1 y hj1 hy => ?_⟩
  obtain ⟨A, rfl, hA, hA8, hA9⟩ : ∃ A, y = .str A ∧ Asc A ∧ 8 ≤ A.length ∧ A.length ≤ 16 := by
    simp only [List.mem_cons, List.not_mem_nil, or_false] at hy
    rcases hy with rfl | rfl | rfl | rfl
    · exact ⟨_, rfl, ⟨by decide, by decide⟩, by decide, by decide⟩
    · exact ⟨_, rfl, ⟨by decide, by decide⟩, by decide, by decide⟩
    · exact ⟨_, rfl, ⟨by decide, by decide⟩, by decide, by decide⟩
    · exact ⟨_, rfl, ⟨by decide, by decide⟩, by decide, by decide⟩
  simp only [b_q_letters_1, List.length_append, List.length_set, List.append_assoc, wSs, wS, wT, wE, wEs, wO, wIt, start, setV, wipe, List.map_cons, List.map_nil, List.length_cons, List.length_nil, List.getElem?_cons_zero, List.getElem?_cons_succ, List.cons_append, List.nil_append, List.replicate, List.set_cons_zero, List.set_cons_succ, Nat.reduceAdd, Nat.reduceSub, Nat.zero_add, Option.bind_some, Option.some.injEq, exists_eq_left', if_true, if_false, Bool.false_eq_true, Bool.not_true, Bool.not_false, reduceIte, true_and, and_true, wNew_false, wNew_true, drf_non, drf_bl, drf_i, drf_s, drf_t, drf_l, drf_c, drf_d, drf_n, drf_x, drf_r, drfC_l, drfC_d, drfC_n, tr_b, tr_i, tr_s, tr_n, tr_l, tr_t, ty_non, ty_bl, ty_i, ty_s, ty_t, ty_l, ty_c, ty_d, ty_n, bin_add, bin_sub, bin_mul, bin_fdiv, bin_mod, bin_pow, add_i, add_s, add_l, add_t, sub_i, mul_i, mul_l, fdiv_i, mod_i, pow_i, neg_i, c_eq, c_ne, c_lt, c_gt, c_le, c_ge, c_in, c_nin, c_is, c_isn, lt_i, lt_s, eq_i, eq_s, eq_b, eq_sn, eq_l, eq_t, eq_lt, in_s, in_l, in_t, is_nn, is_bb, is_sn, is_in, is_tn, is_ln, is_on, ix_l, ix_t, ix_c, ix_s, ix_d, sl_l, sl_t, sl_c, sl_s, rev_s, bi_len, bi_int, bi_intb, bi_abs, bi_min2, bi_max2, bi_sumL, bi_anyL, bi_allL, bi_sorted, bi_list, bi_tuple, bi_repr, bi_divmod, len_s, len_l, len_t, len_c, len_d, so_l, so_s, li_l, li_t, li_s, tu_l, tu_t, mt_join, mt_app, mt_pop, ok_join, ok_app, ok_pop, set_r, as_n, ex_eq, wC_none, cut_1]
  refine ⟨by omega, by omega, by omega, ?_⟩
  refine wFor_ind hG (p := .nm 4) (b := b_q_letters_L1) (fun r ρ S' => ∃ (L F : List Nat) (cV : Cell) (o : Option PV), (L ++ F).Perm A ∧ F.length + r.length = many ∧ Jar (n + 1 + F.length) cV ∧
      ρ = [some (.ref v), some (.int many), some (.ref S.length), some (.ref (S.length + 1)), o] ∧ S' = S.set v cV ++ [.lst (L.map s1), .lst (F.map s1)]) (fun r ρ S' _ => trivial) ?_ ?_ _ _ _
      ⟨A, [], c1, none, by simp, by rw [rngL_len]; simp, by simpa using hj1, rfl, rfl⟩
  · rintro x r ρ S' ⟨L, F, cV, o, hp, hl, hjV, rfl, rfl⟩
    have hLl : L.length + F.length = A.length := by rw [← List.length_append]; exact hp.length_eq
    rw [List.length_cons] at hl
    simp only [b_q_letters_L1, k9, two_0, two_1, List.length_map, wSs, wS, wT, wE, wEs, wO, wIt, start, setV, wipe, List.map_cons, List.map_nil, List.length_cons, List.length_nil, List.getElem?_cons_zero, List.getElem?_cons_succ, List.cons_append, List.nil_append, List.replicate, List.set_cons_zero, List.set_cons_succ, Nat.reduceAdd, Nat.reduceSub, Nat.zero_add, Option.bind_some, Option.some.injEq, exists_eq_left', if_true, if_false, Bool.false_eq_true, Bool.not_true, Bool.not_false, reduceIte, true_and, and_true, wNew_false, wNew_true, drf_non, drf_bl, drf_i, drf_s, drf_t, drf_l, drf_c, drf_d, drf_n, drf_x, drf_r, drfC_l, drfC_d, drfC_n, tr_b, tr_i, tr_s, tr_n, tr_l, tr_t, ty_non, ty_bl, ty_i, ty_s, ty_t, ty_l, ty_c, ty_d, ty_n, bin_add, bin_sub, bin_mul, bin_fdiv, bin_mod, bin_pow, add_i, add_s, add_l, add_t, sub_i, mul_i, mul_l, fdiv_i, mod_i, pow_i, neg_i, c_eq, c_ne, c_lt, c_gt, c_le, c_ge, c_in, c_nin, c_is, c_isn, lt_i, lt_s, eq_i, eq_s, eq_b, eq_sn, eq_l, eq_t, eq_lt, in_s, in_l, in_t, is_nn, is_bb, is_sn, is_in, is_tn, is_ln, is_on, ix_l, ix_t, ix_c, ix_s, ix_d, sl_l, sl_t, sl_c, sl_s, rev_s, bi_len, bi_int, bi_intb, bi_abs, bi_min2, bi_max2, bi_sumL, bi_anyL, bi_allL, bi_sorted, bi_list, bi_tuple, bi_repr, bi_divmod, len_s, len_l, len_t, len_c, len_d, so_l, so_s, li_l, li_t, li_s, tu_l, tu_t, mt_join, mt_app, mt_pop, ok_join, ok_app, ok_pop, set_r, as_n, ex_eq, wC_none, cut_1]
    refine ⟨⟨_, rfl⟩, ⟨_, rfl⟩, v, _, cV, n + 1 + F.length, rfl, two_v hvl, hjV, by omega, by omega, by omega, fun c' t hj' t0 t1 => ?_⟩
    have ht : t.toNat < L.length := by omega
    simp only [two_sv hvl, wSs, wS, wT, wE, wEs, wO, wIt, start, setV, wipe, List.map_cons, List.map_nil, List.length_cons, List.length_nil, List.getElem?_cons_zero, List.getElem?_cons_succ, List.cons_append, List.nil_append, List.replicate, List.set_cons_zero, List.set_cons_succ, Nat.reduceAdd, Nat.reduceSub, Nat.zero_add, Option.bind_some, Option.some.injEq, exists_eq_left', if_true, if_false, Bool.false_eq_true, Bool.not_true, Bool.not_false, reduceIte, true_and, and_true, wNew_false, wNew_true, drf_non, drf_bl, drf_i, drf_s, drf_t, drf_l, drf_c, drf_d, drf_n, drf_x, drf_r, drfC_l, drfC_d, drfC_n, tr_b, tr_i, tr_s, tr_n, tr_l, tr_t, ty_non, ty_bl, ty_i, ty_s, ty_t, ty_l, ty_c, ty_d, ty_n, bin_add, bin_sub, bin_mul, bin_fdiv, bin_mod, bin_pow, add_i, add_s, add_l, add_t, sub_i, mul_i, mul_l, fdiv_i, mod_i, pow_i, neg_i, c_eq, c_ne, c_lt, c_gt, c_le, c_ge, c_in, c_nin, c_is, c_isn, lt_i, lt_s, eq_i, eq_s, eq_b, eq_sn, eq_l, eq_t, eq_lt, in_s, in_l, in_t, is_nn, is_bb, is_sn, is_in, is_tn, is_ln, is_on, ix_l, ix_t, ix_c, ix_s, ix_d, sl_l, sl_t, sl_c, sl_s, rev_s, bi_len, bi_int, bi_intb, bi_abs, bi_min2, bi_max2, bi_sumL, bi_anyL, bi_allL, bi_sorted, bi_list, bi_tuple, bi_repr, bi_divmod, len_s, len_l, len_t, len_c, len_d, so_l, so_s, li_l, li_t, li_s, tu_l, tu_t, mt_join, mt_app, mt_pop, ok_join, ok_app, ok_pop, set_r, as_n, ex_eq, wC_none, cut_1]
    refine ⟨L.map s1, t.toNat, s1 L[t.toNat], two_0, by rw [List.length_map]; exact ixN_int t0 t1, by rw [List.getElem?_map, List.getElem?_eq_getElem ht]; rfl, ?_⟩
    rw [two_s0]
    refine ⟨F.map s1, two_1, by rw [List.length_map]; omega, L.eraseIdx t.toNat, F ++ [L[t.toNat]], c', some x, ?_, by simp; omega, ?_, rfl, ?_⟩
    · have h1 := erase_perm ht
      have h2 : (L.eraseIdx t.toNat ++ (F ++ [L[t.toNat]])).Perm (L[t.toNat] :: L.eraseIdx t.toNat ++ F) := by
        rw [← List.append_assoc]
        exact List.perm_append_comm
      exact h2.trans ((h1.append_right F).trans hp)
    · rw [List.length_append]
      exact jar_le hj' (by simp; omega)
    · rw [two_s1, eraseIdx_map', List.map_append]; rfl
  · rintro ρ S' ⟨L, F, cV, o, hp, hl, hjV, rfl, rfl⟩
    simp only [b_q_letters_2, two_1, wSs, wS, wT, wE, wEs, wO, wIt, start, setV, wipe, List.map_cons, List.map_nil, List.length_cons, List.length_nil, List.getElem?_cons_zero, List.getElem?_cons_succ, List.cons_append, List.nil_append, List.replicate, List.set_cons_zero, List.set_cons_succ, Nat.reduceAdd, Nat.reduceSub, Nat.zero_add, Option.bind_some, Option.some.injEq, exists_eq_left', if_true, if_false, Bool.false_eq_true, Bool.not_true, Bool.not_false, reduceIte, true_and, and_true, wNew_false, wNew_true, drf_non, drf_bl, drf_i, drf_s, drf_t, drf_l, drf_c, drf_d, drf_n, drf_x, drf_r, drfC_l, drfC_d, drfC_n, tr_b, tr_i, tr_s, tr_n, tr_l, tr_t, ty_non, ty_bl, ty_i, ty_s, ty_t, ty_l, ty_c, ty_d, ty_n, bin_add, bin_sub, bin_mul, bin_fdiv, bin_mod, bin_pow, add_i, add_s, add_l, add_t, sub_i, mul_i, mul_l, fdiv_i, mod_i, pow_i, neg_i, c_eq, c_ne, c_lt, c_gt, c_le, c_ge, c_in, c_nin, c_is, c_isn, lt_i, lt_s, eq_i, eq_s, eq_b, eq_sn, eq_l, eq_t, eq_lt, in_s, in_l, in_t, is_nn, is_bb, is_sn, is_in, is_tn, is_ln, is_on, ix_l, ix_t, ix_c, ix_s, ix_d, sl_l, sl_t, sl_c, sl_s, rev_s, bi_len, bi_int, bi_intb, bi_abs, bi_min2, bi_max2, bi_sumL, bi_anyL, bi_allL, bi_sorted, bi_list, bi_tuple, bi_repr, bi_divmod, len_s, len_l, len_t, len_c, len_d, so_l, so_s, li_l, li_t, li_s, tu_l, tu_t, mt_join, mt_app, mt_pop, ok_join, ok_app, ok_pop, set_r, as_n, ex_eq, wC_none, cut_1]
    have hl' : F.length = many := by simpa using hl
    refine ⟨by decide, _, strs_map (fun c => [c]) F, _, strs_map' _, by rw [srt_sum]; omega, ?_⟩
    rw [srt_join]
    refine .inr (.inl ⟨rfl, ?_, ?_⟩)
    · rw [two_take]
      exact set_nr hS (jar_nr hjV)
    · rw [two_take]
      have hAn : A.Nodup := hA.1.imp fun h => Nat.ne_of_lt h
      have hn2 : (L ++ F).Nodup := hp.nodup_iff.mpr hAn
      have hF : F.Nodup := (List.nodup_append.mp hn2).2.1
      refine q _ _ (jar_le hjV (by omega)) ⟨srt_nodup hF, fun c hc => ?_⟩ (by rw [(srt_perm F).length_eq]; exact hl')
      exact hA.2 c (hp.mem_iff.mp (List.mem_append_right _ ((srt_perm F).mem_iff.mp hc)))
theorem w_mixed (hG : G.Mono) (xs : List PV) (S : Sto) (Q : K1) (E : XP) (h : spMixed xs S Q E) : xs.length = p_q_mixed.length ∧ wBody G E b_q_mixed n_q_mixed.length xs S Q := by
  obtain ⟨v, A, c, n, rfl, hv, hj, hn, hA, hS, q⟩ := h
  refine ⟨rfl, ?_⟩
  have hvl : v < S.length := (List.getElem?_eq_some_iff.mp hv).1
  have hL := line_is
  have eS : S = S.set v c := (set_same hv).symm
  simp only [wBody, b_q_mixed, b_q_mixed_1, n_q_mixed, List.length_append, List.append_assoc, wSs, wS, wT, wE, wEs, wO, wIt, start, setV, wipe, List.map_cons, List.map_nil, List.length_cons, List.length_nil, List.getElem?_cons_zero, List.getElem?_cons_succ, List.cons_append, List.nil_append, List.replicate, List.set_cons_zero, List.set_cons_succ, Nat.reduceAdd, Nat.reduceSub, Nat.zero_add, Option.bind_some, Option.some.injEq, exists_eq_left', if_true, if_false, Bool.false_eq_true, Bool.not_true, Bool.not_false, reduceIte, true_and, and_true, wNew_false, wNew_true, drf_non, drf_bl, drf_i, drf_s, drf_t, drf_l, drf_c, drf_d, drf_n, drf_x, drf_r, drfC_l, drfC_d, drfC_n, tr_b, tr_i, tr_s, tr_n, tr_l, tr_t, ty_non, ty_bl, ty_i, ty_s, ty_t, ty_l, ty_c, ty_d, ty_n, bin_add, bin_sub, bin_mul, bin_fdiv, bin_mod, bin_pow, add_i, add_s, add_l, add_t, sub_i, mul_i, mul_l, fdiv_i, mod_i, pow_i, neg_i, c_eq, c_ne, c_lt, c_gt, c_le, c_ge, c_in, c_nin, c_is, c_isn, lt_i, lt_s, eq_i, eq_s, eq_b, eq_sn, eq_l, eq_t, eq_lt, in_s, in_l, in_t, is_nn, is_bb, is_sn, is_in, is_tn, is_ln, is_on, ix_l, ix_t, ix_c, ix_s, ix_d, sl_l, sl_t, sl_c, sl_s, rev_s, bi_len, bi_int, bi_intb, bi_abs, bi_min2, bi_max2, bi_sumL, bi_anyL, bi_allL, bi_sorted, bi_list, bi_tuple, bi_repr, bi_divmod, len_s, len_l, len_t, len_c, len_d, so_l, so_s, li_l, li_t, li_s, tu_l, tu_t, mt_join, mt_app, mt_pop, ok_join, ok_app, ok_pop, set_r, as_n, ex_eq, wC_none, cut_1]
  refine ⟨by omega, fun m ρ S' => ∃ (L F : List Nat) (cV : Cell), m = L.length ∧ (L ++ F).Perm A ∧ Jar (n + F.length) cV ∧ ρ = [some (.ref v), some (.str A), some (.ref S.length), some (.ref (S.length + 1))] ∧ S' = S.set v cV ++ [.lst (L.map s1), .lst (F.map s1)],
    ⟨A.length, A, [], c, rfl, by simp, by simpa using hj, rfl, ?_⟩, ?_⟩
  · rw [← eS]; rfl
  rintro m ρ S' ⟨L, F, cV, rfl, hp, hjV, rfl, rfl⟩
  have hLl : L.length + F.length = A.length := by rw [← List.length_append]; exact hp.length_eq
  simp only [b_q_mixed_L1, b_q_mixed_2, k9, two_0, two_1, List.length_map, wSs, wS, wT, wE, wEs, wO, wIt, start, setV, wipe, List.map_cons, List.map_nil, List.length_cons, List.length_nil, List.getElem?_cons_zero, List.getElem?_cons_succ, List.cons_append, List.nil_append, List.replicate, List.set_cons_zero, List.set_cons_succ, Nat.reduceAdd, Nat.reduceSub, Nat.zero_add, Option.bind_some, Option.some.injEq, exists_eq_left', if_true, if_false, Bool.false_eq_true, Bool.not_true, Bool.not_false, reduceIte, true_and, and_true, wNew_false, wNew_true, drf_non, drf_bl, drf_i, drf_s, drf_t, drf_l, drf_c, drf_d, drf_n, drf_x, drf_r, drfC_l, drfC_d, drfC_n, tr_b, tr_i, tr_s, tr_n, tr_l, tr_t, ty_non, ty_bl, ty_i, ty_s, ty_t, ty_l, ty_c, ty_d, ty_n, bin_add, bin_sub, bin_mul, bin_fdiv, bin_mod, bin_pow, add_i, add_s, add_l, add_t, sub_i, mul_i, mul_l, fdiv_i, mod_i, pow_i, neg_i, c_eq, c_ne, c_lt, c_gt, c_le, c_ge, c_in, c_nin, c_is, c_isn, lt_i, lt_s, eq_i, eq_s, eq_b, eq_sn, eq_l, eq_t, eq_lt, in_s, in_l, in_t, is_nn, is_bb, is_sn, is_in, is_tn, is_ln, is_on, ix_l, ix_t, ix_c, ix_s, ix_d, sl_l, sl_t, sl_c, sl_s, rev_s, bi_len, bi_int, bi_intb, bi_abs, bi_min2, bi_max2, bi_sumL, bi_anyL, bi_allL, bi_sorted, bi_list, bi_tuple, bi_repr, bi_divmod, len_s, len_l, len_t, len_c, len_d, so_l, so_s, li_l, li_t, li_s, tu_l, tu_t, mt_join, mt_app, mt_pop, ok_join, ok_app, ok_pop, set_r, as_n, ex_eq, wC_none, cut_1]
  refine ⟨by omega, ?_, by decide, ?_⟩
  · have hd : ∀ l : List Nat, isDataL (l.map s1) = true ∧ depthL (l.map s1) = 0 := by
      intro l
      induction l with
      | nil => exact ⟨rfl, rfl⟩
      | cons x r ih => exact ⟨by show (true && isDataL (r.map s1)) = true; rw [ih.1]; rfl, by show max 0 (depthL (r.map s1)) = 0; rw [ih.2]; rfl⟩
    unfold okData
    show (isDataL (L.map s1) && decide (depthL (L.map s1) + 1 ≤ 20)) = true
    rw [(hd L).1, (hd L).2]
    decide
  cases L with
  | nil =>
    have e : eqvL ([].map s1) [] = true := rfl
    rw [e]
    simp only [wSs, wS, wT, wE, wEs, wO, wIt, start, setV, wipe, List.map_cons, List.map_nil, List.length_cons, List.length_nil, List.getElem?_cons_zero, List.getElem?_cons_succ, List.cons_append, List.nil_append, List.replicate, List.set_cons_zero, List.set_cons_succ, Nat.reduceAdd, Nat.reduceSub, Nat.zero_add, Option.bind_some, Option.some.injEq, exists_eq_left', if_true, if_false, Bool.false_eq_true, Bool.not_true, Bool.not_false, reduceIte, true_and, and_true, wNew_false, wNew_true, drf_non, drf_bl, drf_i, drf_s, drf_t, drf_l, drf_c, drf_d, drf_n, drf_x, drf_r, drfC_l, drfC_d, drfC_n, tr_b, tr_i, tr_s, tr_n, tr_l, tr_t, ty_non, ty_bl, ty_i, ty_s, ty_t, ty_l, ty_c, ty_d, ty_n, bin_add, bin_sub, bin_mul, bin_fdiv, bin_mod, bin_pow, add_i, add_s, add_l, add_t, sub_i, mul_i, mul_l, fdiv_i, mod_i, pow_i, neg_i, c_eq, c_ne, c_lt, c_gt, c_le, c_ge, c_in, c_nin, c_is, c_isn, lt_i, lt_s, eq_i, eq_s, eq_b, eq_sn, eq_l, eq_t, eq_lt, in_s, in_l, in_t, is_nn, is_bb, is_sn, is_in, is_tn, is_ln, is_on, ix_l, ix_t, ix_c, ix_s, ix_d, sl_l, sl_t, sl_c, sl_s, rev_s, bi_len, bi_int, bi_intb, bi_abs, bi_min2, bi_max2, bi_sumL, bi_anyL, bi_allL, bi_sorted, bi_list, bi_tuple, bi_repr, bi_divmod, len_s, len_l, len_t, len_c, len_d, so_l, so_s, li_l, li_t, li_s, tu_l, tu_t, mt_join, mt_app, mt_pop, ok_join, ok_app, ok_pop, set_r, as_n, ex_eq, wC_none, cut_1]
    refine ⟨by decide, ?_⟩
    rw [mt_joinr two_1]
    refine ⟨_, strs_map (fun c => [c]) F, by rw [sum_one]; simp at hLl ⊢; omega, ?_⟩
    have hpF : F.Perm A := by simpa using hp
    have ej : joinL [] (F.map fun c => [c]) = F := by
      rw [joinL_nil]
      clear hp hjV hLl hpF
      induction F with
      | nil => rfl
      | cons x r ih => rw [List.map_cons, List.flatten_cons, ih]; rfl
    rw [ej]
    refine .inr (.inl ⟨rfl, ?_, ?_⟩)
    · rw [two_take]
      exact set_nr hS (jar_nr hjV)
    · rw [two_take]
      exact q _ _ (jar_le hjV (by simp at hLl; omega)) hpF
  | cons x r =>
    have e : eqvL ((x :: r).map s1) [] = false := rfl
    rw [e]
    simp only [wSs, wS, wT, wE, wEs, wO, wIt, start, setV, wipe, List.map_cons, List.map_nil, List.length_cons, List.length_nil, List.getElem?_cons_zero, List.getElem?_cons_succ, List.cons_append, List.nil_append, List.replicate, List.set_cons_zero, List.set_cons_succ, Nat.reduceAdd, Nat.reduceSub, Nat.zero_add, Option.bind_some, Option.some.injEq, exists_eq_left', if_true, if_false, Bool.false_eq_true, Bool.not_true, Bool.not_false, reduceIte, true_and, and_true, wNew_false, wNew_true, drf_non, drf_bl, drf_i, drf_s, drf_t, drf_l, drf_c, drf_d, drf_n, drf_x, drf_r, drfC_l, drfC_d, drfC_n, tr_b, tr_i, tr_s, tr_n, tr_l, tr_t, ty_non, ty_bl, ty_i, ty_s, ty_t, ty_l, ty_c, ty_d, ty_n, bin_add, bin_sub, bin_mul, bin_fdiv, bin_mod, bin_pow, add_i, add_s, add_l, add_t, sub_i, mul_i, mul_l, fdiv_i, mod_i, pow_i, neg_i, c_eq, c_ne, c_lt, c_gt, c_le, c_ge, c_in, c_nin, c_is, c_isn, lt_i, lt_s, eq_i, eq_s, eq_b, eq_sn, eq_l, eq_t, eq_lt, in_s, in_l, in_t, is_nn, is_bb, is_sn, is_in, is_tn, is_ln, is_on, ix_l, ix_t, ix_c, ix_s, ix_d, sl_l, sl_t, sl_c, sl_s, rev_s, bi_len, bi_int, bi_intb, bi_abs, bi_min2, bi_max2, bi_sumL, bi_anyL, bi_allL, bi_sorted, bi_list, bi_tuple, bi_repr, bi_divmod, len_s, len_l, len_t, len_c, len_d, so_l, so_s, li_l, li_t, li_s, tu_l, tu_t, mt_join, mt_app, mt_pop, ok_join, ok_app, ok_pop, set_r, as_n, ex_eq, wC_none, cut_1]
    refine ⟨⟨_, rfl⟩, ⟨_, rfl⟩, v, _, cV, n + F.length, rfl, two_v hvl, hjV, by omega, by simp; omega, by simp at hLl ⊢; omega, fun c' t hj' t0 t1 => ?_⟩
    have ht : t.toNat < (x :: r).length := by simp at t1 ⊢; omega
    simp only [two_sv hvl, wSs, wS, wT, wE, wEs, wO, wIt, start, setV, wipe, List.map_cons, List.map_nil, List.length_cons, List.length_nil, List.getElem?_cons_zero, List.getElem?_cons_succ, List.cons_append, List.nil_append, List.replicate, List.set_cons_zero, List.set_cons_succ, Nat.reduceAdd, Nat.reduceSub, Nat.zero_add, Option.bind_some, Option.some.injEq, exists_eq_left', if_true, if_false, Bool.false_eq_true, Bool.not_true, Bool.not_false, reduceIte, true_and, and_true, wNew_false, wNew_true, drf_non, drf_bl, drf_i, drf_s, drf_t, drf_l, drf_c, drf_d, drf_n, drf_x, drf_r, drfC_l, drfC_d, drfC_n, tr_b, tr_i, tr_s, tr_n, tr_l, tr_t, ty_non, ty_bl, ty_i, ty_s, ty_t, ty_l, ty_c, ty_d, ty_n, bin_add, bin_sub, bin_mul, bin_fdiv, bin_mod, bin_pow, add_i, add_s, add_l, add_t, sub_i, mul_i, mul_l, fdiv_i, mod_i, pow_i, neg_i, c_eq, c_ne, c_lt, c_gt, c_le, c_ge, c_in, c_nin, c_is, c_isn, lt_i, lt_s, eq_i, eq_s, eq_b, eq_sn, eq_l, eq_t, eq_lt, in_s, in_l, in_t, is_nn, is_bb, is_sn, is_in, is_tn, is_ln, is_on, ix_l, ix_t, ix_c, ix_s, ix_d, sl_l, sl_t, sl_c, sl_s, rev_s, bi_len, bi_int, bi_intb, bi_abs, bi_min2, bi_max2, bi_sumL, bi_anyL, bi_allL, bi_sorted, bi_list, bi_tuple, bi_repr, bi_divmod, len_s, len_l, len_t, len_c, len_d, so_l, so_s, li_l, li_t, li_s, tu_l, tu_t, mt_join, mt_app, mt_pop, ok_join, ok_app, ok_pop, set_r, as_n, ex_eq, wC_none, cut_1]
    refine ⟨(x :: r).map s1, t.toNat, s1 (x :: r)[t.toNat], two_0, by rw [List.length_map]; exact ixN_int t0 (by simpa using t1), by rw [List.getElem?_map, List.getElem?_eq_getElem ht]; rfl, ?_⟩
    rw [two_s0]
    refine ⟨F.map s1, two_1, by rw [List.length_map]; omega, (x :: r).length - 1, by simp, (x :: r).eraseIdx t.toNat, F ++ [(x :: r)[t.toNat]], c', ?_, ?_, ?_, ?_⟩
    · rw [List.length_eraseIdx]; simp [ht]; omega
    · have h1 := erase_perm ht
      have h2 : ((x :: r).eraseIdx t.toNat ++ (F ++ [(x :: r)[t.toNat]])).Perm ((x :: r)[t.toNat] :: (x :: r).eraseIdx t.toNat ++ F) := by
        rw [← List.append_assoc]
        exact List.perm_append_comm
      exact h2.trans ((h1.append_right F).trans hp)
    · rw [List.length_append]
      exact jar_le hj' (by simp; omega)
    · rw [two_s1, eraseIdx_map', List.map_append]; rfl

/-! ### lots -/
/-- the picked ones: each in the order of D, the empty one once -/
def Lots (D : List Nat) (ps : List (List Nat)) : Prop := (∀ p ∈ ps, p.Sublist D) ∧ ps.count [] = 1 ∧ ps.length = 2 ^ D.length
theorem lots_step {D : List Nat} {ps : List (List Nat)} {c : Nat} (h : Lots D ps) : Lots (D ++ [c]) (ps ++ ps.map (· ++ [c])) := by
  obtain ⟨h1, h2, h3⟩ := h
  refine ⟨fun p hp => ?_, ?_, ?_⟩
  · rcases List.mem_append.mp hp with hp | hp
    · exact (h1 p hp).trans (List.sublist_append_left _ _)
    · obtain ⟨q, hq, rfl⟩ := List.mem_map.mp hp
      exact (h1 q hq).append (List.Sublist.refl _)
  · rw [List.count_append, h2]
    have : (ps.map (· ++ [c])).count [] = 0 := by
      rw [List.count_eq_zero]
      intro hm
      obtain ⟨q, _, e⟩ := List.mem_map.mp hm
      cases q <;> cases e
    rw [this]
  · rw [List.length_append, List.length_map, h3, List.length_append]
    show 2 ^ D.length + 2 ^ D.length = 2 ^ (D.length + 1)
    rw [Nat.pow_succ]; omega
theorem lots_sorted {D : List Nat} {ps : List (List Nat)} (h : Lots D ps) : ∀ p ∈ (sortS ps).drop 1, p.Sublist D ∧ p ≠ [] := by
  obtain ⟨h1, h2, h3⟩ := h
  have hp := sortS_perm ps
  have hs := sortS_sorted ps
  have hc : (sortS ps).count [] = 1 := by rw [hp.count_eq]; exact h2
  cases e : sortS ps with
  | nil => rw [e] at hc; cases hc
  | cons x r =>
    rw [e] at hs hc hp
    have hx : x = [] := by
      have hm : [] ∈ x :: r := List.count_pos_iff.mp (by rw [hc]; exact Nat.one_pos)
      rcases List.mem_cons.mp hm with z | z
      · exact z.symm
      · have := (List.pairwise_cons.mp hs).1 _ z
        cases x with
        | nil => rfl
        | cons a b => exact absurd (List.nil_lt_cons a b) this
    subst hx
    rw [List.count_cons_self] at hc
    have hr : r.count [] = 0 := by omega
    intro p hpm
    have hpm' : p ∈ r := hpm
    refine ⟨h1 p (hp.mem_iff.mp (List.mem_cons_of_mem _ hpm')), fun z => ?_⟩
    subst z
    exact absurd (List.count_pos_iff.mpr hpm') (by omega)
/-- an ascending lot without the first letter is a parting -/
theorem part_of {s p : List Nat} (hs : Asc s) (hp : p.Sublist (s.drop 1)) (hn : p ≠ []) (hl : 2 ≤ s.length) : isPart s p = true := by
  have hpl : p.length ≤ s.length - 1 := by
    have := hp.length_le
    rwa [List.length_drop] at this
  have hp0 : 0 < p.length := List.length_pos_iff.mpr hn
  have hsub : p.Sublist s := hp.trans (List.drop_sublist _ _)
  have hasc : p.Pairwise (· < ·) := hs.1.sublist hsub
  unfold isPart rising
  rw [decide_eq_true (by omega), decide_eq_true (by omega)]
  have a1 : p.all (fun c => decide (c ∈ LET)) = true := List.all_eq_true.mpr fun c hc => decide_eq_true (hs.2 c (hsub.subset hc))
  have a2 : p.all (fun c => decide (c ∈ s.drop 1)) = true := List.all_eq_true.mpr fun c hc => decide_eq_true (hp.subset hc)
  have a3 : (List.range (p.length - 1)).all (fun k => decide (p.getD k 0 < p.getD (k + 1) 0)) = true := by
    refine List.all_eq_true.mpr fun k hk => ?_
    have hk' := List.mem_range.mp hk
    rw [getD_at (by omega), getD_at (by omega)]
    exact decide_eq_true (List.pairwise_iff_getElem.mp hasc k (k + 1) (by omega) (by omega) (by omega))
  rw [a1, a2, a3]
  rfl
theorem rising_of {s : List Nat} (hs : Asc s) (h2 : 2 ≤ s.length) (h8 : s.length ≤ 8) : rising s 2 8 = true := by
  unfold rising
  rw [decide_eq_true (by omega), decide_eq_true (by omega)]
  have a1 : s.all (fun c => decide (c ∈ LET)) = true := List.all_eq_true.mpr fun c hc => decide_eq_true (hs.2 c hc)
  have a3 : (List.range (s.length - 1)).all (fun k => decide (s.getD k 0 < s.getD (k + 1) 0)) = true := by
    refine List.all_eq_true.mpr fun k hk => ?_
    have hk' := List.mem_range.mp hk
    rw [getD_at (by omega), getD_at (by omega)]
    exact decide_eq_true (List.pairwise_iff_getElem.mp hs.1 k (k + 1) (by omega) (by omega) (by omega))
  rw [a1, a3]
  rfl
theorem w_lots (hG : G.Mono) (xs : List PV) (S : Sto) (Q : K1) (E : XP) (h : spLots xs S Q E) : xs.length = p_q_lots.length ∧ wBody G E b_q_lots n_q_lots.length xs S Q := by
  obtain ⟨s, rfl, hs, h2, h8, q⟩ := h
  refine ⟨rfl, ?_⟩
  have hL := line_is
  simp only [wBody, b_q_lots, b_q_lots_1, b_q_lots_2, n_q_lots, cut_1, wSs, wS, wT, wE, wEs, wO, wIt, start, setV, wipe, List.map_cons, List.map_nil, List.length_cons, List.length_nil, List.getElem?_cons_zero, List.getElem?_cons_succ, List.cons_append, List.nil_append, List.replicate, List.set_cons_zero, List.set_cons_succ, Nat.reduceAdd, Nat.reduceSub, Nat.zero_add, Option.bind_some, Option.some.injEq, exists_eq_left', if_true, if_false, Bool.false_eq_true, Bool.not_true, Bool.not_false, reduceIte, true_and, and_true, wNew_false, wNew_true, drf_non, drf_bl, drf_i, drf_s, drf_t, drf_l, drf_c, drf_d, drf_n, drf_x, drf_r, drfC_l, drfC_d, drfC_n, tr_b, tr_i, tr_s, tr_n, tr_l, tr_t, ty_non, ty_bl, ty_i, ty_s, ty_t, ty_l, ty_c, ty_d, ty_n, bin_add, bin_sub, bin_mul, bin_fdiv, bin_mod, bin_pow, add_i, add_s, add_l, add_t, sub_i, mul_i, mul_l, fdiv_i, mod_i, pow_i, neg_i, c_eq, c_ne, c_lt, c_gt, c_le, c_ge, c_in, c_nin, c_is, c_isn, lt_i, lt_s, eq_i, eq_s, eq_b, eq_sn, eq_l, eq_t, eq_lt, in_s, in_l, in_t, is_nn, is_bb, is_sn, is_in, is_tn, is_ln, is_on, ix_l, ix_t, ix_c, ix_s, ix_d, sl_l, sl_t, sl_c, sl_s, rev_s, bi_len, bi_int, bi_intb, bi_abs, bi_min2, bi_max2, bi_sumL, bi_anyL, bi_allL, bi_sorted, bi_list, bi_tuple, bi_repr, bi_divmod, len_s, len_l, len_t, len_c, len_d, so_l, so_s, li_l, li_t, li_s, tu_l, tu_t, mt_join, mt_app, mt_pop, ok_join, ok_app, ok_pop, set_r, as_n, ex_eq, wC_none, cut_1]
  refine ⟨by decide, by omega, _, it_s, ?_⟩
  refine wFor_ind hG (p := .nm 2) (b := b_q_lots_L1) (fun r ρ S' => S' = S ∧ ∃ (D R : List Nat) (ps : List (List Nat)) (o o2 : Option PV), s.drop 1 = D ++ R ∧ r = R.map s1 ∧ Lots D ps ∧ ρ = [some (.str s), some (.lst (ps.map .str)), o, o2]) (fun r ρ S' _ => it_s) ?_ ?_ _ _ _
    ⟨rfl, [], s.drop 1, [[]], none, none, rfl, rfl, ⟨fun p hp => by simp at hp; subst hp; exact List.nil_sublist _, rfl, rfl⟩, rfl⟩
  · rintro x r ρ S' ⟨rfl, D, R, ps, o, o2, e1, e2, hl, rfl⟩
    cases R with
    | nil => cases e2
    | cons c R =>
      rw [List.map_cons] at e2
      obtain ⟨rfl, rfl⟩ := List.cons.inj e2
      have hD : D.length + R.length + 1 = s.length - 1 := by
        have := congrArg List.length e1
        rw [List.length_drop, List.length_append, List.length_cons] at this
        omega
      have hps : ps.length ≤ 128 := by
        rw [hl.2.2]
        calc 2 ^ D.length ≤ 2 ^ 7 := Nat.pow_le_pow_right (by omega) (by omega)
          _ = 128 := rfl
      simp only [b_q_lots_L1, wSs, wS, wT, wE, wEs, wO, wIt, start, setV, wipe, List.map_cons, List.map_nil, List.length_cons, List.length_nil, List.getElem?_cons_zero, List.getElem?_cons_succ, List.cons_append, List.nil_append, List.replicate, List.set_cons_zero, List.set_cons_succ, Nat.reduceAdd, Nat.reduceSub, Nat.zero_add, Option.bind_some, Option.some.injEq, exists_eq_left', if_true, if_false, Bool.false_eq_true, Bool.not_true, Bool.not_false, reduceIte, true_and, and_true, wNew_false, wNew_true, drf_non, drf_bl, drf_i, drf_s, drf_t, drf_l, drf_c, drf_d, drf_n, drf_x, drf_r, drfC_l, drfC_d, drfC_n, tr_b, tr_i, tr_s, tr_n, tr_l, tr_t, ty_non, ty_bl, ty_i, ty_s, ty_t, ty_l, ty_c, ty_d, ty_n, bin_add, bin_sub, bin_mul, bin_fdiv, bin_mod, bin_pow, add_i, add_s, add_l, add_t, sub_i, mul_i, mul_l, fdiv_i, mod_i, pow_i, neg_i, c_eq, c_ne, c_lt, c_gt, c_le, c_ge, c_in, c_nin, c_is, c_isn, lt_i, lt_s, eq_i, eq_s, eq_b, eq_sn, eq_l, eq_t, eq_lt, in_s, in_l, in_t, is_nn, is_bb, is_sn, is_in, is_tn, is_ln, is_on, ix_l, ix_t, ix_c, ix_s, ix_d, sl_l, sl_t, sl_c, sl_s, rev_s, bi_len, bi_int, bi_intb, bi_abs, bi_min2, bi_max2, bi_sumL, bi_anyL, bi_allL, bi_sorted, bi_list, bi_tuple, bi_repr, bi_divmod, len_s, len_l, len_t, len_c, len_d, so_l, so_s, li_l, li_t, li_s, tu_l, tu_t, mt_join, mt_app, mt_pop, ok_join, ok_app, ok_pop, set_r, as_n, ex_eq, wC_none, cut_1]
      refine ⟨_, it_l, wComp_mapf _ (fun p => .str (p ++ [c])) it_l ps (fun p hp K1 k => ?_) ?_⟩
      · have hp1 := (hl.1 p hp).length_le
        simp only [s1, wSs, wS, wT, wE, wEs, wO, wIt, start, setV, wipe, List.map_cons, List.map_nil, List.length_cons, List.length_nil, List.getElem?_cons_zero, List.getElem?_cons_succ, List.cons_append, List.nil_append, List.replicate, List.set_cons_zero, List.set_cons_succ, Nat.reduceAdd, Nat.reduceSub, Nat.zero_add, Option.bind_some, Option.some.injEq, exists_eq_left', if_true, if_false, Bool.false_eq_true, Bool.not_true, Bool.not_false, reduceIte, true_and, and_true, wNew_false, wNew_true, drf_non, drf_bl, drf_i, drf_s, drf_t, drf_l, drf_c, drf_d, drf_n, drf_x, drf_r, drfC_l, drfC_d, drfC_n, tr_b, tr_i, tr_s, tr_n, tr_l, tr_t, ty_non, ty_bl, ty_i, ty_s, ty_t, ty_l, ty_c, ty_d, ty_n, bin_add, bin_sub, bin_mul, bin_fdiv, bin_mod, bin_pow, add_i, add_s, add_l, add_t, sub_i, mul_i, mul_l, fdiv_i, mod_i, pow_i, neg_i, c_eq, c_ne, c_lt, c_gt, c_le, c_ge, c_in, c_nin, c_is, c_isn, lt_i, lt_s, eq_i, eq_s, eq_b, eq_sn, eq_l, eq_t, eq_lt, in_s, in_l, in_t, is_nn, is_bb, is_sn, is_in, is_tn, is_ln, is_on, ix_l, ix_t, ix_c, ix_s, ix_d, sl_l, sl_t, sl_c, sl_s, rev_s, bi_len, bi_int, bi_intb, bi_abs, bi_min2, bi_max2, bi_sumL, bi_anyL, bi_allL, bi_sorted, bi_list, bi_tuple, bi_repr, bi_divmod, len_s, len_l, len_t, len_c, len_d, so_l, so_s, li_l, li_t, li_s, tu_l, tu_t, mt_join, mt_app, mt_pop, ok_join, ok_app, ok_pop, set_r, as_n, ex_eq, wC_none, cut_1]
        exact ⟨by omega, k⟩
      · simp only [List.length_map, wSs, wS, wT, wE, wEs, wO, wIt, start, setV, wipe, List.map_cons, List.map_nil, List.length_cons, List.length_nil, List.getElem?_cons_zero, List.getElem?_cons_succ, List.cons_append, List.nil_append, List.replicate, List.set_cons_zero, List.set_cons_succ, Nat.reduceAdd, Nat.reduceSub, Nat.zero_add, Option.bind_some, Option.some.injEq, exists_eq_left', if_true, if_false, Bool.false_eq_true, Bool.not_true, Bool.not_false, reduceIte, true_and, and_true, wNew_false, wNew_true, drf_non, drf_bl, drf_i, drf_s, drf_t, drf_l, drf_c, drf_d, drf_n, drf_x, drf_r, drfC_l, drfC_d, drfC_n, tr_b, tr_i, tr_s, tr_n, tr_l, tr_t, ty_non, ty_bl, ty_i, ty_s, ty_t, ty_l, ty_c, ty_d, ty_n, bin_add, bin_sub, bin_mul, bin_fdiv, bin_mod, bin_pow, add_i, add_s, add_l, add_t, sub_i, mul_i, mul_l, fdiv_i, mod_i, pow_i, neg_i, c_eq, c_ne, c_lt, c_gt, c_le, c_ge, c_in, c_nin, c_is, c_isn, lt_i, lt_s, eq_i, eq_s, eq_b, eq_sn, eq_l, eq_t, eq_lt, in_s, in_l, in_t, is_nn, is_bb, is_sn, is_in, is_tn, is_ln, is_on, ix_l, ix_t, ix_c, ix_s, ix_d, sl_l, sl_t, sl_c, sl_s, rev_s, bi_len, bi_int, bi_intb, bi_abs, bi_min2, bi_max2, bi_sumL, bi_anyL, bi_allL, bi_sorted, bi_list, bi_tuple, bi_repr, bi_divmod, len_s, len_l, len_t, len_c, len_d, so_l, so_s, li_l, li_t, li_s, tu_l, tu_t, mt_join, mt_app, mt_pop, ok_join, ok_app, ok_pop, set_r, as_n, ex_eq, wC_none, cut_1]
        refine ⟨by omega, D ++ [c], R, ps ++ ps.map (· ++ [c]), some (s1 c), o2, by rw [List.append_assoc]; exact e1, rfl, lots_step hl, ?_⟩
        rw [List.map_append, List.map_map]
        rfl
  · rintro ρ S' ⟨rfl, D, R, ps, o, o2, e1, e2, hl, rfl⟩
    have hR : R = [] := by
      cases R with
      | nil => rfl
      | cons _ _ => cases e2
    subst hR
    rw [List.append_nil] at e1
    simp only [strs_map', wSs, wS, wT, wE, wEs, wO, wIt, start, setV, wipe, List.map_cons, List.map_nil, List.length_cons, List.length_nil, List.getElem?_cons_zero, List.getElem?_cons_succ, List.cons_append, List.nil_append, List.replicate, List.set_cons_zero, List.set_cons_succ, Nat.reduceAdd, Nat.reduceSub, Nat.zero_add, Option.bind_some, Option.some.injEq, exists_eq_left', if_true, if_false, Bool.false_eq_true, Bool.not_true, Bool.not_false, reduceIte, true_and, and_true, wNew_false, wNew_true, drf_non, drf_bl, drf_i, drf_s, drf_t, drf_l, drf_c, drf_d, drf_n, drf_x, drf_r, drfC_l, drfC_d, drfC_n, tr_b, tr_i, tr_s, tr_n, tr_l, tr_t, ty_non, ty_bl, ty_i, ty_s, ty_t, ty_l, ty_c, ty_d, ty_n, bin_add, bin_sub, bin_mul, bin_fdiv, bin_mod, bin_pow, add_i, add_s, add_l, add_t, sub_i, mul_i, mul_l, fdiv_i, mod_i, pow_i, neg_i, c_eq, c_ne, c_lt, c_gt, c_le, c_ge, c_in, c_nin, c_is, c_isn, lt_i, lt_s, eq_i, eq_s, eq_b, eq_sn, eq_l, eq_t, eq_lt, in_s, in_l, in_t, is_nn, is_bb, is_sn, is_in, is_tn, is_ln, is_on, ix_l, ix_t, ix_c, ix_s, ix_d, sl_l, sl_t, sl_c, sl_s, rev_s, bi_len, bi_int, bi_intb, bi_abs, bi_min2, bi_max2, bi_sumL, bi_anyL, bi_allL, bi_sorted, bi_list, bi_tuple, bi_repr, bi_divmod, len_s, len_l, len_t, len_c, len_d, so_l, so_s, li_l, li_t, li_s, tu_l, tu_t, mt_join, mt_app, mt_pop, ok_join, ok_app, ok_pop, set_r, as_n, ex_eq, wC_none, cut_1]
    rw [← List.map_drop]
    have hlen : (sortS ps).length = 2 ^ D.length := by rw [(sortS_perm ps).length_eq, hl.2.2]
    have hD : D.length = s.length - 1 := by rw [← e1, List.length_drop]
    refine drp_i (q _ ?_ ?_ fun p hp => ?_)
    · intro z
      have z' := congrArg List.length z
      rw [List.length_drop, hlen, List.length_nil] at z'
      have : 2 ^ 1 ≤ 2 ^ D.length := Nat.pow_le_pow_right (by omega) (by omega)
      omega
    · rw [List.length_drop, hlen]
      have : 2 ^ D.length ≤ 2 ^ 7 := Nat.pow_le_pow_right (by omega) (by omega)
      omega
    · obtain ⟨g1, g2⟩ := lots_sorted hl p hp
      exact part_of hs (by rw [e1]; exact g1) g2 h2
theorem w_named (xs : List PV) (S : Sto) (Q : K1) (E : XP) (h : spNamed xs S Q E) : xs.length = p_q_named.length ∧ wBody G E b_q_named n_q_named.length xs S Q := by
  obtain ⟨s, u, rfl, h1, h8, hu, q⟩ := h
  refine ⟨rfl, ?_⟩
  have hL := line_is
  simp only [wBody, b_q_named, b_q_named_1, n_q_named, wSs, wS, wT, wE, wEs, wO, wIt, start, setV, wipe, List.map_cons, List.map_nil, List.length_cons, List.length_nil, List.getElem?_cons_zero, List.getElem?_cons_succ, List.cons_append, List.nil_append, List.replicate, List.set_cons_zero, List.set_cons_succ, Nat.reduceAdd, Nat.reduceSub, Nat.zero_add, Option.bind_some, Option.some.injEq, exists_eq_left', if_true, if_false, Bool.false_eq_true, Bool.not_true, Bool.not_false, reduceIte, true_and, and_true, wNew_false, wNew_true, drf_non, drf_bl, drf_i, drf_s, drf_t, drf_l, drf_c, drf_d, drf_n, drf_x, drf_r, drfC_l, drfC_d, drfC_n, tr_b, tr_i, tr_s, tr_n, tr_l, tr_t, ty_non, ty_bl, ty_i, ty_s, ty_t, ty_l, ty_c, ty_d, ty_n, bin_add, bin_sub, bin_mul, bin_fdiv, bin_mod, bin_pow, add_i, add_s, add_l, add_t, sub_i, mul_i, mul_l, fdiv_i, mod_i, pow_i, neg_i, c_eq, c_ne, c_lt, c_gt, c_le, c_ge, c_in, c_nin, c_is, c_isn, lt_i, lt_s, eq_i, eq_s, eq_b, eq_sn, eq_l, eq_t, eq_lt, in_s, in_l, in_t, is_nn, is_bb, is_sn, is_in, is_tn, is_ln, is_on, ix_l, ix_t, ix_c, ix_s, ix_d, sl_l, sl_t, sl_c, sl_s, rev_s, bi_len, bi_int, bi_intb, bi_abs, bi_min2, bi_max2, bi_sumL, bi_anyL, bi_allL, bi_sorted, bi_list, bi_tuple, bi_repr, bi_divmod, len_s, len_l, len_t, len_c, len_d, so_l, so_s, li_l, li_t, li_s, tu_l, tu_t, mt_join, mt_app, mt_pop, ok_join, ok_app, ok_pop, set_r, as_n, ex_eq, wC_none, cut_1]
  refine ⟨s[0], bind_ixN (k := 0) (by omega), ?_⟩
  have e0 : s.getD 0 0 = s[0] := getD_at (by omega)
  unfold named at q
  rw [e0] at q
  by_cases hm : s[0] ∈ u
  · rw [if_pos hm] at q
    rw [decide_eq_true hm]
    simp only [wSs, wS, wT, wE, wEs, wO, wIt, start, setV, wipe, List.map_cons, List.map_nil, List.length_cons, List.length_nil, List.getElem?_cons_zero, List.getElem?_cons_succ, List.cons_append, List.nil_append, List.replicate, List.set_cons_zero, List.set_cons_succ, Nat.reduceAdd, Nat.reduceSub, Nat.zero_add, Option.bind_some, Option.some.injEq, exists_eq_left', if_true, if_false, Bool.false_eq_true, Bool.not_true, Bool.not_false, reduceIte, true_and, and_true, wNew_false, wNew_true, drf_non, drf_bl, drf_i, drf_s, drf_t, drf_l, drf_c, drf_d, drf_n, drf_x, drf_r, drfC_l, drfC_d, drfC_n, tr_b, tr_i, tr_s, tr_n, tr_l, tr_t, ty_non, ty_bl, ty_i, ty_s, ty_t, ty_l, ty_c, ty_d, ty_n, bin_add, bin_sub, bin_mul, bin_fdiv, bin_mod, bin_pow, add_i, add_s, add_l, add_t, sub_i, mul_i, mul_l, fdiv_i, mod_i, pow_i, neg_i, c_eq, c_ne, c_lt, c_gt, c_le, c_ge, c_in, c_nin, c_is, c_isn, lt_i, lt_s, eq_i, eq_s, eq_b, eq_sn, eq_l, eq_t, eq_lt, in_s, in_l, in_t, is_nn, is_bb, is_sn, is_in, is_tn, is_ln, is_on, ix_l, ix_t, ix_c, ix_s, ix_d, sl_l, sl_t, sl_c, sl_s, rev_s, bi_len, bi_int, bi_intb, bi_abs, bi_min2, bi_max2, bi_sumL, bi_anyL, bi_allL, bi_sorted, bi_list, bi_tuple, bi_repr, bi_divmod, len_s, len_l, len_t, len_c, len_d, so_l, so_s, li_l, li_t, li_s, tu_l, tu_t, mt_join, mt_app, mt_pop, ok_join, ok_app, ok_pop, set_r, as_n, ex_eq, wC_none, cut_1]
    refine ⟨by decide, _, it_s, wComp_filterf _ (fun c => decide (c ∉ u)) (fun c => .str [c]) it_s s (fun c _ K1 K0 k => ?_) ?_⟩
    · simp only [wSs, wS, wT, wE, wEs, wO, wIt, start, setV, wipe, List.map_cons, List.map_nil, List.length_cons, List.length_nil, List.getElem?_cons_zero, List.getElem?_cons_succ, List.cons_append, List.nil_append, List.replicate, List.set_cons_zero, List.set_cons_succ, Nat.reduceAdd, Nat.reduceSub, Nat.zero_add, Option.bind_some, Option.some.injEq, exists_eq_left', if_true, if_false, Bool.false_eq_true, Bool.not_true, Bool.not_false, reduceIte, true_and, and_true, wNew_false, wNew_true, drf_non, drf_bl, drf_i, drf_s, drf_t, drf_l, drf_c, drf_d, drf_n, drf_x, drf_r, drfC_l, drfC_d, drfC_n, tr_b, tr_i, tr_s, tr_n, tr_l, tr_t, ty_non, ty_bl, ty_i, ty_s, ty_t, ty_l, ty_c, ty_d, ty_n, bin_add, bin_sub, bin_mul, bin_fdiv, bin_mod, bin_pow, add_i, add_s, add_l, add_t, sub_i, mul_i, mul_l, fdiv_i, mod_i, pow_i, neg_i, c_eq, c_ne, c_lt, c_gt, c_le, c_ge, c_in, c_nin, c_is, c_isn, lt_i, lt_s, eq_i, eq_s, eq_b, eq_sn, eq_l, eq_t, eq_lt, in_s, in_l, in_t, is_nn, is_bb, is_sn, is_in, is_tn, is_ln, is_on, ix_l, ix_t, ix_c, ix_s, ix_d, sl_l, sl_t, sl_c, sl_s, rev_s, bi_len, bi_int, bi_intb, bi_abs, bi_min2, bi_max2, bi_sumL, bi_anyL, bi_allL, bi_sorted, bi_list, bi_tuple, bi_repr, bi_divmod, len_s, len_l, len_t, len_c, len_d, so_l, so_s, li_l, li_t, li_s, tu_l, tu_t, mt_join, mt_app, mt_pop, ok_join, ok_app, ok_pop, set_r, as_n, ex_eq, wC_none, cut_1]
      rw [decide_not] at k
      exact k
    · simp only [wSs, wS, wT, wE, wEs, wO, wIt, start, setV, wipe, List.map_cons, List.map_nil, List.length_cons, List.length_nil, List.getElem?_cons_zero, List.getElem?_cons_succ, List.cons_append, List.nil_append, List.replicate, List.set_cons_zero, List.set_cons_succ, Nat.reduceAdd, Nat.reduceSub, Nat.zero_add, Option.bind_some, Option.some.injEq, exists_eq_left', if_true, if_false, Bool.false_eq_true, Bool.not_true, Bool.not_false, reduceIte, true_and, and_true, wNew_false, wNew_true, drf_non, drf_bl, drf_i, drf_s, drf_t, drf_l, drf_c, drf_d, drf_n, drf_x, drf_r, drfC_l, drfC_d, drfC_n, tr_b, tr_i, tr_s, tr_n, tr_l, tr_t, ty_non, ty_bl, ty_i, ty_s, ty_t, ty_l, ty_c, ty_d, ty_n, bin_add, bin_sub, bin_mul, bin_fdiv, bin_mod, bin_pow, add_i, add_s, add_l, add_t, sub_i, mul_i, mul_l, fdiv_i, mod_i, pow_i, neg_i, c_eq, c_ne, c_lt, c_gt, c_le, c_ge, c_in, c_nin, c_is, c_isn, lt_i, lt_s, eq_i, eq_s, eq_b, eq_sn, eq_l, eq_t, eq_lt, in_s, in_l, in_t, is_nn, is_bb, is_sn, is_in, is_tn, is_ln, is_on, ix_l, ix_t, ix_c, ix_s, ix_d, sl_l, sl_t, sl_c, sl_s, rev_s, bi_len, bi_int, bi_intb, bi_abs, bi_min2, bi_max2, bi_sumL, bi_anyL, bi_allL, bi_sorted, bi_list, bi_tuple, bi_repr, bi_divmod, len_s, len_l, len_t, len_c, len_d, so_l, so_s, li_l, li_t, li_s, tu_l, tu_t, mt_join, mt_app, mt_pop, ok_join, ok_app, ok_pop, set_r, as_n, ex_eq, wC_none, cut_1]
      refine ⟨_, strs_map (fun c => [c]) _, ?_, drp_i ?_⟩
      · rw [sum_one]
        have := List.length_filter_le (fun c => decide (c ∉ u)) s
        omega
      · have : joinL [] ((s.filter fun c => decide (c ∉ u)).map fun c => [c]) = s.filter fun c => decide (c ∉ u) := by
          rw [joinL_nil]
          generalize (s.filter fun c => decide (c ∉ u)) = l
          induction l with
          | nil => rfl
          | cons x r ih => rw [List.map_cons, List.flatten_cons, ih]; rfl
        rw [this]
        exact q
  · rw [if_neg hm] at q
    rw [decide_eq_false hm]
    simp only [strs_map', srt_join, srt_sum, srt_len, wSs, wS, wT, wE, wEs, wO, wIt, start, setV, wipe, List.map_cons, List.map_nil, List.length_cons, List.length_nil, List.getElem?_cons_zero, List.getElem?_cons_succ, List.cons_append, List.nil_append, List.replicate, List.set_cons_zero, List.set_cons_succ, Nat.reduceAdd, Nat.reduceSub, Nat.zero_add, Option.bind_some, Option.some.injEq, exists_eq_left', if_true, if_false, Bool.false_eq_true, Bool.not_true, Bool.not_false, reduceIte, true_and, and_true, wNew_false, wNew_true, drf_non, drf_bl, drf_i, drf_s, drf_t, drf_l, drf_c, drf_d, drf_n, drf_x, drf_r, drfC_l, drfC_d, drfC_n, tr_b, tr_i, tr_s, tr_n, tr_l, tr_t, ty_non, ty_bl, ty_i, ty_s, ty_t, ty_l, ty_c, ty_d, ty_n, bin_add, bin_sub, bin_mul, bin_fdiv, bin_mod, bin_pow, add_i, add_s, add_l, add_t, sub_i, mul_i, mul_l, fdiv_i, mod_i, pow_i, neg_i, c_eq, c_ne, c_lt, c_gt, c_le, c_ge, c_in, c_nin, c_is, c_isn, lt_i, lt_s, eq_i, eq_s, eq_b, eq_sn, eq_l, eq_t, eq_lt, in_s, in_l, in_t, is_nn, is_bb, is_sn, is_in, is_tn, is_ln, is_on, ix_l, ix_t, ix_c, ix_s, ix_d, sl_l, sl_t, sl_c, sl_s, rev_s, bi_len, bi_int, bi_intb, bi_abs, bi_min2, bi_max2, bi_sumL, bi_anyL, bi_allL, bi_sorted, bi_list, bi_tuple, bi_repr, bi_divmod, len_s, len_l, len_t, len_c, len_d, so_l, so_s, li_l, li_t, li_s, tu_l, tu_t, mt_join, mt_app, mt_pop, ok_join, ok_app, ok_pop, set_r, as_n, ex_eq, wC_none, cut_1]
    exact ⟨by decide, by omega, drp_i q⟩
theorem w_run_of (hG : G.Mono) (xs : List PV) (S : Sto) (Q : K1) (E : XP) (h : spRunOf xs S Q E) : xs.length = p_q_is_run_of.length ∧ wBody G E b_q_is_run_of n_q_is_run_of.length xs S Q := by
  obtain ⟨o, p, rfl, h8, q⟩ := h
  refine ⟨rfl, ?_⟩
  have hL := line_is
  simp only [wBody, b_q_is_run_of, b_q_is_run_of_1, b_q_is_run_of_2, b_q_is_run_of_3, n_q_is_run_of, wSs, wS, wT, wE, wEs, wO, wIt, start, setV, wipe, List.map_cons, List.map_nil, List.length_cons, List.length_nil, List.getElem?_cons_zero, List.getElem?_cons_succ, List.cons_append, List.nil_append, List.replicate, List.set_cons_zero, List.set_cons_succ, Nat.reduceAdd, Nat.reduceSub, Nat.zero_add, Option.bind_some, Option.some.injEq, exists_eq_left', if_true, if_false, Bool.false_eq_true, Bool.not_true, Bool.not_false, reduceIte, true_and, and_true, wNew_false, wNew_true, drf_non, drf_bl, drf_i, drf_s, drf_t, drf_l, drf_c, drf_d, drf_n, drf_x, drf_r, drfC_l, drfC_d, drfC_n, tr_b, tr_i, tr_s, tr_n, tr_l, tr_t, ty_non, ty_bl, ty_i, ty_s, ty_t, ty_l, ty_c, ty_d, ty_n, bin_add, bin_sub, bin_mul, bin_fdiv, bin_mod, bin_pow, add_i, add_s, add_l, add_t, sub_i, mul_i, mul_l, fdiv_i, mod_i, pow_i, neg_i, c_eq, c_ne, c_lt, c_gt, c_le, c_ge, c_in, c_nin, c_is, c_isn, lt_i, lt_s, eq_i, eq_s, eq_b, eq_sn, eq_l, eq_t, eq_lt, in_s, in_l, in_t, is_nn, is_bb, is_sn, is_in, is_tn, is_ln, is_on, ix_l, ix_t, ix_c, ix_s, ix_d, sl_l, sl_t, sl_c, sl_s, rev_s, bi_len, bi_int, bi_intb, bi_abs, bi_min2, bi_max2, bi_sumL, bi_anyL, bi_allL, bi_sorted, bi_list, bi_tuple, bi_repr, bi_divmod, len_s, len_l, len_t, len_c, len_d, so_l, so_s, li_l, li_t, li_s, tu_l, tu_t, mt_join, mt_app, mt_pop, ok_join, ok_app, ok_pop, set_r, as_n, ex_eq, wC_none, cut_1]
  refine ⟨_, it_s, wComp_filterf _ (fun c => decide (c ∈ p)) (fun c => .str [c]) it_s o (fun c _ K1 K0 k => ?_) ?_⟩
  · simp only [wSs, wS, wT, wE, wEs, wO, wIt, start, setV, wipe, List.map_cons, List.map_nil, List.length_cons, List.length_nil, List.getElem?_cons_zero, List.getElem?_cons_succ, List.cons_append, List.nil_append, List.replicate, List.set_cons_zero, List.set_cons_succ, Nat.reduceAdd, Nat.reduceSub, Nat.zero_add, Option.bind_some, Option.some.injEq, exists_eq_left', if_true, if_false, Bool.false_eq_true, Bool.not_true, Bool.not_false, reduceIte, true_and, and_true, wNew_false, wNew_true, drf_non, drf_bl, drf_i, drf_s, drf_t, drf_l, drf_c, drf_d, drf_n, drf_x, drf_r, drfC_l, drfC_d, drfC_n, tr_b, tr_i, tr_s, tr_n, tr_l, tr_t, ty_non, ty_bl, ty_i, ty_s, ty_t, ty_l, ty_c, ty_d, ty_n, bin_add, bin_sub, bin_mul, bin_fdiv, bin_mod, bin_pow, add_i, add_s, add_l, add_t, sub_i, mul_i, mul_l, fdiv_i, mod_i, pow_i, neg_i, c_eq, c_ne, c_lt, c_gt, c_le, c_ge, c_in, c_nin, c_is, c_isn, lt_i, lt_s, eq_i, eq_s, eq_b, eq_sn, eq_l, eq_t, eq_lt, in_s, in_l, in_t, is_nn, is_bb, is_sn, is_in, is_tn, is_ln, is_on, ix_l, ix_t, ix_c, ix_s, ix_d, sl_l, sl_t, sl_c, sl_s, rev_s, bi_len, bi_int, bi_intb, bi_abs, bi_min2, bi_max2, bi_sumL, bi_anyL, bi_allL, bi_sorted, bi_list, bi_tuple, bi_repr, bi_divmod, len_s, len_l, len_t, len_c, len_d, so_l, so_s, li_l, li_t, li_s, tu_l, tu_t, mt_join, mt_app, mt_pop, ok_join, ok_app, ok_pop, set_r, as_n, ex_eq, wC_none, cut_1]
    exact k
  have em : ((o.filter fun c => decide (c ∈ p)).map fun c => PV.str [c]).length = ((sides o p).filter id).length := by
    rw [List.length_map]
    unfold sides
    rw [List.filter_map, List.length_map]
    rfl
  have hm : ((sides o p).filter id).length ≤ o.length := by
    have := List.length_filter_le id (sides o p)
    rwa [show (sides o p).length = o.length from List.length_map _] at this
  simp only [em, rng0, Int.toNat_natCast, wSs, wS, wT, wE, wEs, wO, wIt, start, setV, wipe, List.map_cons, List.map_nil, List.length_cons, List.length_nil, List.getElem?_cons_zero, List.getElem?_cons_succ, List.cons_append, List.nil_append, List.replicate, List.set_cons_zero, List.set_cons_succ, Nat.reduceAdd, Nat.reduceSub, Nat.zero_add, Option.bind_some, Option.some.injEq, exists_eq_left', if_true, if_false, Bool.false_eq_true, Bool.not_true, Bool.not_false, reduceIte, true_and, and_true, wNew_false, wNew_true, drf_non, drf_bl, drf_i, drf_s, drf_t, drf_l, drf_c, drf_d, drf_n, drf_x, drf_r, drfC_l, drfC_d, drfC_n, tr_b, tr_i, tr_s, tr_n, tr_l, tr_t, ty_non, ty_bl, ty_i, ty_s, ty_t, ty_l, ty_c, ty_d, ty_n, bin_add, bin_sub, bin_mul, bin_fdiv, bin_mod, bin_pow, add_i, add_s, add_l, add_t, sub_i, mul_i, mul_l, fdiv_i, mod_i, pow_i, neg_i, c_eq, c_ne, c_lt, c_gt, c_le, c_ge, c_in, c_nin, c_is, c_isn, lt_i, lt_s, eq_i, eq_s, eq_b, eq_sn, eq_l, eq_t, eq_lt, in_s, in_l, in_t, is_nn, is_bb, is_sn, is_in, is_tn, is_ln, is_on, ix_l, ix_t, ix_c, ix_s, ix_d, sl_l, sl_t, sl_c, sl_s, rev_s, bi_len, bi_int, bi_intb, bi_abs, bi_min2, bi_max2, bi_sumL, bi_anyL, bi_allL, bi_sorted, bi_list, bi_tuple, bi_repr, bi_divmod, len_s, len_l, len_t, len_c, len_d, so_l, so_s, li_l, li_t, li_s, tu_l, tu_t, mt_join, mt_app, mt_pop, ok_join, ok_app, ok_pop, set_r, as_n, ex_eq, wC_none, cut_1]
  refine ⟨by omega, by omega, by omega, ?_⟩
  generalize hmn : ((sides o p).filter id).length = many at *
  let P : Nat → Bool := fun k => (((sides o p ++ sides o p).drop k).take many).all id
  have hrun : runB (sides o p) = (List.range o.length).any P := by
    unfold runB
    rw [hmn, show (sides o p).length = o.length from List.length_map _]
  rw [hrun] at q
  refine wFor_ind hG (p := .nm 4) (b := b_q_is_run_of_L1) (fun r ρ S' => S' = S ∧ ∃ (ks js : List Nat) (v4 v5 : Option PV), List.range o.length = ks ++ js ∧ r = js.map (fun k : Nat => PV.int (k : Int)) ∧ ks.any P = false ∧ ρ = [some (.str o), some (.str p), some (.int many), some (.str (o ++ o)), v4, v5]) (fun r ρ S' _ => trivial) ?_ ?_ _ _ _
    ⟨rfl, [], _, none, none, rfl, rfl, rfl, rfl⟩
  · rintro x r ρ S' ⟨rfl, ks, js, v4, v5, e1, e2, hf, rfl⟩
    cases js with
    | nil => cases e2
    | cons k js =>
      rw [List.map_cons] at e2
      obtain ⟨rfl, rfl⟩ := List.cons.inj e2
      have hk : k < o.length := List.mem_range.mp (by rw [e1]; simp)
      simp only [b_q_is_run_of_L1, wSs, wS, wT, wE, wEs, wO, wIt, start, setV, wipe, List.map_cons, List.map_nil, List.length_cons, List.length_nil, List.getElem?_cons_zero, List.getElem?_cons_succ, List.cons_append, List.nil_append, List.replicate, List.set_cons_zero, List.set_cons_succ, Nat.reduceAdd, Nat.reduceSub, Nat.zero_add, Option.bind_some, Option.some.injEq, exists_eq_left', if_true, if_false, Bool.false_eq_true, Bool.not_true, Bool.not_false, reduceIte, true_and, and_true, wNew_false, wNew_true, drf_non, drf_bl, drf_i, drf_s, drf_t, drf_l, drf_c, drf_d, drf_n, drf_x, drf_r, drfC_l, drfC_d, drfC_n, tr_b, tr_i, tr_s, tr_n, tr_l, tr_t, ty_non, ty_bl, ty_i, ty_s, ty_t, ty_l, ty_c, ty_d, ty_n, bin_add, bin_sub, bin_mul, bin_fdiv, bin_mod, bin_pow, add_i, add_s, add_l, add_t, sub_i, mul_i, mul_l, fdiv_i, mod_i, pow_i, neg_i, c_eq, c_ne, c_lt, c_gt, c_le, c_ge, c_in, c_nin, c_is, c_isn, lt_i, lt_s, eq_i, eq_s, eq_b, eq_sn, eq_l, eq_t, eq_lt, in_s, in_l, in_t, is_nn, is_bb, is_sn, is_in, is_tn, is_ln, is_on, ix_l, ix_t, ix_c, ix_s, ix_d, sl_l, sl_t, sl_c, sl_s, rev_s, bi_len, bi_int, bi_intb, bi_abs, bi_min2, bi_max2, bi_sumL, bi_anyL, bi_allL, bi_sorted, bi_list, bi_tuple, bi_repr, bi_divmod, len_s, len_l, len_t, len_c, len_d, so_l, so_s, li_l, li_t, li_s, tu_l, tu_t, mt_join, mt_app, mt_pop, ok_join, ok_app, ok_pop, set_r, as_n, ex_eq, wC_none, cut_1]
      have ec : cut (o ++ o) (some (k : Int)) (some ((k : Int) + (many : Int))) = ((o ++ o).drop k).take many := by
        have := cut_mid (xs := o ++ o) (a := k) (b := k + many) (by rw [List.length_append]; omega)
        rw [show (((k + many : Nat)) : Int) = (k : Int) + (many : Int) from by omega, Nat.add_sub_cancel_left] at this
        exact this
      refine ⟨_, it_s, wComp_mapf _ (fun c => .bl (decide (c ∈ p))) it_s _ (fun c _ K1 kk => ?_) ?_⟩
      · simp only [wSs, wS, wT, wE, wEs, wO, wIt, start, setV, wipe, List.map_cons, List.map_nil, List.length_cons, List.length_nil, List.getElem?_cons_zero, List.getElem?_cons_succ, List.cons_append, List.nil_append, List.replicate, List.set_cons_zero, List.set_cons_succ, Nat.reduceAdd, Nat.reduceSub, Nat.zero_add, Option.bind_some, Option.some.injEq, exists_eq_left', if_true, if_false, Bool.false_eq_true, Bool.not_true, Bool.not_false, reduceIte, true_and, and_true, wNew_false, wNew_true, drf_non, drf_bl, drf_i, drf_s, drf_t, drf_l, drf_c, drf_d, drf_n, drf_x, drf_r, drfC_l, drfC_d, drfC_n, tr_b, tr_i, tr_s, tr_n, tr_l, tr_t, ty_non, ty_bl, ty_i, ty_s, ty_t, ty_l, ty_c, ty_d, ty_n, bin_add, bin_sub, bin_mul, bin_fdiv, bin_mod, bin_pow, add_i, add_s, add_l, add_t, sub_i, mul_i, mul_l, fdiv_i, mod_i, pow_i, neg_i, c_eq, c_ne, c_lt, c_gt, c_le, c_ge, c_in, c_nin, c_is, c_isn, lt_i, lt_s, eq_i, eq_s, eq_b, eq_sn, eq_l, eq_t, eq_lt, in_s, in_l, in_t, is_nn, is_bb, is_sn, is_in, is_tn, is_ln, is_on, ix_l, ix_t, ix_c, ix_s, ix_d, sl_l, sl_t, sl_c, sl_s, rev_s, bi_len, bi_int, bi_intb, bi_abs, bi_min2, bi_max2, bi_sumL, bi_anyL, bi_allL, bi_sorted, bi_list, bi_tuple, bi_repr, bi_divmod, len_s, len_l, len_t, len_c, len_d, so_l, so_s, li_l, li_t, li_s, tu_l, tu_t, mt_join, mt_app, mt_pop, ok_join, ok_app, ok_pop, set_r, as_n, ex_eq, wC_none, cut_1]
        exact kk
      simp only [ec, bools_map, all_id, wSs, wS, wT, wE, wEs, wO, wIt, start, setV, wipe, List.map_cons, List.map_nil, List.length_cons, List.length_nil, List.getElem?_cons_zero, List.getElem?_cons_succ, List.cons_append, List.nil_append, List.replicate, List.set_cons_zero, List.set_cons_succ, Nat.reduceAdd, Nat.reduceSub, Nat.zero_add, Option.bind_some, Option.some.injEq, exists_eq_left', if_true, if_false, Bool.false_eq_true, Bool.not_true, Bool.not_false, reduceIte, true_and, and_true, wNew_false, wNew_true, drf_non, drf_bl, drf_i, drf_s, drf_t, drf_l, drf_c, drf_d, drf_n, drf_x, drf_r, drfC_l, drfC_d, drfC_n, tr_b, tr_i, tr_s, tr_n, tr_l, tr_t, ty_non, ty_bl, ty_i, ty_s, ty_t, ty_l, ty_c, ty_d, ty_n, bin_add, bin_sub, bin_mul, bin_fdiv, bin_mod, bin_pow, add_i, add_s, add_l, add_t, sub_i, mul_i, mul_l, fdiv_i, mod_i, pow_i, neg_i, c_eq, c_ne, c_lt, c_gt, c_le, c_ge, c_in, c_nin, c_is, c_isn, lt_i, lt_s, eq_i, eq_s, eq_b, eq_sn, eq_l, eq_t, eq_lt, in_s, in_l, in_t, is_nn, is_bb, is_sn, is_in, is_tn, is_ln, is_on, ix_l, ix_t, ix_c, ix_s, ix_d, sl_l, sl_t, sl_c, sl_s, rev_s, bi_len, bi_int, bi_intb, bi_abs, bi_min2, bi_max2, bi_sumL, bi_anyL, bi_allL, bi_sorted, bi_list, bi_tuple, bi_repr, bi_divmod, len_s, len_l, len_t, len_c, len_d, so_l, so_s, li_l, li_t, li_s, tu_l, tu_t, mt_join, mt_app, mt_pop, ok_join, ok_app, ok_pop, set_r, as_n, ex_eq, wC_none, cut_1]
      have eP : (((o ++ o).drop k).take many).all (fun c => decide (c ∈ p)) = P k := by
        show _ = (((sides o p ++ sides o p).drop k).take many).all id
        unfold sides
        rw [← List.map_append, ← List.map_drop, ← List.map_take, List.all_map]
        rfl
      rw [eP]
      cases hP : P k with
      | true =>
        simp only [wSs, wS, wT, wE, wEs, wO, wIt, start, setV, wipe, List.map_cons, List.map_nil, List.length_cons, List.length_nil, List.getElem?_cons_zero, List.getElem?_cons_succ, List.cons_append, List.nil_append, List.replicate, List.set_cons_zero, List.set_cons_succ, Nat.reduceAdd, Nat.reduceSub, Nat.zero_add, Option.bind_some, Option.some.injEq, exists_eq_left', if_true, if_false, Bool.false_eq_true, Bool.not_true, Bool.not_false, reduceIte, true_and, and_true, wNew_false, wNew_true, drf_non, drf_bl, drf_i, drf_s, drf_t, drf_l, drf_c, drf_d, drf_n, drf_x, drf_r, drfC_l, drfC_d, drfC_n, tr_b, tr_i, tr_s, tr_n, tr_l, tr_t, ty_non, ty_bl, ty_i, ty_s, ty_t, ty_l, ty_c, ty_d, ty_n, bin_add, bin_sub, bin_mul, bin_fdiv, bin_mod, bin_pow, add_i, add_s, add_l, add_t, sub_i, mul_i, mul_l, fdiv_i, mod_i, pow_i, neg_i, c_eq, c_ne, c_lt, c_gt, c_le, c_ge, c_in, c_nin, c_is, c_isn, lt_i, lt_s, eq_i, eq_s, eq_b, eq_sn, eq_l, eq_t, eq_lt, in_s, in_l, in_t, is_nn, is_bb, is_sn, is_in, is_tn, is_ln, is_on, ix_l, ix_t, ix_c, ix_s, ix_d, sl_l, sl_t, sl_c, sl_s, rev_s, bi_len, bi_int, bi_intb, bi_abs, bi_min2, bi_max2, bi_sumL, bi_anyL, bi_allL, bi_sorted, bi_list, bi_tuple, bi_repr, bi_divmod, len_s, len_l, len_t, len_c, len_d, so_l, so_s, li_l, li_t, li_s, tu_l, tu_t, mt_join, mt_app, mt_pop, ok_join, ok_app, ok_pop, set_r, as_n, ex_eq, wC_none, cut_1]
        refine drp_i ?_
        have : (List.range o.length).any P = true := by
          rw [List.any_eq_true]
          exact ⟨k, List.mem_range.mpr hk, hP⟩
        rwa [this] at q
      | false =>
        simp only [wSs, wS, wT, wE, wEs, wO, wIt, start, setV, wipe, List.map_cons, List.map_nil, List.length_cons, List.length_nil, List.getElem?_cons_zero, List.getElem?_cons_succ, List.cons_append, List.nil_append, List.replicate, List.set_cons_zero, List.set_cons_succ, Nat.reduceAdd, Nat.reduceSub, Nat.zero_add, Option.bind_some, Option.some.injEq, exists_eq_left', if_true, if_false, Bool.false_eq_true, Bool.not_true, Bool.not_false, reduceIte, true_and, and_true, wNew_false, wNew_true, drf_non, drf_bl, drf_i, drf_s, drf_t, drf_l, drf_c, drf_d, drf_n, drf_x, drf_r, drfC_l, drfC_d, drfC_n, tr_b, tr_i, tr_s, tr_n, tr_l, tr_t, ty_non, ty_bl, ty_i, ty_s, ty_t, ty_l, ty_c, ty_d, ty_n, bin_add, bin_sub, bin_mul, bin_fdiv, bin_mod, bin_pow, add_i, add_s, add_l, add_t, sub_i, mul_i, mul_l, fdiv_i, mod_i, pow_i, neg_i, c_eq, c_ne, c_lt, c_gt, c_le, c_ge, c_in, c_nin, c_is, c_isn, lt_i, lt_s, eq_i, eq_s, eq_b, eq_sn, eq_l, eq_t, eq_lt, in_s, in_l, in_t, is_nn, is_bb, is_sn, is_in, is_tn, is_ln, is_on, ix_l, ix_t, ix_c, ix_s, ix_d, sl_l, sl_t, sl_c, sl_s, rev_s, bi_len, bi_int, bi_intb, bi_abs, bi_min2, bi_max2, bi_sumL, bi_anyL, bi_allL, bi_sorted, bi_list, bi_tuple, bi_repr, bi_divmod, len_s, len_l, len_t, len_c, len_d, so_l, so_s, li_l, li_t, li_s, tu_l, tu_t, mt_join, mt_app, mt_pop, ok_join, ok_app, ok_pop, set_r, as_n, ex_eq, wC_none, cut_1]
        refine ⟨ks ++ [k], js, _, _, by rw [List.append_assoc]; exact e1, rfl, ?_, rfl⟩
        rw [List.any_append, hf]
        simp [hP]
  · rintro ρ S' ⟨rfl, ks, js, v4, v5, e1, e2, hf, rfl⟩
    have hj : js = [] := by
      cases js with
      | nil => rfl
      | cons _ _ => cases e2
    subst hj
    rw [List.append_nil] at e1
    simp only [wSs, wS, wT, wE, wEs, wO, wIt, start, setV, wipe, List.map_cons, List.map_nil, List.length_cons, List.length_nil, List.getElem?_cons_zero, List.getElem?_cons_succ, List.cons_append, List.nil_append, List.replicate, List.set_cons_zero, List.set_cons_succ, Nat.reduceAdd, Nat.reduceSub, Nat.zero_add, Option.bind_some, Option.some.injEq, exists_eq_left', if_true, if_false, Bool.false_eq_true, Bool.not_true, Bool.not_false, reduceIte, true_and, and_true, wNew_false, wNew_true, drf_non, drf_bl, drf_i, drf_s, drf_t, drf_l, drf_c, drf_d, drf_n, drf_x, drf_r, drfC_l, drfC_d, drfC_n, tr_b, tr_i, tr_s, tr_n, tr_l, tr_t, ty_non, ty_bl, ty_i, ty_s, ty_t, ty_l, ty_c, ty_d, ty_n, bin_add, bin_sub, bin_mul, bin_fdiv, bin_mod, bin_pow, add_i, add_s, add_l, add_t, sub_i, mul_i, mul_l, fdiv_i, mod_i, pow_i, neg_i, c_eq, c_ne, c_lt, c_gt, c_le, c_ge, c_in, c_nin, c_is, c_isn, lt_i, lt_s, eq_i, eq_s, eq_b, eq_sn, eq_l, eq_t, eq_lt, in_s, in_l, in_t, is_nn, is_bb, is_sn, is_in, is_tn, is_ln, is_on, ix_l, ix_t, ix_c, ix_s, ix_d, sl_l, sl_t, sl_c, sl_s, rev_s, bi_len, bi_int, bi_intb, bi_abs, bi_min2, bi_max2, bi_sumL, bi_anyL, bi_allL, bi_sorted, bi_list, bi_tuple, bi_repr, bi_divmod, len_s, len_l, len_t, len_c, len_d, so_l, so_s, li_l, li_t, li_s, tu_l, tu_t, mt_join, mt_app, mt_pop, ok_join, ok_app, ok_pop, set_r, as_n, ex_eq, wC_none, cut_1]
    refine drp_i ?_
    rwa [e1, hf] at q
end K49
set_option maxRecDepth 100000
set_option maxHeartbeats 4000000
namespace K49
open PL
def allB : Nat → List (List Bool)
  | 0 => [[]]
  | n + 1 => (allB n).flatMap fun l => [true :: l, false :: l]
theorem mem_allB : ∀ l : List Bool, l ∈ allB l.length
  | [] => by simp [allB]
  | b :: l => by
    have := mem_allB l
    show b :: l ∈ (allB l.length).flatMap fun l => [true :: l, false :: l]
    rw [List.mem_flatMap]
    refine ⟨l, this, ?_⟩
    cases b <;> simp
theorem run_turns : ∀ n ∈ [1, 2, 3, 4, 5, 6, 7, 8], ∀ sd ∈ allB n, runB sd = decide (turnsB sd ≤ 2) ∧ turnsB sd.reverse = turnsB sd ∧ turnsB (sd.map not) = turnsB sd ∧ (List.range (n + 1)).all (fun s => turnsB (sd.drop s ++ sd.take s) == turnsB sd) = true := by decide +kernel
theorem arc_turns : ∀ n ∈ [2, 3, 4, 5, 6, 7, 8], ∀ start ∈ List.range n, ∀ size ∈ List.range n, turnsB ((List.range n).map fun i => decide ((i + n - start) % n < size)) ≤ 2 := by decide +kernel
end K49
set_option maxRecDepth 100000
set_option maxHeartbeats 4000000
namespace K49
open PL
theorem mod2 {a n : Nat} (h : a < 2 * n) : a % n = if a < n then a else a - n := by
  split
  · rename_i h1; exact Nat.mod_eq_of_lt h1
  · rename_i h1
    rw [Nat.mod_eq_sub_mod (by omega), Nat.mod_eq_of_lt (by omega)]
theorem seg_get {o : List Nat} {start size j : Nat} (hs : start < o.length) (hz : size < o.length) (hj : j < size) : (((o ++ o).drop start).take size)[j]? = o[(start + j) % o.length]? := by
  rw [List.getElem?_take, if_pos hj, List.getElem?_drop, mod2 (by omega)]
  split
  · rename_i h; rw [List.getElem?_append_left h]
  · rename_i h; rw [List.getElem?_append_right (by omega)]
theorem seg_len {o : List Nat} {start size : Nat} (hs : start < o.length) (hz : size < o.length) : (((o ++ o).drop start).take size).length = size := by
  rw [List.length_take, List.length_drop, List.length_append]; omega
theorem seg_mem {o : List Nat} {start size i : Nat} (ho : o.Nodup) (hs : start < o.length) (hz : size < o.length) (hi : i < o.length) : o[i] ∈ ((o ++ o).drop start).take size ↔ (i + o.length - start) % o.length < size := by
  rw [List.mem_iff_getElem?]
  have hl := seg_len hs hz
  constructor
  · rintro ⟨j, hj⟩
    have hjs : j < size := by
      have := (List.getElem?_eq_some_iff.mp hj).1
      rwa [hl] at this
    rw [seg_get hs hz hjs] at hj
    obtain ⟨h1, h2⟩ := List.getElem?_eq_some_iff.mp hj
    have e := (List.getElem_inj ho).mp h2
    rw [mod2 (by omega)] at e ⊢
    split at e <;> split <;> omega
  · intro h
    refine ⟨(i + o.length - start) % o.length, ?_⟩
    rw [seg_get hs hz h]
    have e : (start + (i + o.length - start) % o.length) % o.length = i := by
      rw [mod2 (a := i + o.length - start) (by omega)] at h ⊢
      split
      · rename_i h1; rw [mod2 (by omega)]; split <;> omega
      · rename_i h1; rw [mod2 (by omega)]; split <;> omega
    rw [e]
    exact List.getElem?_eq_getElem hi
theorem seg_nodup {o : List Nat} {start size : Nat} (ho : o.Nodup) (hs : start < o.length) (hz : size < o.length) : (((o ++ o).drop start).take size).Nodup := by
  have hl := seg_len hs hz
  refine List.pairwise_iff_getElem.mpr fun i j hi hj hij e => ?_
  rw [hl] at hi hj
  have g1 := seg_get hs hz hi
  have g2 := seg_get hs hz hj
  rw [List.getElem?_eq_getElem (by rw [hl]; exact hi)] at g1
  rw [List.getElem?_eq_getElem (by rw [hl]; exact hj)] at g2
  have h1 : (start + i) % o.length < o.length := Nat.mod_lt _ (by omega)
  have h2 : (start + j) % o.length < o.length := Nat.mod_lt _ (by omega)
  rw [List.getElem?_eq_getElem h1] at g1
  rw [List.getElem?_eq_getElem h2] at g2
  have e2 := (List.getElem_inj ho).mp ((Option.some.inj g1).symm.trans (e.trans (Option.some.inj g2)))
  rw [mod2 (by omega), mod2 (by omega)] at e2
  split at e2 <;> split at e2 <;> omega
theorem sides_len {o p : List Nat} : (sides o p).length = o.length := List.length_map _
theorem seg_sides {o : List Nat} {start size : Nat} (ho : o.Nodup) (hs : start < o.length) (hz : size < o.length) :
    sides o (((o ++ o).drop start).take size) = (List.range o.length).map fun i => decide ((i + o.length - start) % o.length < size) := by
  show o.map (fun c => decide (c ∈ ((o ++ o).drop start).take size)) = _
  refine List.ext_getElem (by simp) fun i h1 h2 => ?_
  rw [List.length_map] at h1
  rw [List.getElem_map, List.getElem_map, List.getElem_range, decide_eq_decide]
  exact seg_mem ho hs hz h1
theorem sides_not {o p q : List Nat} (h : ∀ c ∈ o, (c ∈ q ↔ c ∉ p)) : sides o q = (sides o p).map not := by
  unfold sides
  rw [List.map_map]
  refine List.map_congr_left fun c hc => ?_
  show decide (c ∈ q) = !decide (c ∈ p)
  rw [← decide_not, decide_eq_decide]
  exact h c hc
theorem sides_same {o p q : List Nat} (h : ∀ c ∈ o, (c ∈ q ↔ c ∈ p)) : sides o q = sides o p := by
  unfold sides
  refine List.map_congr_left fun c hc => ?_
  rw [decide_eq_decide]
  exact h c hc
theorem len8 {n : Nat} (h2 : 2 ≤ n) (h8 : n ≤ 8) : n ∈ [2, 3, 4, 5, 6, 7, 8] := by
  have : n = 2 ∨ n = 3 ∨ n = 4 ∨ n = 5 ∨ n = 6 ∨ n = 7 ∨ n = 8 := by omega
  rcases this with rfl | rfl | rfl | rfl | rfl | rfl | rfl <;> decide
theorem turns_facts {sd : List Bool} (h2 : 2 ≤ sd.length) (h8 : sd.length ≤ 8) : runB sd = decide (turnsB sd ≤ 2) ∧ turnsB sd.reverse = turnsB sd ∧ turnsB (sd.map not) = turnsB sd ∧ ∀ s ≤ sd.length, turnsB (sd.drop s ++ sd.take s) = turnsB sd := by
  have hm : sd.length ∈ [1, 2, 3, 4, 5, 6, 7, 8] := List.mem_cons_of_mem _ (len8 h2 h8)
  obtain ⟨g1, g2, g3, g4⟩ := run_turns sd.length hm sd (mem_allB sd)
  refine ⟨g1, g2, g3, fun s hs => ?_⟩
  have := List.all_eq_true.mp g4 s (List.mem_range.mpr (by omega))
  simpa using this
theorem run_is {o p : List Nat} (h2 : 2 ≤ o.length) (h8 : o.length ≤ 8) : runB (sides o p) = decide (turnsB (sides o p) ≤ 2) := (turns_facts (by rw [sides_len]; exact h2) (by rw [sides_len]; exact h8)).1
theorem turns_rev {o p : List Nat} (h2 : 2 ≤ o.length) (h8 : o.length ≤ 8) : turnsB (sides o.reverse p) = turnsB (sides o p) := by
  have e : sides o.reverse p = (sides o p).reverse := by unfold sides; rw [List.map_reverse]
  rw [e]
  exact (turns_facts (by rw [sides_len]; exact h2) (by rw [sides_len]; exact h8)).2.1
theorem turns_rot {o p : List Nat} {s : Nat} (h2 : 2 ≤ o.length) (h8 : o.length ≤ 8) (hs : s ≤ o.length) : turnsB (sides (o.drop s ++ o.take s) p) = turnsB (sides o p) := by
  have e : sides (o.drop s ++ o.take s) p = (sides o p).drop s ++ (sides o p).take s := by unfold sides; rw [List.map_append, List.map_drop, List.map_take]
  rw [e]
  exact (turns_facts (by rw [sides_len]; exact h2) (by rw [sides_len]; exact h8)).2.2.2 s (by rw [sides_len]; exact hs)
/-- an ascending list within another one -/
theorem asc_sub {p l : List Nat} (hp : p.Pairwise (· < ·)) (hl : l.Pairwise (· < ·)) (h : ∀ c ∈ p, c ∈ l) : p.Sublist l := by
  have e : l.filter (fun c => decide (c ∈ p)) = p := by
    refine asc_unique (hl.sublist List.filter_sublist) hp ?_
    have n1 : (l.filter fun c => decide (c ∈ p)).Nodup := (hl.sublist List.filter_sublist).imp fun h => Nat.ne_of_lt h
    have n2 : p.Nodup := hp.imp fun h => Nat.ne_of_lt h
    refine (List.perm_ext_iff_of_nodup n1 n2).mpr fun c => ?_
    rw [List.mem_filter, decide_eq_true_iff]
    exact ⟨fun h => h.2, fun h' => ⟨h c h', h'⟩⟩
  rw [← e]
  exact List.filter_sublist
theorem named_ok {s o : List Nat} {start size : Nat} (hs : Asc s) (h2 : 2 ≤ s.length) (h8 : s.length ≤ 8) (ho : o.Perm s) (h1 : start < o.length) (h0 : 1 ≤ size) (hz : size < o.length) :
    isPart s (named s (((o ++ o).drop start).take size)) = true ∧ turnsB (sides o (named s (((o ++ o).drop start).take size))) ≤ 2 := by
  have hl : o.length = s.length := ho.length_eq
  have sn : s.Nodup := hs.1.imp fun h => Nat.ne_of_lt h
  have on : o.Nodup := ho.nodup_iff.mpr sn
  have arc := arc_turns o.length (len8 (by omega) (by omega)) start (List.mem_range.mpr h1) size (List.mem_range.mpr hz)
  rw [← seg_sides on h1 hz] at arc
  have tf := turns_facts (sd := sides o (((o ++ o).drop start).take size)) (by rw [sides_len]; omega) (by rw [sides_len]; omega)
  have uo : ∀ c ∈ ((o ++ o).drop start).take size, c ∈ o := fun c hc => by
    have := List.drop_subset _ _ (List.take_subset _ _ hc)
    rcases List.mem_append.mp this with h | h <;> exact h
  have un := seg_nodup on h1 hz
  have ul := seg_len h1 hz
  obtain ⟨miss, hm1, hm2⟩ : ∃ c ∈ o, c ∉ ((o ++ o).drop start).take size := by
    have hi : (start + size) % o.length < o.length := Nat.mod_lt _ (by omega)
    refine ⟨o[(start + size) % o.length], List.getElem_mem hi, fun h => ?_⟩
    rw [seg_mem on h1 hz hi, mod2 (a := start + size) (by omega)] at h
    split at h
    · rw [mod2 (by omega)] at h
      split at h <;> omega
    · rw [mod2 (by omega)] at h
      split at h <;> omega
  generalize ((o ++ o).drop start).take size = u at *
  unfold named
  cases s with
  | nil => simp at h2
  | cons a t =>
    have e0 : (a :: t).getD 0 0 = a := rfl
    rw [e0]
    have ht : t.Pairwise (· < ·) := (List.pairwise_cons.mp hs.1).2
    by_cases hu : a ∈ u
    · rw [if_pos hu]
      have ef : (a :: t).filter (fun c => decide (c ∉ u)) = t.filter fun c => decide (c ∉ u) := by
        rw [List.filter_cons, if_neg (by simpa using hu)]
      constructor
      · refine part_of hs (by rw [ef]; exact List.filter_sublist) (fun z => ?_) h2
        have : miss ∈ (a :: t).filter fun c => decide (c ∉ u) := List.mem_filter.mpr ⟨ho.mem_iff.mp hm1, decide_eq_true hm2⟩
        rw [z] at this
        cases this
      · have es : sides o ((a :: t).filter fun c => decide (c ∉ u)) = (sides o u).map not := sides_not fun c hc => by
          rw [List.mem_filter, decide_eq_true_iff]
          exact ⟨fun h => h.2, fun h => ⟨ho.mem_iff.mp hc, h⟩⟩
        rw [es, tf.2.2.1]
        exact arc
    · rw [if_neg hu]
      constructor
      · refine part_of hs (asc_sub (srt_nodup un) ht fun c hc => ?_) (fun z => ?_) h2
        · have hc' := (srt_perm u).mem_iff.mp hc
          have := ho.mem_iff.mp (uo c hc')
          rcases List.mem_cons.mp this with rfl | h
          · exact absurd hc' hu
          · exact h
        · have := (srt_perm u).length_eq
          rw [z, ul] at this
          simp at this
          omega
      · rw [sides_same (p := u) fun c _ => (srt_perm u).mem_iff]
        exact arc
theorem srt_of {s o : List Nat} (hs : Asc s) (ho : o.Perm s) : srt o = s := by
  have sn : s.Nodup := hs.1.imp fun h => Nat.ne_of_lt h
  exact asc_unique (srt_nodup (ho.nodup_iff.mpr sn)) hs.1 ((srt_perm o).trans ho)
end K49
set_option maxRecDepth 100000
set_option maxHeartbeats 4000000
namespace K49
open PL
/-- only the source at v was drawn from; what is new names nothing -/
structure Drawn (S S' : Sto) (v k : Nat) : Prop where
  len : S.length ≤ S'.length
  nr : S'.all cellNR = true
  jar : ∃ c, S'[v]? = some c ∧ Jar k c
  same : ∀ i, i < S.length → i ≠ v → S'[i]? = S[i]?
  vl : v < S.length
theorem Drawn.set {S S' : Sto} {v k k' : Nat} {c : Cell} (h : Drawn S S' v k) (hj : Jar k' c) : Drawn S (S'.set v c) v k' := by
  have hv : v < S'.length := Nat.lt_of_lt_of_le h.vl h.len
  refine ⟨by rw [List.length_set]; exact h.len, set_nr h.nr (jar_nr hj), ⟨c, List.getElem?_set_self hv, hj⟩, fun i hi hn => ?_, h.vl⟩
  rw [List.getElem?_set_ne (Ne.symm hn)]
  exact h.same i hi hn
theorem Drawn.push {S S' : Sto} {v k : Nat} {c : Cell} (h : Drawn S S' v k) (hc : cellNR c = true) : Drawn S (S' ++ [c]) v k := by
  have hv : v < S'.length := Nat.lt_of_lt_of_le h.vl h.len
  refine ⟨by rw [List.length_append]; exact Nat.le_trans h.len (Nat.le_add_right _ _), ?_, ?_, fun i hi hn => ?_, h.vl⟩
  · rw [List.all_append, h.nr]; simp [hc]
  · obtain ⟨c', h1, h2⟩ := h.jar
    exact ⟨c', by rw [List.getElem?_append_left hv]; exact h1, h2⟩
  · rw [List.getElem?_append_left (Nat.lt_of_lt_of_le hi h.len)]
    exact h.same i hi hn
theorem Drawn.other {S S' : Sto} {v k i : Nat} {c : Cell} (h : Drawn S S' v k) (hi : S.length ≤ i) (hc : cellNR c = true) : Drawn S (S'.set i c) v k := by
  have hn : i ≠ v := by have := h.vl; omega
  refine ⟨by rw [List.length_set]; exact h.len, set_nr h.nr hc, ?_, fun j hj hjn => ?_, h.vl⟩
  · obtain ⟨c', h1, h2⟩ := h.jar
    exact ⟨c', by rw [List.getElem?_set_ne hn]; exact h1, h2⟩
  · rw [List.getElem?_set_ne (by omega)]
    exact h.same j hj hjn
theorem Drawn.take {S S' : Sto} {v k : Nat} (h : Drawn S S' v k) : ∃ c, Jar k c ∧ S'.take S.length = S.set v c := by
  obtain ⟨c, h1, h2⟩ := h.jar
  refine ⟨c, h2, List.ext_getElem? fun i => ?_⟩
  rw [List.getElem?_take]
  split
  · rename_i hi
    by_cases e : v = i
    · subst e; rw [List.getElem?_set_self h.vl]; exact h1
    · rw [List.getElem?_set_ne e]; exact h.same i hi (Ne.symm e)
  · rename_i hi
    rw [List.getElem?_eq_none (by rw [List.length_set]; omega)]
theorem Drawn.all {S S' : Sto} {v k : Nat} (h : Drawn S S' v k) : (S'.take S.length).all cellNR = true := by
  rw [List.all_eq_true]
  exact fun c hc => List.all_eq_true.mp h.nr c (List.mem_of_mem_take hc)
theorem w_right (hG : G.Mono) (xs : List PV) (S : Sto) (Q : K1) (E : XP) (h : spRight xs S Q E) : xs.length = p_q_right.length ∧ wBody G E b_q_right n_q_right.length xs S Q := by
  obtain ⟨v, c, rfl, hv, hj, hS, q⟩ := h
  refine ⟨rfl, ?_⟩
  have hvl : v < S.length := (List.getElem?_eq_some_iff.mp hv).1
  have hL := line_is
  have d0 : Drawn S S v 0 := ⟨Nat.le_refl _, hS, ⟨c, hv, hj⟩, fun _ _ _ => rfl, hvl⟩
  simp only [wBody, b_q_right, b_q_right_1, n_q_right, wSs, wS, wT, wE, wEs, wO, wIt, start, setV, wipe, List.map_cons, List.map_nil, List.length_cons, List.length_nil, List.getElem?_cons_zero, List.getElem?_cons_succ, List.cons_append, List.nil_append, List.replicate, List.set_cons_zero, List.set_cons_succ, Nat.reduceAdd, Nat.reduceSub, Nat.zero_add, Option.bind_some, Option.some.injEq, exists_eq_left', if_true, if_false, Bool.false_eq_true, Bool.not_true, Bool.not_false, reduceIte, true_and, and_true, wNew_false, wNew_true, drf_non, drf_bl, drf_i, drf_s, drf_t, drf_l, drf_c, drf_d, drf_n, drf_x, drf_r, drfC_l, drfC_d, drfC_n, tr_b, tr_i, tr_s, tr_n, tr_l, tr_t, ty_non, ty_bl, ty_i, ty_s, ty_t, ty_l, ty_c, ty_d, ty_n, bin_add, bin_sub, bin_mul, bin_fdiv, bin_mod, bin_pow, add_i, add_s, add_l, add_t, sub_i, mul_i, mul_l, fdiv_i, mod_i, pow_i, neg_i, c_eq, c_ne, c_lt, c_gt, c_le, c_ge, c_in, c_nin, c_is, c_isn, lt_i, lt_s, eq_i, eq_s, eq_b, eq_sn, eq_l, eq_t, eq_lt, in_s, in_l, in_t, is_nn, is_bb, is_sn, is_in, is_tn, is_ln, is_on, ix_l, ix_t, ix_c, ix_s, ix_d, sl_l, sl_t, sl_c, sl_s, rev_s, bi_len, bi_int, bi_intb, bi_abs, bi_min2, bi_max2, bi_sumL, bi_anyL, bi_allL, bi_sorted, bi_list, bi_tuple, bi_repr, bi_divmod, len_s, len_l, len_t, len_c, len_d, so_l, so_s, li_l, li_t, li_s, tu_l, tu_t, mt_join, mt_app, mt_pop, ok_join, ok_app, ok_pop, set_r, as_n, ex_eq, wC_none, cut_1]
  refine ⟨by omega, by omega, ?_⟩
  refine wFor_ind hG (p := .nm 1) (b := b_q_right_L1) (fun r ρ S' => ∃ (k : Nat) (x1 x2 x3 x4 x5 x6 x7 x8 x9 x10 : Option PV), k + r.length * 2000 ≤ 8000 ∧ Drawn S S' v k ∧ ρ = [some (.ref v), x1, x2, x3, x4, x5, x6, x7, x8, x9, x10]) (fun r ρ S' _ => trivial) ?_ ?_ _ _ _
    ⟨0, none, none, none, none, none, none, none, none, none, none, by rw [rngL_len]; decide, d0, rfl⟩
  · rintro x r ρ S' ⟨k, x1, x2, x3, x4, x5, x6, x7, x8, x9, x10, hk, d, rfl⟩
    rw [List.length_cons] at hk
    obtain ⟨c1, hc1, hj1⟩ := d.jar
    simp only [b_q_right_L1, b_q_right_L1_1, k9, k11, wSs, wS, wT, wE, wEs, wO, wIt, start, setV, wipe, List.map_cons, List.map_nil, List.length_cons, List.length_nil, List.getElem?_cons_zero, List.getElem?_cons_succ, List.cons_append, List.nil_append, List.replicate, List.set_cons_zero, List.set_cons_succ, Nat.reduceAdd, Nat.reduceSub, Nat.zero_add, Option.bind_some, Option.some.injEq, exists_eq_left', if_true, if_false, Bool.false_eq_true, Bool.not_true, Bool.not_false, reduceIte, true_and, and_true, wNew_false, wNew_true, drf_non, drf_bl, drf_i, drf_s, drf_t, drf_l, drf_c, drf_d, drf_n, drf_x, drf_r, drfC_l, drfC_d, drfC_n, tr_b, tr_i, tr_s, tr_n, tr_l, tr_t, ty_non, ty_bl, ty_i, ty_s, ty_t, ty_l, ty_c, ty_d, ty_n, bin_add, bin_sub, bin_mul, bin_fdiv, bin_mod, bin_pow, add_i, add_s, add_l, add_t, sub_i, mul_i, mul_l, fdiv_i, mod_i, pow_i, neg_i, c_eq, c_ne, c_lt, c_gt, c_le, c_ge, c_in, c_nin, c_is, c_isn, lt_i, lt_s, eq_i, eq_s, eq_b, eq_sn, eq_l, eq_t, eq_lt, in_s, in_l, in_t, is_nn, is_bb, is_sn, is_in, is_tn, is_ln, is_on, ix_l, ix_t, ix_c, ix_s, ix_d, sl_l, sl_t, sl_c, sl_s, rev_s, bi_len, bi_int, bi_intb, bi_abs, bi_min2, bi_max2, bi_sumL, bi_anyL, bi_allL, bi_sorted, bi_list, bi_tuple, bi_repr, bi_divmod, len_s, len_l, len_t, len_c, len_d, so_l, so_s, li_l, li_t, li_s, tu_l, tu_t, mt_join, mt_app, mt_pop, ok_join, ok_app, ok_pop, set_r, as_n, ex_eq, wC_none, cut_1]
    refine ⟨v, 7, c1, k, rfl, hc1, hj1, by omega, by omega, by omega, fun c2 t hj2 t0 t1 => ?_⟩
    have d2 := d.set hj2
    obtain ⟨c3, hc3, hj3⟩ := d2.jar
    have et : (2 : Int) + t = ((2 + t.toNat : Nat) : Int) := by omega
    simp only [et, wSs, wS, wT, wE, wEs, wO, wIt, start, setV, wipe, List.map_cons, List.map_nil, List.length_cons, List.length_nil, List.getElem?_cons_zero, List.getElem?_cons_succ, List.cons_append, List.nil_append, List.replicate, List.set_cons_zero, List.set_cons_succ, Nat.reduceAdd, Nat.reduceSub, Nat.zero_add, Option.bind_some, Option.some.injEq, exists_eq_left', if_true, if_false, Bool.false_eq_true, Bool.not_true, Bool.not_false, reduceIte, true_and, and_true, wNew_false, wNew_true, drf_non, drf_bl, drf_i, drf_s, drf_t, drf_l, drf_c, drf_d, drf_n, drf_x, drf_r, drfC_l, drfC_d, drfC_n, tr_b, tr_i, tr_s, tr_n, tr_l, tr_t, ty_non, ty_bl, ty_i, ty_s, ty_t, ty_l, ty_c, ty_d, ty_n, bin_add, bin_sub, bin_mul, bin_fdiv, bin_mod, bin_pow, add_i, add_s, add_l, add_t, sub_i, mul_i, mul_l, fdiv_i, mod_i, pow_i, neg_i, c_eq, c_ne, c_lt, c_gt, c_le, c_ge, c_in, c_nin, c_is, c_isn, lt_i, lt_s, eq_i, eq_s, eq_b, eq_sn, eq_l, eq_t, eq_lt, in_s, in_l, in_t, is_nn, is_bb, is_sn, is_in, is_tn, is_ln, is_on, ix_l, ix_t, ix_c, ix_s, ix_d, sl_l, sl_t, sl_c, sl_s, rev_s, bi_len, bi_int, bi_intb, bi_abs, bi_min2, bi_max2, bi_sumL, bi_anyL, bi_allL, bi_sorted, bi_list, bi_tuple, bi_repr, bi_divmod, len_s, len_l, len_t, len_c, len_d, so_l, so_s, li_l, li_t, li_s, tu_l, tu_t, mt_join, mt_app, mt_pop, ok_join, ok_app, ok_pop, set_r, as_n, ex_eq, wC_none, cut_1]
    refine ⟨v, 2 + t.toNat, c3, k + 1, rfl, hc3, hj3, by omega, by omega, by omega, d2.nr, fun c4 s hj4 hs hsl => ?_⟩
    have d4 := d2.set hj4
    have h2 : 2 ≤ s.length := by omega
    have h8 : s.length ≤ 8 := by omega
    simp only [wSs, wS, wT, wE, wEs, wO, wIt, start, setV, wipe, List.map_cons, List.map_nil, List.length_cons, List.length_nil, List.getElem?_cons_zero, List.getElem?_cons_succ, List.cons_append, List.nil_append, List.replicate, List.set_cons_zero, List.set_cons_succ, Nat.reduceAdd, Nat.reduceSub, Nat.zero_add, Option.bind_some, Option.some.injEq, exists_eq_left', if_true, if_false, Bool.false_eq_true, Bool.not_true, Bool.not_false, reduceIte, true_and, and_true, wNew_false, wNew_true, drf_non, drf_bl, drf_i, drf_s, drf_t, drf_l, drf_c, drf_d, drf_n, drf_x, drf_r, drfC_l, drfC_d, drfC_n, tr_b, tr_i, tr_s, tr_n, tr_l, tr_t, ty_non, ty_bl, ty_i, ty_s, ty_t, ty_l, ty_c, ty_d, ty_n, bin_add, bin_sub, bin_mul, bin_fdiv, bin_mod, bin_pow, add_i, add_s, add_l, add_t, sub_i, mul_i, mul_l, fdiv_i, mod_i, pow_i, neg_i, c_eq, c_ne, c_lt, c_gt, c_le, c_ge, c_in, c_nin, c_is, c_isn, lt_i, lt_s, eq_i, eq_s, eq_b, eq_sn, eq_l, eq_t, eq_lt, in_s, in_l, in_t, is_nn, is_bb, is_sn, is_in, is_tn, is_ln, is_on, ix_l, ix_t, ix_c, ix_s, ix_d, sl_l, sl_t, sl_c, sl_s, rev_s, bi_len, bi_int, bi_intb, bi_abs, bi_min2, bi_max2, bi_sumL, bi_anyL, bi_allL, bi_sorted, bi_list, bi_tuple, bi_repr, bi_divmod, len_s, len_l, len_t, len_c, len_d, so_l, so_s, li_l, li_t, li_s, tu_l, tu_t, mt_join, mt_app, mt_pop, ok_join, ok_app, ok_pop, set_r, as_n, ex_eq, wC_none, cut_1]
    refine ⟨by omega, by omega, ?_⟩
    refine wFor_ind hG (p := .nm 3) (b := b_q_right_L2) (fun r2 ρ S' => ∃ (k2 : Nat) (x3 x4 x5 x6 x7 x8 x9 x10 : Option PV), k2 + r2.length * 120 + r.length * 2000 ≤ 8000 ∧ Drawn S S' v k2 ∧ ρ = [some (.ref v), some x, some (.str s), x3, x4, x5, x6, x7, x8, x9, x10]) (fun r ρ S' _ => trivial) ?_ ?_ _ _ _
      ⟨k + 1 + 100, x3, x4, x5, x6, x7, x8, x9, x10, by rw [rngL_len]; show k + 1 + 100 + 10 * 120 + r.length * 2000 ≤ 8000; omega, d4, rfl⟩
    · rintro y r2 ρ S5 ⟨k2, x3, x4, x5, x6, x7, x8, x9, x10, hk2, d5, rfl⟩
      rw [List.length_cons] at hk2
      obtain ⟨c5, hc5, hj5⟩ := d5.jar
      simp only [b_q_right_L2, k12, wSs, wS, wT, wE, wEs, wO, wIt, start, setV, wipe, List.map_cons, List.map_nil, List.length_cons, List.length_nil, List.getElem?_cons_zero, List.getElem?_cons_succ, List.cons_append, List.nil_append, List.replicate, List.set_cons_zero, List.set_cons_succ, Nat.reduceAdd, Nat.reduceSub, Nat.zero_add, Option.bind_some, Option.some.injEq, exists_eq_left', if_true, if_false, Bool.false_eq_true, Bool.not_true, Bool.not_false, reduceIte, true_and, and_true, wNew_false, wNew_true, drf_non, drf_bl, drf_i, drf_s, drf_t, drf_l, drf_c, drf_d, drf_n, drf_x, drf_r, drfC_l, drfC_d, drfC_n, tr_b, tr_i, tr_s, tr_n, tr_l, tr_t, ty_non, ty_bl, ty_i, ty_s, ty_t, ty_l, ty_c, ty_d, ty_n, bin_add, bin_sub, bin_mul, bin_fdiv, bin_mod, bin_pow, add_i, add_s, add_l, add_t, sub_i, mul_i, mul_l, fdiv_i, mod_i, pow_i, neg_i, c_eq, c_ne, c_lt, c_gt, c_le, c_ge, c_in, c_nin, c_is, c_isn, lt_i, lt_s, eq_i, eq_s, eq_b, eq_sn, eq_l, eq_t, eq_lt, in_s, in_l, in_t, is_nn, is_bb, is_sn, is_in, is_tn, is_ln, is_on, ix_l, ix_t, ix_c, ix_s, ix_d, sl_l, sl_t, sl_c, sl_s, rev_s, bi_len, bi_int, bi_intb, bi_abs, bi_min2, bi_max2, bi_sumL, bi_anyL, bi_allL, bi_sorted, bi_list, bi_tuple, bi_repr, bi_divmod, len_s, len_l, len_t, len_c, len_d, so_l, so_s, li_l, li_t, li_s, tu_l, tu_t, mt_join, mt_app, mt_pop, ok_join, ok_app, ok_pop, set_r, as_n, ex_eq, wC_none, cut_1]
      refine ⟨v, s, c5, k2, rfl, hc5, hj5, by omega, h8, d5.nr, fun c6 o hj6 ho => ?_⟩
      have d6 := d5.set hj6
      have hol : o.length = s.length := ho.length_eq
      obtain ⟨c7, hc7, hj7⟩ := d6.jar
      simp only [b_q_right_L2_1, k9, wSs, wS, wT, wE, wEs, wO, wIt, start, setV, wipe, List.map_cons, List.map_nil, List.length_cons, List.length_nil, List.getElem?_cons_zero, List.getElem?_cons_succ, List.cons_append, List.nil_append, List.replicate, List.set_cons_zero, List.set_cons_succ, Nat.reduceAdd, Nat.reduceSub, Nat.zero_add, Option.bind_some, Option.some.injEq, exists_eq_left', if_true, if_false, Bool.false_eq_true, Bool.not_true, Bool.not_false, reduceIte, true_and, and_true, wNew_false, wNew_true, drf_non, drf_bl, drf_i, drf_s, drf_t, drf_l, drf_c, drf_d, drf_n, drf_x, drf_r, drfC_l, drfC_d, drfC_n, tr_b, tr_i, tr_s, tr_n, tr_l, tr_t, ty_non, ty_bl, ty_i, ty_s, ty_t, ty_l, ty_c, ty_d, ty_n, bin_add, bin_sub, bin_mul, bin_fdiv, bin_mod, bin_pow, add_i, add_s, add_l, add_t, sub_i, mul_i, mul_l, fdiv_i, mod_i, pow_i, neg_i, c_eq, c_ne, c_lt, c_gt, c_le, c_ge, c_in, c_nin, c_is, c_isn, lt_i, lt_s, eq_i, eq_s, eq_b, eq_sn, eq_l, eq_t, eq_lt, in_s, in_l, in_t, is_nn, is_bb, is_sn, is_in, is_tn, is_ln, is_on, ix_l, ix_t, ix_c, ix_s, ix_d, sl_l, sl_t, sl_c, sl_s, rev_s, bi_len, bi_int, bi_intb, bi_abs, bi_min2, bi_max2, bi_sumL, bi_anyL, bi_allL, bi_sorted, bi_list, bi_tuple, bi_repr, bi_divmod, len_s, len_l, len_t, len_c, len_d, so_l, so_s, li_l, li_t, li_s, tu_l, tu_t, mt_join, mt_app, mt_pop, ok_join, ok_app, ok_pop, set_r, as_n, ex_eq, wC_none, cut_1]
      refine ⟨v, _, c7, k2 + 100, rfl, hc7, hj7, by omega, by omega, by omega, fun c8 a hj8 a0 a1 => ?_⟩
      have d8 := d6.set hj8
      obtain ⟨c9, hc9, hj9⟩ := d8.jar
      refine ⟨v, _, c9, k2 + 101, rfl, hc9, hj9, by omega, by omega, by omega, fun c10 b hj10 b0 b1 => ?_⟩
      have d10 := d8.set hj10
      obtain ⟨st, hst⟩ : ∃ st : Nat, a = (st : Int) := ⟨a.toNat, by omega⟩
      obtain ⟨sz, hsz⟩ : ∃ sz : Nat, 1 + b = (sz : Int) := ⟨(1 + b).toNat, by omega⟩
      subst hst
      have ec : cut (o ++ o) (some (st : Int)) (some ((st : Int) + (sz : Int))) = ((o ++ o).drop st).take sz := by
        have := cut_mid (xs := o ++ o) (a := st) (b := st + sz) (by rw [List.length_append]; omega)
        rw [show (((st + sz : Nat)) : Int) = (st : Int) + (sz : Int) from by omega, Nat.add_sub_cancel_left] at this
        exact this
      obtain ⟨np, nt⟩ := named_ok hs h2 h8 ho (start := st) (size := sz) (by omega) (by omega) (by omega)
      have rs := rising_of hs h2 h8
      have so := srt_of hs ho
      have oT : o.length ≤ 1000 := by omega
      simp only [b_q_right_L2_2, b_q_right_L2_3, k14, k7, hsz, ec, wSs, wS, wT, wE, wEs, wO, wIt, start, setV, wipe, List.map_cons, List.map_nil, List.length_cons, List.length_nil, List.getElem?_cons_zero, List.getElem?_cons_succ, List.cons_append, List.nil_append, List.replicate, List.set_cons_zero, List.set_cons_succ, Nat.reduceAdd, Nat.reduceSub, Nat.zero_add, Option.bind_some, Option.some.injEq, exists_eq_left', if_true, if_false, Bool.false_eq_true, Bool.not_true, Bool.not_false, reduceIte, true_and, and_true, wNew_false, wNew_true, drf_non, drf_bl, drf_i, drf_s, drf_t, drf_l, drf_c, drf_d, drf_n, drf_x, drf_r, drfC_l, drfC_d, drfC_n, tr_b, tr_i, tr_s, tr_n, tr_l, tr_t, ty_non, ty_bl, ty_i, ty_s, ty_t, ty_l, ty_c, ty_d, ty_n, bin_add, bin_sub, bin_mul, bin_fdiv, bin_mod, bin_pow, add_i, add_s, add_l, add_t, sub_i, mul_i, mul_l, fdiv_i, mod_i, pow_i, neg_i, c_eq, c_ne, c_lt, c_gt, c_le, c_ge, c_in, c_nin, c_is, c_isn, lt_i, lt_s, eq_i, eq_s, eq_b, eq_sn, eq_l, eq_t, eq_lt, in_s, in_l, in_t, is_nn, is_bb, is_sn, is_in, is_tn, is_ln, is_on, ix_l, ix_t, ix_c, ix_s, ix_d, sl_l, sl_t, sl_c, sl_s, rev_s, bi_len, bi_int, bi_intb, bi_abs, bi_min2, bi_max2, bi_sumL, bi_anyL, bi_allL, bi_sorted, bi_list, bi_tuple, bi_repr, bi_divmod, len_s, len_l, len_t, len_c, len_d, so_l, so_s, li_l, li_t, li_s, tu_l, tu_t, mt_join, mt_app, mt_pop, ok_join, ok_app, ok_pop, set_r, as_n, ex_eq, wC_none, cut_1]
      refine ⟨by omega, s, _, rfl, by omega, h8, by rw [List.length_take]; omega, ?_⟩
      have nl : (named s (((o ++ o).drop st).take sz)).length ≤ 1000 := by
        have : (named s (((o ++ o).drop st).take sz)).length ≤ 8 := by
          unfold isPart rising at np
          simp only [Bool.and_eq_true, decide_eq_true_eq] at np
          have := np.1.1.1.2
          omega
        omega
      refine ⟨s, o, _, rfl, oT, by omega, nl, rs, so, np, ?_⟩
      rw [decide_eq_true nt]
      simp only [beq_self_eq_true, wSs, wS, wT, wE, wEs, wO, wIt, start, setV, wipe, List.map_cons, List.map_nil, List.length_cons, List.length_nil, List.getElem?_cons_zero, List.getElem?_cons_succ, List.cons_append, List.nil_append, List.replicate, List.set_cons_zero, List.set_cons_succ, Nat.reduceAdd, Nat.reduceSub, Nat.zero_add, Option.bind_some, Option.some.injEq, exists_eq_left', if_true, if_false, Bool.false_eq_true, Bool.not_true, Bool.not_false, reduceIte, true_and, and_true, wNew_false, wNew_true, drf_non, drf_bl, drf_i, drf_s, drf_t, drf_l, drf_c, drf_d, drf_n, drf_x, drf_r, drfC_l, drfC_d, drfC_n, tr_b, tr_i, tr_s, tr_n, tr_l, tr_t, ty_non, ty_bl, ty_i, ty_s, ty_t, ty_l, ty_c, ty_d, ty_n, bin_add, bin_sub, bin_mul, bin_fdiv, bin_mod, bin_pow, add_i, add_s, add_l, add_t, sub_i, mul_i, mul_l, fdiv_i, mod_i, pow_i, neg_i, c_eq, c_ne, c_lt, c_gt, c_le, c_ge, c_in, c_nin, c_is, c_isn, lt_i, lt_s, eq_i, eq_s, eq_b, eq_sn, eq_l, eq_t, eq_lt, in_s, in_l, in_t, is_nn, is_bb, is_sn, is_in, is_tn, is_ln, is_on, ix_l, ix_t, ix_c, ix_s, ix_d, sl_l, sl_t, sl_c, sl_s, rev_s, bi_len, bi_int, bi_intb, bi_abs, bi_min2, bi_max2, bi_sumL, bi_anyL, bi_allL, bi_sorted, bi_list, bi_tuple, bi_repr, bi_divmod, len_s, len_l, len_t, len_c, len_d, so_l, so_s, li_l, li_t, li_s, tu_l, tu_t, mt_join, mt_app, mt_pop, ok_join, ok_app, ok_pop, set_r, as_n, ex_eq, wC_none, cut_1]
      -- the lot
      simp only [b_q_right_L2_4, k10, k13, wSs, wS, wT, wE, wEs, wO, wIt, start, setV, wipe, List.map_cons, List.map_nil, List.length_cons, List.length_nil, List.getElem?_cons_zero, List.getElem?_cons_succ, List.cons_append, List.nil_append, List.replicate, List.set_cons_zero, List.set_cons_succ, Nat.reduceAdd, Nat.reduceSub, Nat.zero_add, Option.bind_some, Option.some.injEq, exists_eq_left', if_true, if_false, Bool.false_eq_true, Bool.not_true, Bool.not_false, reduceIte, true_and, and_true, wNew_false, wNew_true, drf_non, drf_bl, drf_i, drf_s, drf_t, drf_l, drf_c, drf_d, drf_n, drf_x, drf_r, drfC_l, drfC_d, drfC_n, tr_b, tr_i, tr_s, tr_n, tr_l, tr_t, ty_non, ty_bl, ty_i, ty_s, ty_t, ty_l, ty_c, ty_d, ty_n, bin_add, bin_sub, bin_mul, bin_fdiv, bin_mod, bin_pow, add_i, add_s, add_l, add_t, sub_i, mul_i, mul_l, fdiv_i, mod_i, pow_i, neg_i, c_eq, c_ne, c_lt, c_gt, c_le, c_ge, c_in, c_nin, c_is, c_isn, lt_i, lt_s, eq_i, eq_s, eq_b, eq_sn, eq_l, eq_t, eq_lt, in_s, in_l, in_t, is_nn, is_bb, is_sn, is_in, is_tn, is_ln, is_on, ix_l, ix_t, ix_c, ix_s, ix_d, sl_l, sl_t, sl_c, sl_s, rev_s, bi_len, bi_int, bi_intb, bi_abs, bi_min2, bi_max2, bi_sumL, bi_anyL, bi_allL, bi_sorted, bi_list, bi_tuple, bi_repr, bi_divmod, len_s, len_l, len_t, len_c, len_d, so_l, so_s, li_l, li_t, li_s, tu_l, tu_t, mt_join, mt_app, mt_pop, ok_join, ok_app, ok_pop, set_r, as_n, ex_eq, wC_none, cut_1]
      refine ⟨s, rfl, hs, h2, h8, fun ps hps hpl hpp => ?_⟩
      obtain ⟨c11, hc11, hj11⟩ := d10.jar
      refine ⟨v, _, c11, k2 + 102, rfl, hc11, hj11, by omega, by simpa using hps, by rw [List.length_map]; omega, fun c12 z hj12 hz => ?_⟩
      have d12 := d10.set hj12
      obtain ⟨p, hp, rfl⟩ := List.mem_map.mp hz
      have hpart := hpp p hp
      have pl : p.length ≤ 1000 := by
        unfold isPart rising at hpart
        simp only [Bool.and_eq_true, decide_eq_true_eq] at hpart
        have := hpart.1.1.1.2
        omega
      simp only [b_q_right_L2_5, k15, wSs, wS, wT, wE, wEs, wO, wIt, start, setV, wipe, List.map_cons, List.map_nil, List.length_cons, List.length_nil, List.getElem?_cons_zero, List.getElem?_cons_succ, List.cons_append, List.nil_append, List.replicate, List.set_cons_zero, List.set_cons_succ, Nat.reduceAdd, Nat.reduceSub, Nat.zero_add, Option.bind_some, Option.some.injEq, exists_eq_left', if_true, if_false, Bool.false_eq_true, Bool.not_true, Bool.not_false, reduceIte, true_and, and_true, wNew_false, wNew_true, drf_non, drf_bl, drf_i, drf_s, drf_t, drf_l, drf_c, drf_d, drf_n, drf_x, drf_r, drfC_l, drfC_d, drfC_n, tr_b, tr_i, tr_s, tr_n, tr_l, tr_t, ty_non, ty_bl, ty_i, ty_s, ty_t, ty_l, ty_c, ty_d, ty_n, bin_add, bin_sub, bin_mul, bin_fdiv, bin_mod, bin_pow, add_i, add_s, add_l, add_t, sub_i, mul_i, mul_l, fdiv_i, mod_i, pow_i, neg_i, c_eq, c_ne, c_lt, c_gt, c_le, c_ge, c_in, c_nin, c_is, c_isn, lt_i, lt_s, eq_i, eq_s, eq_b, eq_sn, eq_l, eq_t, eq_lt, in_s, in_l, in_t, is_nn, is_bb, is_sn, is_in, is_tn, is_ln, is_on, ix_l, ix_t, ix_c, ix_s, ix_d, sl_l, sl_t, sl_c, sl_s, rev_s, bi_len, bi_int, bi_intb, bi_abs, bi_min2, bi_max2, bi_sumL, bi_anyL, bi_allL, bi_sorted, bi_list, bi_tuple, bi_repr, bi_divmod, len_s, len_l, len_t, len_c, len_d, so_l, so_s, li_l, li_t, li_s, tu_l, tu_t, mt_join, mt_app, mt_pop, ok_join, ok_app, ok_pop, set_r, as_n, ex_eq, wC_none, cut_1]
      refine ⟨o, p, rfl, by omega, ?_⟩
      rw [run_is (by omega) (by omega)]
      have so2 : srt o.reverse = s := srt_of hs ((List.reverse_perm o).trans ho)
      have pr : (o.drop st ++ o.take st).Perm s := by
        have : (o.drop st ++ o.take st).Perm (o.take st ++ o.drop st) := List.perm_append_comm
        rw [List.take_append_drop] at this
        exact this.trans ho
      have so3 : srt (o.drop st ++ o.take st) = s := srt_of hs pr
      simp only [b_q_right_L2_6, k7, pick, List.filterMap_cons, List.filterMap_nil, List.append_nil, wSs, wS, wT, wE, wEs, wO, wIt, start, setV, wipe, List.map_cons, List.map_nil, List.length_cons, List.length_nil, List.getElem?_cons_zero, List.getElem?_cons_succ, List.cons_append, List.nil_append, List.replicate, List.set_cons_zero, List.set_cons_succ, Nat.reduceAdd, Nat.reduceSub, Nat.zero_add, Option.bind_some, Option.some.injEq, exists_eq_left', if_true, if_false, Bool.false_eq_true, Bool.not_true, Bool.not_false, reduceIte, true_and, and_true, wNew_false, wNew_true, drf_non, drf_bl, drf_i, drf_s, drf_t, drf_l, drf_c, drf_d, drf_n, drf_x, drf_r, drfC_l, drfC_d, drfC_n, tr_b, tr_i, tr_s, tr_n, tr_l, tr_t, ty_non, ty_bl, ty_i, ty_s, ty_t, ty_l, ty_c, ty_d, ty_n, bin_add, bin_sub, bin_mul, bin_fdiv, bin_mod, bin_pow, add_i, add_s, add_l, add_t, sub_i, mul_i, mul_l, fdiv_i, mod_i, pow_i, neg_i, c_eq, c_ne, c_lt, c_gt, c_le, c_ge, c_in, c_nin, c_is, c_isn, lt_i, lt_s, eq_i, eq_s, eq_b, eq_sn, eq_l, eq_t, eq_lt, in_s, in_l, in_t, is_nn, is_bb, is_sn, is_in, is_tn, is_ln, is_on, ix_l, ix_t, ix_c, ix_s, ix_d, sl_l, sl_t, sl_c, sl_s, rev_s, bi_len, bi_int, bi_intb, bi_abs, bi_min2, bi_max2, bi_sumL, bi_anyL, bi_allL, bi_sorted, bi_list, bi_tuple, bi_repr, bi_divmod, len_s, len_l, len_t, len_c, len_d, so_l, so_s, li_l, li_t, li_s, tu_l, tu_t, mt_join, mt_app, mt_pop, ok_join, ok_app, ok_pop, set_r, as_n, ex_eq, wC_none, cut_1]
      refine ⟨s, o, p, rfl, oT, by omega, pl, rs, so, hpart, ?_⟩
      refine ⟨s, o.reverse, p, rfl, by rw [List.length_reverse]; exact oT, by omega, pl, rs, so2, hpart, ?_⟩
      rw [turns_rev (by omega) (by omega)]
      simp only [b_q_right_L2_7, b_q_right_L2_8, k7, cut_from, cut_to, wSs, wS, wT, wE, wEs, wO, wIt, start, setV, wipe, List.map_cons, List.map_nil, List.length_cons, List.length_nil, List.getElem?_cons_zero, List.getElem?_cons_succ, List.cons_append, List.nil_append, List.replicate, List.set_cons_zero, List.set_cons_succ, Nat.reduceAdd, Nat.reduceSub, Nat.zero_add, Option.bind_some, Option.some.injEq, exists_eq_left', if_true, if_false, Bool.false_eq_true, Bool.not_true, Bool.not_false, reduceIte, true_and, and_true, wNew_false, wNew_true, drf_non, drf_bl, drf_i, drf_s, drf_t, drf_l, drf_c, drf_d, drf_n, drf_x, drf_r, drfC_l, drfC_d, drfC_n, tr_b, tr_i, tr_s, tr_n, tr_l, tr_t, ty_non, ty_bl, ty_i, ty_s, ty_t, ty_l, ty_c, ty_d, ty_n, bin_add, bin_sub, bin_mul, bin_fdiv, bin_mod, bin_pow, add_i, add_s, add_l, add_t, sub_i, mul_i, mul_l, fdiv_i, mod_i, pow_i, neg_i, c_eq, c_ne, c_lt, c_gt, c_le, c_ge, c_in, c_nin, c_is, c_isn, lt_i, lt_s, eq_i, eq_s, eq_b, eq_sn, eq_l, eq_t, eq_lt, in_s, in_l, in_t, is_nn, is_bb, is_sn, is_in, is_tn, is_ln, is_on, ix_l, ix_t, ix_c, ix_s, ix_d, sl_l, sl_t, sl_c, sl_s, rev_s, bi_len, bi_int, bi_intb, bi_abs, bi_min2, bi_max2, bi_sumL, bi_anyL, bi_allL, bi_sorted, bi_list, bi_tuple, bi_repr, bi_divmod, len_s, len_l, len_t, len_c, len_d, so_l, so_s, li_l, li_t, li_s, tu_l, tu_t, mt_join, mt_app, mt_pop, ok_join, ok_app, ok_pop, set_r, as_n, ex_eq, wC_none, cut_1]
      refine ⟨by omega, ?_⟩
      generalize hb : decide (turnsB (sides o p) ≤ 2) = bb
      have m1 : ∀ (S : Sto) (c : Cell), (S ++ [c])[S.length]? = some c := fun S c => by
        rw [List.getElem?_append_right (Nat.le_refl _), Nat.sub_self]; rfl
      simp only [m1, wSs, wS, wT, wE, wEs, wO, wIt, start, setV, wipe, List.map_cons, List.map_nil, List.length_cons, List.length_nil, List.getElem?_cons_zero, List.getElem?_cons_succ, List.cons_append, List.nil_append, List.replicate, List.set_cons_zero, List.set_cons_succ, Nat.reduceAdd, Nat.reduceSub, Nat.zero_add, Option.bind_some, Option.some.injEq, exists_eq_left', if_true, if_false, Bool.false_eq_true, Bool.not_true, Bool.not_false, reduceIte, true_and, and_true, wNew_false, wNew_true, drf_non, drf_bl, drf_i, drf_s, drf_t, drf_l, drf_c, drf_d, drf_n, drf_x, drf_r, drfC_l, drfC_d, drfC_n, tr_b, tr_i, tr_s, tr_n, tr_l, tr_t, ty_non, ty_bl, ty_i, ty_s, ty_t, ty_l, ty_c, ty_d, ty_n, bin_add, bin_sub, bin_mul, bin_fdiv, bin_mod, bin_pow, add_i, add_s, add_l, add_t, sub_i, mul_i, mul_l, fdiv_i, mod_i, pow_i, neg_i, c_eq, c_ne, c_lt, c_gt, c_le, c_ge, c_in, c_nin, c_is, c_isn, lt_i, lt_s, eq_i, eq_s, eq_b, eq_sn, eq_l, eq_t, eq_lt, in_s, in_l, in_t, is_nn, is_bb, is_sn, is_in, is_tn, is_ln, is_on, ix_l, ix_t, ix_c, ix_s, ix_d, sl_l, sl_t, sl_c, sl_s, rev_s, bi_len, bi_int, bi_intb, bi_abs, bi_min2, bi_max2, bi_sumL, bi_anyL, bi_allL, bi_sorted, bi_list, bi_tuple, bi_repr, bi_divmod, len_s, len_l, len_t, len_c, len_d, so_l, so_s, li_l, li_t, li_s, tu_l, tu_t, mt_join, mt_app, mt_pop, ok_join, ok_app, ok_pop, set_r, as_n, ex_eq, wC_none, cut_1]
      refine ⟨⟨_, rfl⟩, by rw [List.length_drop, List.length_take]; omega, ?_⟩
      refine ⟨s, o.drop st ++ o.take st, p, rfl, by rw [pr.length_eq]; omega, by omega, pl, rs, so3, hpart, ?_⟩
      rw [turns_rot (by omega) (by omega) (by omega), hb]
      simp only [m1, wSs, wS, wT, wE, wEs, wO, wIt, start, setV, wipe, List.map_cons, List.map_nil, List.length_cons, List.length_nil, List.getElem?_cons_zero, List.getElem?_cons_succ, List.cons_append, List.nil_append, List.replicate, List.set_cons_zero, List.set_cons_succ, Nat.reduceAdd, Nat.reduceSub, Nat.zero_add, Option.bind_some, Option.some.injEq, exists_eq_left', if_true, if_false, Bool.false_eq_true, Bool.not_true, Bool.not_false, reduceIte, true_and, and_true, wNew_false, wNew_true, drf_non, drf_bl, drf_i, drf_s, drf_t, drf_l, drf_c, drf_d, drf_n, drf_x, drf_r, drfC_l, drfC_d, drfC_n, tr_b, tr_i, tr_s, tr_n, tr_l, tr_t, ty_non, ty_bl, ty_i, ty_s, ty_t, ty_l, ty_c, ty_d, ty_n, bin_add, bin_sub, bin_mul, bin_fdiv, bin_mod, bin_pow, add_i, add_s, add_l, add_t, sub_i, mul_i, mul_l, fdiv_i, mod_i, pow_i, neg_i, c_eq, c_ne, c_lt, c_gt, c_le, c_ge, c_in, c_nin, c_is, c_isn, lt_i, lt_s, eq_i, eq_s, eq_b, eq_sn, eq_l, eq_t, eq_lt, in_s, in_l, in_t, is_nn, is_bb, is_sn, is_in, is_tn, is_ln, is_on, ix_l, ix_t, ix_c, ix_s, ix_d, sl_l, sl_t, sl_c, sl_s, rev_s, bi_len, bi_int, bi_intb, bi_abs, bi_min2, bi_max2, bi_sumL, bi_anyL, bi_allL, bi_sorted, bi_list, bi_tuple, bi_repr, bi_divmod, len_s, len_l, len_t, len_c, len_d, so_l, so_s, li_l, li_t, li_s, tu_l, tu_t, mt_join, mt_app, mt_pop, ok_join, ok_app, ok_pop, set_r, as_n, ex_eq, wC_none, cut_1]
      refine ⟨_, rfl, by simp; omega, ?_⟩
      have d13 : Drawn S ((S5.set v c6 |>.set v c8 |>.set v c10 |>.set v c12) ++ [.lst [.bl bb, .bl bb]]) v (k2 + 103) := d12.push rfl
      have m2 : ∀ (S : Sto) (c c' : Cell), ((S ++ [c]).set S.length c')[S.length]? = some c' := fun S c c' => List.getElem?_set_self (by simp)
      simp only [m2, wSs, wS, wT, wE, wEs, wO, wIt, start, setV, wipe, List.map_cons, List.map_nil, List.length_cons, List.length_nil, List.getElem?_cons_zero, List.getElem?_cons_succ, List.cons_append, List.nil_append, List.replicate, List.set_cons_zero, List.set_cons_succ, Nat.reduceAdd, Nat.reduceSub, Nat.zero_add, Option.bind_some, Option.some.injEq, exists_eq_left', if_true, if_false, Bool.false_eq_true, Bool.not_true, Bool.not_false, reduceIte, true_and, and_true, wNew_false, wNew_true, drf_non, drf_bl, drf_i, drf_s, drf_t, drf_l, drf_c, drf_d, drf_n, drf_x, drf_r, drfC_l, drfC_d, drfC_n, tr_b, tr_i, tr_s, tr_n, tr_l, tr_t, ty_non, ty_bl, ty_i, ty_s, ty_t, ty_l, ty_c, ty_d, ty_n, bin_add, bin_sub, bin_mul, bin_fdiv, bin_mod, bin_pow, add_i, add_s, add_l, add_t, sub_i, mul_i, mul_l, fdiv_i, mod_i, pow_i, neg_i, c_eq, c_ne, c_lt, c_gt, c_le, c_ge, c_in, c_nin, c_is, c_isn, lt_i, lt_s, eq_i, eq_s, eq_b, eq_sn, eq_l, eq_t, eq_lt, in_s, in_l, in_t, is_nn, is_bb, is_sn, is_in, is_tn, is_ln, is_on, ix_l, ix_t, ix_c, ix_s, ix_d, sl_l, sl_t, sl_c, sl_s, rev_s, bi_len, bi_int, bi_intb, bi_abs, bi_min2, bi_max2, bi_sumL, bi_anyL, bi_allL, bi_sorted, bi_list, bi_tuple, bi_repr, bi_divmod, len_s, len_l, len_t, len_c, len_d, so_l, so_s, li_l, li_t, li_s, tu_l, tu_t, mt_join, mt_app, mt_pop, ok_join, ok_app, ok_pop, set_r, as_n, ex_eq, wC_none, cut_1]
      have hx : (List.replicate (Int.toNat 3) [PV.bl bb]).flatten = [PV.bl bb, PV.bl bb, PV.bl bb] := rfl
      rw [hx]
      refine ⟨by cases bb <;> decide, by cases bb <;> decide, by cases bb <;> decide, by omega, by omega, by omega, by decide, by cases bb <;> decide, by cases bb <;> decide, by cases bb <;> decide, rfl, ?_⟩
      simp only [wSs, wS, wT, wE, wEs, wO, wIt, start, setV, wipe, List.map_cons, List.map_nil, List.length_cons, List.length_nil, List.getElem?_cons_zero, List.getElem?_cons_succ, List.cons_append, List.nil_append, List.replicate, List.set_cons_zero, List.set_cons_succ, Nat.reduceAdd, Nat.reduceSub, Nat.zero_add, Option.bind_some, Option.some.injEq, exists_eq_left', if_true, if_false, Bool.false_eq_true, Bool.not_true, Bool.not_false, reduceIte, true_and, and_true, wNew_false, wNew_true, drf_non, drf_bl, drf_i, drf_s, drf_t, drf_l, drf_c, drf_d, drf_n, drf_x, drf_r, drfC_l, drfC_d, drfC_n, tr_b, tr_i, tr_s, tr_n, tr_l, tr_t, ty_non, ty_bl, ty_i, ty_s, ty_t, ty_l, ty_c, ty_d, ty_n, bin_add, bin_sub, bin_mul, bin_fdiv, bin_mod, bin_pow, add_i, add_s, add_l, add_t, sub_i, mul_i, mul_l, fdiv_i, mod_i, pow_i, neg_i, c_eq, c_ne, c_lt, c_gt, c_le, c_ge, c_in, c_nin, c_is, c_isn, lt_i, lt_s, eq_i, eq_s, eq_b, eq_sn, eq_l, eq_t, eq_lt, in_s, in_l, in_t, is_nn, is_bb, is_sn, is_in, is_tn, is_ln, is_on, ix_l, ix_t, ix_c, ix_s, ix_d, sl_l, sl_t, sl_c, sl_s, rev_s, bi_len, bi_int, bi_intb, bi_abs, bi_min2, bi_max2, bi_sumL, bi_anyL, bi_allL, bi_sorted, bi_list, bi_tuple, bi_repr, bi_divmod, len_s, len_l, len_t, len_c, len_d, so_l, so_s, li_l, li_t, li_s, tu_l, tu_t, mt_join, mt_app, mt_pop, ok_join, ok_app, ok_pop, set_r, as_n, ex_eq, wC_none, cut_1]
      refine ⟨k2 + 103, _, _, _, _, _, _, _, _, by omega, d13.other (by have := d12.len; exact this) rfl, rfl⟩
    · rintro ρ S5 ⟨k2, x3, x4, x5, x6, x7, x8, x9, x10, hk2, d5, rfl⟩
      simp only [List.length_nil, Nat.zero_mul, Nat.add_zero] at hk2
      exact ⟨k2, _, _, _, _, _, _, _, _, _, _, by omega, d5, rfl⟩
  · rintro ρ S' ⟨k, x1, x2, x3, x4, x5, x6, x7, x8, x9, x10, hk, d, rfl⟩
    simp only [wSs, wS, wT, wE, wEs, wO, wIt, start, setV, wipe, List.map_cons, List.map_nil, List.length_cons, List.length_nil, List.getElem?_cons_zero, List.getElem?_cons_succ, List.cons_append, List.nil_append, List.replicate, List.set_cons_zero, List.set_cons_succ, Nat.reduceAdd, Nat.reduceSub, Nat.zero_add, Option.bind_some, Option.some.injEq, exists_eq_left', if_true, if_false, Bool.false_eq_true, Bool.not_true, Bool.not_false, reduceIte, true_and, and_true, wNew_false, wNew_true, drf_non, drf_bl, drf_i, drf_s, drf_t, drf_l, drf_c, drf_d, drf_n, drf_x, drf_r, drfC_l, drfC_d, drfC_n, tr_b, tr_i, tr_s, tr_n, tr_l, tr_t, ty_non, ty_bl, ty_i, ty_s, ty_t, ty_l, ty_c, ty_d, ty_n, bin_add, bin_sub, bin_mul, bin_fdiv, bin_mod, bin_pow, add_i, add_s, add_l, add_t, sub_i, mul_i, mul_l, fdiv_i, mod_i, pow_i, neg_i, c_eq, c_ne, c_lt, c_gt, c_le, c_ge, c_in, c_nin, c_is, c_isn, lt_i, lt_s, eq_i, eq_s, eq_b, eq_sn, eq_l, eq_t, eq_lt, in_s, in_l, in_t, is_nn, is_bb, is_sn, is_in, is_tn, is_ln, is_on, ix_l, ix_t, ix_c, ix_s, ix_d, sl_l, sl_t, sl_c, sl_s, rev_s, bi_len, bi_int, bi_intb, bi_abs, bi_min2, bi_max2, bi_sumL, bi_anyL, bi_allL, bi_sorted, bi_list, bi_tuple, bi_repr, bi_divmod, len_s, len_l, len_t, len_c, len_d, so_l, so_s, li_l, li_t, li_s, tu_l, tu_t, mt_join, mt_app, mt_pop, ok_join, ok_app, ok_pop, set_r, as_n, ex_eq, wC_none, cut_1]
    obtain ⟨c', hj', e⟩ := d.take
    refine .inr (.inl ⟨rfl, d.all, ?_⟩)
    rw [e]
    exact q c' k hj'
theorem w_law (xs : List PV) (S : Sto) (Q : K1) (E : XP) (h : spLaw xs S Q E) : xs.length = p_law.length ∧ wBody G E b_law n_law.length xs S Q := by
  obtain ⟨ns, rfl, hl, hb, rfl, q⟩ := h
  refine ⟨rfl, ?_⟩
  have hL := line_is
  simp only [wBody, b_law, n_law, wSs, wS, wT, wE, wEs, wO, wIt, start, setV, wipe, List.map_cons, List.map_nil, List.length_cons, List.length_nil, List.getElem?_cons_zero, List.getElem?_cons_succ, List.cons_append, List.nil_append, List.replicate, List.set_cons_zero, List.set_cons_succ, Nat.reduceAdd, Nat.reduceSub, Nat.zero_add, Option.bind_some, Option.some.injEq, exists_eq_left', if_true, if_false, Bool.false_eq_true, Bool.not_true, Bool.not_false, reduceIte, true_and, and_true, wNew_false, wNew_true, drf_non, drf_bl, drf_i, drf_s, drf_t, drf_l, drf_c, drf_d, drf_n, drf_x, drf_r, drfC_l, drfC_d, drfC_n, tr_b, tr_i, tr_s, tr_n, tr_l, tr_t, ty_non, ty_bl, ty_i, ty_s, ty_t, ty_l, ty_c, ty_d, ty_n, bin_add, bin_sub, bin_mul, bin_fdiv, bin_mod, bin_pow, add_i, add_s, add_l, add_t, sub_i, mul_i, mul_l, fdiv_i, mod_i, pow_i, neg_i, c_eq, c_ne, c_lt, c_gt, c_le, c_ge, c_in, c_nin, c_is, c_isn, lt_i, lt_s, eq_i, eq_s, eq_b, eq_sn, eq_l, eq_t, eq_lt, in_s, in_l, in_t, is_nn, is_bb, is_sn, is_in, is_tn, is_ln, is_on, ix_l, ix_t, ix_c, ix_s, ix_d, sl_l, sl_t, sl_c, sl_s, rev_s, bi_len, bi_int, bi_intb, bi_abs, bi_min2, bi_max2, bi_sumL, bi_anyL, bi_allL, bi_sorted, bi_list, bi_tuple, bi_repr, bi_divmod, len_s, len_l, len_t, len_c, len_d, so_l, so_s, li_l, li_t, li_s, tu_l, tu_t, mt_join, mt_app, mt_pop, ok_join, ok_app, ok_pop, set_r, as_n, ex_eq, wC_none, cut_1]
  generalize hm : (if (if (4 : Int) < (ns.length : Int) then (4 : Int) else (ns.length : Int)) > 2 then (if (4 : Int) < (ns.length : Int) then (4 : Int) else (ns.length : Int)) else 2) = m
  have hm2 : m ≤ 4 := by
    rw [← hm]
    split <;> split <;> omega
  have hm1 : 0 ≤ m := by
    rw [← hm]
    split <;> split <;> omega
  refine ⟨by omega, by omega, ?_⟩
  have hb2 : ∀ j : Nat, bools? (List.replicate j (PV.bl true)) = some (List.replicate j true) := by
    intro j
    induction j with
    | zero => rfl
    | succ j ih => rw [List.replicate_succ, List.replicate_succ, bools?, ih]; rfl
  have go : ∀ (r : List Nat) (j : Nat) (S' : Sto), S'.all cellNR = true → (∀ k ∈ r, k ≤ 1000) →
      wComp false (fun _ => True) (fun x k => k [some (PV.scr ns), some x]) (fun ρ' S' k => k true S') (fun ρ' S' k => wE G (fun _ _ => False) (.call "_law_right" (.cons (.call "_law_vat" (.cons (.var 0) (.cons (.var 1) .nil))) .nil)) ρ' S' k)
        (fun x S1 => wBi false Bi.all S1 [x] fun v S' => drp 0 v S' Q) (r.map fun k : Nat => PV.int (k : Int)) (List.replicate j (PV.bl true)) S' := by
    intro r
    induction r with
    | nil =>
      intro j S' hS _
      refine ⟨trivial, ?_⟩
      simp only [hb2, wSs, wS, wT, wE, wEs, wO, wIt, start, setV, wipe, List.map_cons, List.map_nil, List.length_cons, List.length_nil, List.getElem?_cons_zero, List.getElem?_cons_succ, List.cons_append, List.nil_append, List.replicate, List.set_cons_zero, List.set_cons_succ, Nat.reduceAdd, Nat.reduceSub, Nat.zero_add, Option.bind_some, Option.some.injEq, exists_eq_left', if_true, if_false, Bool.false_eq_true, Bool.not_true, Bool.not_false, reduceIte, true_and, and_true, wNew_false, wNew_true, drf_non, drf_bl, drf_i, drf_s, drf_t, drf_l, drf_c, drf_d, drf_n, drf_x, drf_r, drfC_l, drfC_d, drfC_n, tr_b, tr_i, tr_s, tr_n, tr_l, tr_t, ty_non, ty_bl, ty_i, ty_s, ty_t, ty_l, ty_c, ty_d, ty_n, bin_add, bin_sub, bin_mul, bin_fdiv, bin_mod, bin_pow, add_i, add_s, add_l, add_t, sub_i, mul_i, mul_l, fdiv_i, mod_i, pow_i, neg_i, c_eq, c_ne, c_lt, c_gt, c_le, c_ge, c_in, c_nin, c_is, c_isn, lt_i, lt_s, eq_i, eq_s, eq_b, eq_sn, eq_l, eq_t, eq_lt, in_s, in_l, in_t, is_nn, is_bb, is_sn, is_in, is_tn, is_ln, is_on, ix_l, ix_t, ix_c, ix_s, ix_d, sl_l, sl_t, sl_c, sl_s, rev_s, bi_len, bi_int, bi_intb, bi_abs, bi_min2, bi_max2, bi_sumL, bi_anyL, bi_allL, bi_sorted, bi_list, bi_tuple, bi_repr, bi_divmod, len_s, len_l, len_t, len_c, len_d, so_l, so_s, li_l, li_t, li_s, tu_l, tu_t, mt_join, mt_app, mt_pop, ok_join, ok_app, ok_pop, set_r, as_n, ex_eq, wC_none, cut_1]
      refine .inr (.inl ⟨rfl, by simp, ?_⟩)
      rw [List.take_zero]
      have : (List.replicate j true).all id = true := by
        rw [List.all_eq_true]
        intro x hx
        rw [(List.mem_replicate.mp hx).2]
        rfl
      rw [this]
      exact q
    | cons k r ih =>
      intro j S' hS hr
      refine ⟨trivial, ?_⟩
      simp only [k8, k16, wSs, wS, wT, wE, wEs, wO, wIt, start, setV, wipe, List.map_cons, List.map_nil, List.length_cons, List.length_nil, List.getElem?_cons_zero, List.getElem?_cons_succ, List.cons_append, List.nil_append, List.replicate, List.set_cons_zero, List.set_cons_succ, Nat.reduceAdd, Nat.reduceSub, Nat.zero_add, Option.bind_some, Option.some.injEq, exists_eq_left', if_true, if_false, Bool.false_eq_true, Bool.not_true, Bool.not_false, reduceIte, true_and, and_true, wNew_false, wNew_true, drf_non, drf_bl, drf_i, drf_s, drf_t, drf_l, drf_c, drf_d, drf_n, drf_x, drf_r, drfC_l, drfC_d, drfC_n, tr_b, tr_i, tr_s, tr_n, tr_l, tr_t, ty_non, ty_bl, ty_i, ty_s, ty_t, ty_l, ty_c, ty_d, ty_n, bin_add, bin_sub, bin_mul, bin_fdiv, bin_mod, bin_pow, add_i, add_s, add_l, add_t, sub_i, mul_i, mul_l, fdiv_i, mod_i, pow_i, neg_i, c_eq, c_ne, c_lt, c_gt, c_le, c_ge, c_in, c_nin, c_is, c_isn, lt_i, lt_s, eq_i, eq_s, eq_b, eq_sn, eq_l, eq_t, eq_lt, in_s, in_l, in_t, is_nn, is_bb, is_sn, is_in, is_tn, is_ln, is_on, ix_l, ix_t, ix_c, ix_s, ix_d, sl_l, sl_t, sl_c, sl_s, rev_s, bi_len, bi_int, bi_intb, bi_abs, bi_min2, bi_max2, bi_sumL, bi_anyL, bi_allL, bi_sorted, bi_list, bi_tuple, bi_repr, bi_divmod, len_s, len_l, len_t, len_c, len_d, so_l, so_s, li_l, li_t, li_s, tu_l, tu_t, mt_join, mt_app, mt_pop, ok_join, ok_app, ok_pop, set_r, as_n, ex_eq, wC_none, cut_1]
      refine ⟨ns, k, rfl, hb, by omega, by have := hr k List.mem_cons_self; omega, fun c hc => ?_⟩
      have hS2 : (S' ++ [c]).all cellNR = true := by rw [List.all_append, hS]; simp [jar_nr hc]
      refine ⟨S'.length, c, rfl, ?_, hc, hS2, fun c' n hc' => ?_⟩
      · rw [List.getElem?_append_right (Nat.le_refl _), Nat.sub_self]; rfl
      · have := ih (j + 1) ((S' ++ [c]).set S'.length c') (set_nr hS2 (jar_nr hc')) (fun x hx => hr x (List.mem_cons_of_mem _ hx))
        rw [List.replicate_succ'] at this
        exact this
  rw [rng0]
  exact go _ 0 [] rfl fun k hk => by have := List.mem_range.mp hk; omega
end K49
set_option maxRecDepth 100000
set_option maxHeartbeats 4000000
namespace K49
open PySem PySem.Spec PyProof.Rows L2 PL
theorem g_mono : G.Mono := by
  intro f sp hf
  have hm : (f, sp) ∈ fns := find_mem hf
  have key : SpMono sp := by
    simp only [fns, List.mem_cons, Prod.mk.injEq, List.not_mem_nil, or_false] at hm
    rcases hm with ⟨_, rfl⟩ | ⟨_, rfl⟩ | ⟨_, rfl⟩ | ⟨_, rfl⟩ | ⟨_, rfl⟩ | ⟨_, rfl⟩ | ⟨_, rfl⟩ | ⟨_, rfl⟩ | ⟨_, rfl⟩ | ⟨_, rfl⟩ | ⟨_, rfl⟩ | ⟨_, rfl⟩ | ⟨_, rfl⟩ | ⟨_, rfl⟩ | ⟨_, rfl⟩ | ⟨_, rfl⟩ | ⟨_, rfl⟩
    · exact fun _ _ _ _ _ _ ⟨s, a, b, h1, h2, q⟩ g _ => ⟨s, a, b, h1, h2, g _ _ q⟩
    · exact fun _ _ _ _ _ _ ⟨t, v, h1, h2, q⟩ g _ => ⟨t, v, h1, h2, g _ _ q⟩
    · exact fun _ _ _ _ _ _ ⟨v, h1, h2, h3, q⟩ g _ => ⟨v, h1, h2, h3, g _ _ q⟩
    · exact fun _ _ _ _ _ _ ⟨t, v, h1, h2, q⟩ g _ => ⟨t, v, h1, h2, g _ _ q⟩
    · exact fun _ _ _ _ _ _ ⟨t, v, h1, h2, q⟩ g _ => ⟨t, v, h1, h2, g _ _ q⟩
    · exact fun _ _ _ _ _ _ ⟨t, v, h1, h2, q⟩ g _ => ⟨t, v, h1, h2, g _ _ q⟩
    · exact fun _ _ _ _ _ _ ⟨t, o, p, h1, h2, h3, h4, h5, h6, h7, q⟩ g _ => ⟨t, o, p, h1, h2, h3, h4, h5, h6, h7, g _ _ q⟩
    · exact fun _ _ _ _ _ _ ⟨ns, k, h1, h2, h3, h4, q⟩ g _ => ⟨ns, k, h1, h2, h3, h4, fun c hc => g _ _ (q c hc)⟩
    · exact fun _ _ _ _ _ _ ⟨v, t, c, n, h1, h2, h3, h4, h5, h6, q⟩ g _ => ⟨v, t, c, n, h1, h2, h3, h4, h5, h6, fun c r a1 a2 a3 => g _ _ (q c r a1 a2 a3)⟩
    · exact fun _ _ _ _ _ _ ⟨v, t, c, n, h1, h2, h3, h4, h5, h6, q⟩ g _ => ⟨v, t, c, n, h1, h2, h3, h4, h5, h6, fun c r a1 a2 => g _ _ (q c r a1 a2)⟩
    · exact fun _ _ _ _ _ _ ⟨v, t, c, n, h1, h2, h3, h4, h5, h6, h7, q⟩ g _ => ⟨v, t, c, n, h1, h2, h3, h4, h5, h6, h7, fun c r a1 a2 a3 => g _ _ (q c r a1 a2 a3)⟩
    · exact fun _ _ _ _ _ _ ⟨v, t, c, n, h1, h2, h3, h4, h5, h6, q⟩ g _ => ⟨v, t, c, n, h1, h2, h3, h4, h5, h6, fun c r a1 a2 => g _ _ (q c r a1 a2)⟩
    · exact fun _ _ _ _ _ _ ⟨s, h1, h2, h3, h4, q⟩ g _ => ⟨s, h1, h2, h3, h4, fun ps a1 a2 a3 => g _ _ (q ps a1 a2 a3)⟩
    · exact fun _ _ _ _ _ _ ⟨s, u, h1, h2, h3, h4, q⟩ g _ => ⟨s, u, h1, h2, h3, h4, g _ _ q⟩
    · exact fun _ _ _ _ _ _ ⟨s, u, h1, h2, q⟩ g _ => ⟨s, u, h1, h2, g _ _ q⟩
    · exact fun _ _ _ _ _ _ ⟨v, c, h1, h2, h3, h4, q⟩ g _ => ⟨v, c, h1, h2, h3, h4, fun c n hc => g _ _ (q c n hc)⟩
    · exact fun _ _ _ _ _ _ ⟨ns, h1, h2, h3, h4, q⟩ g _ => ⟨ns, h1, h2, h3, h4, g _ _ q⟩
  exact key
theorem cn_cases {x : String} {v : PV} (h : G.cn x = some v) : (x = "LEAST_THINGS" ∧ v = .int 2) ∨ (x = "LETTERS" ∧ v = .str LET) ∨ (x = "MOST_THINGS" ∧ v = .int 8) := by
  have hm : (x, v) ∈ cns := find_mem h
  simp only [cns, List.mem_cons, Prod.mk.injEq, List.not_mem_nil, or_false] at hm
  rcases hm with h | h | h
  · exact .inr (.inl h)
  · exact .inl h
  · exact .inr (.inr h)
theorem law_ask (ns : List Int) (h1 : ns.length ≤ 63) (h2 : ∀ z ∈ ns, z.natAbs.log2 < 1048576) (Q : K1) (E : PL.XP) (hq : ∀ S', Q (.bl true) S') : spLaw [.scr ns] [] Q E := ⟨ns, rfl, h1, h2, rfl, hq []⟩
theorem kb_is_run {K : PySem.W.Frag} {fd : FuncData} (F : L2.Fun K "is_run" "is_run" s_is_run f fd) : ∀ p ∈ kbs, p.f = "is_run" → KBd K fd ["things", "order", "parting"] p := by
  intro p hp _
  simp only [kbs, List.mem_cons, List.not_mem_nil, or_false] at hp
  subst hp
  obtain ⟨oc, od, kV, doc, pm, an, cdv, ct, osl, rfl, lk, hcd⟩ := F.ex
  intro s us ws hK hu hw
  match us, ws, hu, hw with
  | [], [a, b, c], _, _ => exact .of_eq rfl
theorem all_mk {l : PySem.W.OpenLaw} {w : World} {K : PySem.W.Frag} {h : Heap} {mg : Str → Option Value} {fa : Addr} (X : K.In h) (G0 : h.Ns mainGlobals mg) (hfa : mg "law" = some (.ref fa))
    {f0 : Addr} {od0 an0 : Option Addr} {sl0 : Array (Option Value)} {oc0 kV0 dc0 pm0 cd0 ct0 : Value}
    (a0 : PySem.W.nsIn K mainGlobals "are_rising" = some (some (.ref f0))) (l0 : K.lookup f0 = some ⟨oc0, od0, .func (PySem.W.fnOf "are_rising" "are_rising" (defArgs s_are_rising) (defBody s_are_rising) (defScope s_are_rising) .none kV0 dc0 pm0 an0 cd0 ct0), sl0⟩) (c0 : PySem.W.codeIn K cd0 "are_rising" = true) (k0 : PySem.W.keepIn K (.ref f0) = true)
    {f1 : Addr} {od1 an1 : Option Addr} {sl1 : Array (Option Value)} {oc1 kV1 dc1 pm1 cd1 ct1 : Value}
    (a1 : PySem.W.nsIn K mainGlobals "is_parting" = some (some (.ref f1))) (l1 : K.lookup f1 = some ⟨oc1, od1, .func (PySem.W.fnOf "is_parting" "is_parting" (defArgs s_is_parting) (defBody s_is_parting) (defScope s_is_parting) .none kV1 dc1 pm1 an1 cd1 ct1), sl1⟩) (c1 : PySem.W.codeIn K cd1 "is_parting" = true) (k1 : PySem.W.keepIn K (.ref f1) = true)
    {f2 : Addr} {od2 an2 : Option Addr} {sl2 : Array (Option Value)} {oc2 kV2 dc2 pm2 cd2 ct2 : Value}
    (a2 : PySem.W.nsIn K mainGlobals "check_things" = some (some (.ref f2))) (l2 : K.lookup f2 = some ⟨oc2, od2, .func (PySem.W.fnOf "check_things" "check_things" (defArgs s_check_things) (defBody s_check_things) (defScope s_check_things) .none kV2 dc2 pm2 an2 cd2 ct2), sl2⟩) (c2 : PySem.W.codeIn K cd2 "check_things" = true) (k2 : PySem.W.keepIn K (.ref f2) = true)
    {f3 : Addr} {od3 an3 : Option Addr} {sl3 : Array (Option Value)} {oc3 kV3 dc3 pm3 cd3 ct3 : Value}
    (a3 : PySem.W.nsIn K mainGlobals "is_order" = some (some (.ref f3))) (l3 : K.lookup f3 = some ⟨oc3, od3, .func (PySem.W.fnOf "is_order" "is_order" (defArgs s_is_order) (defBody s_is_order) (defScope s_is_order) .none kV3 dc3 pm3 an3 cd3 ct3), sl3⟩) (c3 : PySem.W.codeIn K cd3 "is_order" = true) (k3 : PySem.W.keepIn K (.ref f3) = true)
    {f4 : Addr} {od4 an4 : Option Addr} {sl4 : Array (Option Value)} {oc4 kV4 dc4 pm4 cd4 ct4 : Value}
    (a4 : PySem.W.nsIn K mainGlobals "turns_in" = some (some (.ref f4))) (l4 : K.lookup f4 = some ⟨oc4, od4, .func (PySem.W.fnOf "turns_in" "turns_in" (defArgs s_turns_in) (defBody s_turns_in) (defScope s_turns_in) .none kV4 dc4 pm4 an4 cd4 ct4), sl4⟩) (c4 : PySem.W.codeIn K cd4 "turns_in" = true) (k4 : PySem.W.keepIn K (.ref f4) = true)
    {f5 : Addr} {od5 an5 : Option Addr} {sl5 : Array (Option Value)} {oc5 kV5 dc5 pm5 cd5 ct5 : Value}
    (a5 : PySem.W.nsIn K mainGlobals "are_runs" = some (some (.ref f5))) (l5 : K.lookup f5 = some ⟨oc5, od5, .func (PySem.W.fnOf "are_runs" "are_runs" (defArgs s_are_runs) (defBody s_are_runs) (defScope s_are_runs) .none kV5 dc5 pm5 an5 cd5 ct5), sl5⟩) (c5 : PySem.W.codeIn K cd5 "are_runs" = true) (k5 : PySem.W.keepIn K (.ref f5) = true)
    {f6 : Addr} {od6 an6 : Option Addr} {sl6 : Array (Option Value)} {oc6 kV6 dc6 pm6 cd6 ct6 : Value}
    (a6 : PySem.W.nsIn K mainGlobals "is_run" = some (some (.ref f6))) (l6 : K.lookup f6 = some ⟨oc6, od6, .func (PySem.W.fnOf "is_run" "is_run" (defArgs s_is_run) (defBody s_is_run) (defScope s_is_run) .none kV6 dc6 pm6 an6 cd6 ct6), sl6⟩) (c6 : PySem.W.codeIn K cd6 "is_run" = true) (k6 : PySem.W.keepIn K (.ref f6) = true)
    {f7 : Addr} {od7 an7 : Option Addr} {sl7 : Array (Option Value)} {oc7 kV7 dc7 pm7 cd7 ct7 : Value}
    (a7 : PySem.W.nsIn K mainGlobals "_law_vat" = some (some (.ref f7))) (l7 : K.lookup f7 = some ⟨oc7, od7, .func (PySem.W.fnOf "_law_vat" "_law_vat" (defArgs s_q_vat) (defBody s_q_vat) (defScope s_q_vat) .none kV7 dc7 pm7 an7 cd7 ct7), sl7⟩) (c7 : PySem.W.codeIn K cd7 "_law_vat" = true) (k7 : PySem.W.keepIn K (.ref f7) = true)
    {f8 : Addr} {od8 an8 : Option Addr} {sl8 : Array (Option Value)} {oc8 kV8 dc8 pm8 cd8 ct8 : Value}
    (a8 : PySem.W.nsIn K mainGlobals "_law_nip" = some (some (.ref f8))) (l8 : K.lookup f8 = some ⟨oc8, od8, .func (PySem.W.fnOf "_law_nip" "_law_nip" (defArgs s_q_nip) (defBody s_q_nip) (defScope s_q_nip) .none kV8 dc8 pm8 an8 cd8 ct8), sl8⟩) (c8 : PySem.W.codeIn K cd8 "_law_nip" = true) (k8 : PySem.W.keepIn K (.ref f8) = true)
    {f9 : Addr} {od9 an9 : Option Addr} {sl9 : Array (Option Value)} {oc9 kV9 dc9 pm9 cd9 ct9 : Value}
    (a9 : PySem.W.nsIn K mainGlobals "_law_pick" = some (some (.ref f9))) (l9 : K.lookup f9 = some ⟨oc9, od9, .func (PySem.W.fnOf "_law_pick" "_law_pick" (defArgs s_q_pick) (defBody s_q_pick) (defScope s_q_pick) .none kV9 dc9 pm9 an9 cd9 ct9), sl9⟩) (c9 : PySem.W.codeIn K cd9 "_law_pick" = true) (k9 : PySem.W.keepIn K (.ref f9) = true)
    {f10 : Addr} {od10 an10 : Option Addr} {sl10 : Array (Option Value)} {oc10 kV10 dc10 pm10 cd10 ct10 : Value}
    (a10 : PySem.W.nsIn K mainGlobals "_law_letters" = some (some (.ref f10))) (l10 : K.lookup f10 = some ⟨oc10, od10, .func (PySem.W.fnOf "_law_letters" "_law_letters" (defArgs s_q_letters) (defBody s_q_letters) (defScope s_q_letters) .none kV10 dc10 pm10 an10 cd10 ct10), sl10⟩) (c10 : PySem.W.codeIn K cd10 "_law_letters" = true) (k10 : PySem.W.keepIn K (.ref f10) = true)
    {f11 : Addr} {od11 an11 : Option Addr} {sl11 : Array (Option Value)} {oc11 kV11 dc11 pm11 cd11 ct11 : Value}
    (a11 : PySem.W.nsIn K mainGlobals "_law_mixed" = some (some (.ref f11))) (l11 : K.lookup f11 = some ⟨oc11, od11, .func (PySem.W.fnOf "_law_mixed" "_law_mixed" (defArgs s_q_mixed) (defBody s_q_mixed) (defScope s_q_mixed) .none kV11 dc11 pm11 an11 cd11 ct11), sl11⟩) (c11 : PySem.W.codeIn K cd11 "_law_mixed" = true) (k11 : PySem.W.keepIn K (.ref f11) = true)
    {f12 : Addr} {od12 an12 : Option Addr} {sl12 : Array (Option Value)} {oc12 kV12 dc12 pm12 cd12 ct12 : Value}
    (a12 : PySem.W.nsIn K mainGlobals "_law_lots" = some (some (.ref f12))) (l12 : K.lookup f12 = some ⟨oc12, od12, .func (PySem.W.fnOf "_law_lots" "_law_lots" (defArgs s_q_lots) (defBody s_q_lots) (defScope s_q_lots) .none kV12 dc12 pm12 an12 cd12 ct12), sl12⟩) (c12 : PySem.W.codeIn K cd12 "_law_lots" = true) (k12 : PySem.W.keepIn K (.ref f12) = true)
    {f13 : Addr} {od13 an13 : Option Addr} {sl13 : Array (Option Value)} {oc13 kV13 dc13 pm13 cd13 ct13 : Value}
    (a13 : PySem.W.nsIn K mainGlobals "_law_named" = some (some (.ref f13))) (l13 : K.lookup f13 = some ⟨oc13, od13, .func (PySem.W.fnOf "_law_named" "_law_named" (defArgs s_q_named) (defBody s_q_named) (defScope s_q_named) .none kV13 dc13 pm13 an13 cd13 ct13), sl13⟩) (c13 : PySem.W.codeIn K cd13 "_law_named" = true) (k13 : PySem.W.keepIn K (.ref f13) = true)
    {f14 : Addr} {od14 an14 : Option Addr} {sl14 : Array (Option Value)} {oc14 kV14 dc14 pm14 cd14 ct14 : Value}
    (a14 : PySem.W.nsIn K mainGlobals "_law_is_run_of" = some (some (.ref f14))) (l14 : K.lookup f14 = some ⟨oc14, od14, .func (PySem.W.fnOf "_law_is_run_of" "_law_is_run_of" (defArgs s_q_is_run_of) (defBody s_q_is_run_of) (defScope s_q_is_run_of) .none kV14 dc14 pm14 an14 cd14 ct14), sl14⟩) (c14 : PySem.W.codeIn K cd14 "_law_is_run_of" = true) (k14 : PySem.W.keepIn K (.ref f14) = true)
    {f15 : Addr} {od15 an15 : Option Addr} {sl15 : Array (Option Value)} {oc15 kV15 dc15 pm15 cd15 ct15 : Value}
    (a15 : PySem.W.nsIn K mainGlobals "_law_right" = some (some (.ref f15))) (l15 : K.lookup f15 = some ⟨oc15, od15, .func (PySem.W.fnOf "_law_right" "_law_right" (defArgs s_q_right) (defBody s_q_right) (defScope s_q_right) .none kV15 dc15 pm15 an15 cd15 ct15), sl15⟩) (c15 : PySem.W.codeIn K cd15 "_law_right" = true) (k15 : PySem.W.keepIn K (.ref f15) = true)
    {f16 : Addr} {od16 an16 : Option Addr} {sl16 : Array (Option Value)} {oc16 kV16 dc16 pm16 cd16 ct16 : Value}
    (a16 : PySem.W.nsIn K mainGlobals "law" = some (some (.ref f16))) (l16 : K.lookup f16 = some ⟨oc16, od16, .func (PySem.W.fnOf "law" "law" (defArgs s_law) (defBody s_law) (defScope s_law) .none kV16 dc16 pm16 an16 cd16 ct16), sl16⟩) (c16 : PySem.W.codeIn K cd16 "law" = true) (k16 : PySem.W.keepIn K (.ref f16) = true)
    (z0 : PySem.W.nsIn K mainGlobals "abs" = some none)
    (z1 : PySem.W.nsIn K mainGlobals "all" = some none)
    (z2 : PySem.W.nsIn K mainGlobals "divmod" = some none)
    (z3 : PySem.W.nsIn K mainGlobals "int" = some none)
    (z4 : PySem.W.nsIn K mainGlobals "isinstance" = some none)
    (z5 : PySem.W.nsIn K mainGlobals "len" = some none)
    (z6 : PySem.W.nsIn K mainGlobals "list" = some none)
    (z7 : PySem.W.nsIn K mainGlobals "max" = some none)
    (z8 : PySem.W.nsIn K mainGlobals "min" = some none)
    (z9 : PySem.W.nsIn K mainGlobals "range" = some none)
    (z10 : PySem.W.nsIn K mainGlobals "repr" = some none)
    (z11 : PySem.W.nsIn K mainGlobals "sorted" = some none)
    (y0 : PySem.W.nsIn K mainGlobals "str" = some none)
    {u0 : Tok} (x0 : PySem.W.nsIn K mainGlobals "LEAST_THINGS" = some (some (.int 2 u0)))
    {u1 : Tok} (x1 : PySem.W.nsIn K mainGlobals "LETTERS" = some (some (.str "abcdefghijklmnopqrstuvwxyz" u1)))
    {u2 : Tok} (x2 : PySem.W.nsIn K mainGlobals "MOST_THINGS" = some (some (.int 8 u2)))
    : ∃ (fd : FuncData) (cls : PL.Cls) (sp : PL.Spec), (∀ (s : Shared) (v : Value), BindsTo s fd ⟨[v], []⟩ [("_law_script", v)]) ∧ (∀ (ns : List Int), ns.length ≤ 63 → (∀ z ∈ ns, z.natAbs.log2 < 1048576) → ∀ (Q : K1) (E : PL.XP), (∀ S', Q (.bl true) S') → sp [.scr ns] [] Q E) ∧
      ∀ base : Heap, K.In base → base.Ns mainGlobals mg → FnG l.prog w K mg base 17 fa fd ["_law_script"] (liftS K cls sp) := by
  have hG := g_mono
  have e := hfa.symm.trans (PySem.W.mg_of X G0 a16)
  cases e
  have F0 := L2.fun_mk (st := s_are_rising) l0 c0 k0
  have b0 := F0.binds (ps := ["value", "least", "most"]) fun _ _ _ _ _ _ us hl => match us, hl with | [_, _, _], _ => rfl
  have F1 := L2.fun_mk (st := s_is_parting) l1 c1 k1
  have b1 := F1.binds (ps := ["things", "value"]) fun _ _ _ _ _ _ us hl => match us, hl with | [_, _], _ => rfl
  have F2 := L2.fun_mk (st := s_check_things) l2 c2 k2
  have b2 := F2.binds (ps := ["value"]) fun _ _ _ _ _ _ us hl => match us, hl with | [_], _ => rfl
  have F3 := L2.fun_mk (st := s_is_order) l3 c3 k3
  have b3 := F3.binds (ps := ["things", "value"]) fun _ _ _ _ _ _ us hl => match us, hl with | [_, _], _ => rfl
  have F4 := L2.fun_mk (st := s_turns_in) l4 c4 k4
  have b4 := F4.binds (ps := ["order", "parting"]) fun _ _ _ _ _ _ us hl => match us, hl with | [_, _], _ => rfl
  have F5 := L2.fun_mk (st := s_are_runs) l5 c5 k5
  have b5 := F5.binds (ps := ["order", "known"]) fun _ _ _ _ _ _ us hl => match us, hl with | [_, _], _ => rfl
  have F6 := L2.fun_mk (st := s_is_run) l6 c6 k6
  have b6 := F6.binds (ps := ["things", "order", "parting"]) fun _ _ _ _ _ _ us hl => match us, hl with | [_, _, _], _ => rfl
  have F7 := L2.fun_mk (st := s_q_vat) l7 c7 k7
  have b7 := F7.binds (ps := ["_law_script", "_law_k"]) fun _ _ _ _ _ _ us hl => match us, hl with | [_, _], _ => rfl
  have F8 := L2.fun_mk (st := s_q_nip) l8 c8 k8
  have b8 := F8.binds (ps := ["_law_vat_here", "_law_top"]) fun _ _ _ _ _ _ us hl => match us, hl with | [_, _], _ => rfl
  have F9 := L2.fun_mk (st := s_q_pick) l9 c9 k9
  have b9 := F9.binds (ps := ["_law_vat_here", "_law_some"]) fun _ _ _ _ _ _ us hl => match us, hl with | [_, _], _ => rfl
  have F10 := L2.fun_mk (st := s_q_letters) l10 c10 k10
  have b10 := F10.binds (ps := ["_law_vat_here", "_law_many"]) fun _ _ _ _ _ _ us hl => match us, hl with | [_, _], _ => rfl
  have F11 := L2.fun_mk (st := s_q_mixed) l11 c11 k11
  have b11 := F11.binds (ps := ["_law_vat_here", "_law_letters_here"]) fun _ _ _ _ _ _ us hl => match us, hl with | [_, _], _ => rfl
  have F12 := L2.fun_mk (st := s_q_lots) l12 c12 k12
  have b12 := F12.binds (ps := ["_law_letters_here"]) fun _ _ _ _ _ _ us hl => match us, hl with | [_], _ => rfl
  have F13 := L2.fun_mk (st := s_q_named) l13 c13 k13
  have b13 := F13.binds (ps := ["_law_letters_here", "_law_some"]) fun _ _ _ _ _ _ us hl => match us, hl with | [_, _], _ => rfl
  have F14 := L2.fun_mk (st := s_q_is_run_of) l14 c14 k14
  have b14 := F14.binds (ps := ["_law_around", "_law_lot_here"]) fun _ _ _ _ _ _ us hl => match us, hl with | [_, _], _ => rfl
  have F15 := L2.fun_mk (st := s_q_right) l15 c15 k15
  have b15 := F15.binds (ps := ["_law_vat_here"]) fun _ _ _ _ _ _ us hl => match us, hl with | [_], _ => rfl
  have F16 := L2.fun_mk (st := s_law) l16 c16 k16
  have b16 := F16.binds (ps := ["_law_script"]) fun _ _ _ _ _ _ us hl => match us, hl with | [_], _ => rfl
  have M : MOk K mg (fun _ => none) G bls tns := by
    refine ⟨hG, fun x v hx => ?_, fun x hx => ?_, fun x hx => ?_, fun a b r hr => subB_ok hr, fun _ _ => rfl, fun _ _ h => by cases h⟩
    · have hm := cn_cases hx
      rcases hm with ⟨rfl, rfl⟩ | ⟨rfl, rfl⟩ | ⟨rfl, rfl⟩
      · exact ⟨_, .int _, PySem.W.mg_of X G0 x0, ⟨_, rfl⟩, fun _ _ _ => rfl⟩
      · exact ⟨_, .str _, PySem.W.mg_of X G0 x1, ⟨_, rfl⟩, fun _ _ _ => ⟨by decide, by decide⟩⟩
      · exact ⟨_, .int _, PySem.W.mg_of X G0 x2, ⟨_, rfl⟩, fun _ _ _ => rfl⟩
    · simp only [bls, List.mem_cons, List.not_mem_nil, or_false] at hx
      rcases hx with rfl | rfl | rfl | rfl | rfl | rfl | rfl | rfl | rfl | rfl | rfl | rfl
      · exact PySem.W.mg_none_of X G0 z0
      · exact PySem.W.mg_none_of X G0 z1
      · exact PySem.W.mg_none_of X G0 z2
      · exact PySem.W.mg_none_of X G0 z3
      · exact PySem.W.mg_none_of X G0 z4
      · exact PySem.W.mg_none_of X G0 z5
      · exact PySem.W.mg_none_of X G0 z6
      · exact PySem.W.mg_none_of X G0 z7
      · exact PySem.W.mg_none_of X G0 z8
      · exact PySem.W.mg_none_of X G0 z9
      · exact PySem.W.mg_none_of X G0 z10
      · exact PySem.W.mg_none_of X G0 z11
    · simp only [tns, List.mem_cons, List.not_mem_nil, or_false] at hx
      subst hx
      · exact .inr ⟨rfl, PySem.W.mg_none_of X G0 y0, by decide +kernel, by decide, by decide⟩
  refine ⟨PySem.W.fnOf "law" "law" (defArgs s_law) (defBody s_law) (defScope s_law) .none kV16 dc16 pm16 an16 cd16 ct16, fun _ => none, spLaw, fun s v => .of_eq rfl, fun ns h1 h2 Q E hq => law_ask ns h1 h2 Q E hq, fun base _ _ => ?_⟩
  have N0 : Kn l.prog w K mg base (fun _ => none) G [] bls tns kbs 0 := ⟨M, fun f hf => by cases hf⟩
  have N1 := N0.step (sp := spRising) (b := b_are_rising) (by rfl) F0 (PySem.W.mg_of X G0 a0) b0 f_are_rising c_are_rising (fun xs S Q E h => w_rising xs S Q E h) (by intro p hp e; simp only [kbs, List.mem_cons, List.not_mem_nil, or_false] at hp; rcases hp with rfl <;> exact absurd e (by decide))
  have N2 := N1.step (sp := spPart) (b := b_is_parting) (by rfl) F1 (PySem.W.mg_of X G0 a1) b1 f_is_parting c_is_parting (fun xs S Q E h => w_part xs S Q E h) (by intro p hp e; simp only [kbs, List.mem_cons, List.not_mem_nil, or_false] at hp; rcases hp with rfl <;> exact absurd e (by decide))
  have N3 := N2.step (sp := spCheck) (b := b_check_things) (by rfl) F2 (PySem.W.mg_of X G0 a2) b2 f_check_things c_check_things (fun xs S Q E h => w_check xs S Q E h) (by intro p hp e; simp only [kbs, List.mem_cons, List.not_mem_nil, or_false] at hp; rcases hp with rfl <;> exact absurd e (by decide))
  have N4 := N3.step (sp := spOrder) (b := b_is_order) (by rfl) F3 (PySem.W.mg_of X G0 a3) b3 f_is_order c_is_order (fun xs S Q E h => w_order xs S Q E h) (by intro p hp e; simp only [kbs, List.mem_cons, List.not_mem_nil, or_false] at hp; rcases hp with rfl <;> exact absurd e (by decide))
  have N5 := N4.step (sp := spTurns) (b := b_turns_in) (by rfl) F4 (PySem.W.mg_of X G0 a4) b4 f_turns_in c_turns_in (fun xs S Q E h => w_turns xs S Q E h) (by intro p hp e; simp only [kbs, List.mem_cons, List.not_mem_nil, or_false] at hp; rcases hp with rfl <;> exact absurd e (by decide))
  have N6 := N5.step (sp := spRuns) (b := b_are_runs) (by rfl) F5 (PySem.W.mg_of X G0 a5) b5 f_are_runs c_are_runs (fun xs S Q E h => w_runs xs S Q E h) (by intro p hp e; simp only [kbs, List.mem_cons, List.not_mem_nil, or_false] at hp; rcases hp with rfl <;> exact absurd e (by decide))
  have N7 := N6.step (sp := spRun) (b := b_is_run) (by rfl) F6 (PySem.W.mg_of X G0 a6) b6 f_is_run c_is_run (fun xs S Q E h => w_run xs S Q E h) (kb_is_run F6)
  have N8 := N7.step (sp := spVat) (b := b_q_vat) (by rfl) F7 (PySem.W.mg_of X G0 a7) b7 f_q_vat c_q_vat (fun xs S Q E h => w_vat hG xs S Q E h) (by intro p hp e; simp only [kbs, List.mem_cons, List.not_mem_nil, or_false] at hp; rcases hp with rfl <;> exact absurd e (by decide))
  have N9 := N8.step (sp := spNip) (b := b_q_nip) (by rfl) F8 (PySem.W.mg_of X G0 a8) b8 f_q_nip c_q_nip (fun xs S Q E h => w_nip xs S Q E h) (by intro p hp e; simp only [kbs, List.mem_cons, List.not_mem_nil, or_false] at hp; rcases hp with rfl <;> exact absurd e (by decide))
  have N10 := N9.step (sp := spPick) (b := b_q_pick) (by rfl) F9 (PySem.W.mg_of X G0 a9) b9 f_q_pick c_q_pick (fun xs S Q E h => w_pick xs S Q E h) (by intro p hp e; simp only [kbs, List.mem_cons, List.not_mem_nil, or_false] at hp; rcases hp with rfl <;> exact absurd e (by decide))
  have N11 := N10.step (sp := spLetters) (b := b_q_letters) (by rfl) F10 (PySem.W.mg_of X G0 a10) b10 f_q_letters c_q_letters (fun xs S Q E h => w_letters hG xs S Q E h) (by intro p hp e; simp only [kbs, List.mem_cons, List.not_mem_nil, or_false] at hp; rcases hp with rfl <;> exact absurd e (by decide))
  have N12 := N11.step (sp := spMixed) (b := b_q_mixed) (by rfl) F11 (PySem.W.mg_of X G0 a11) b11 f_q_mixed c_q_mixed (fun xs S Q E h => w_mixed hG xs S Q E h) (by intro p hp e; simp only [kbs, List.mem_cons, List.not_mem_nil, or_false] at hp; rcases hp with rfl <;> exact absurd e (by decide))
  have N13 := N12.step (sp := spLots) (b := b_q_lots) (by rfl) F12 (PySem.W.mg_of X G0 a12) b12 f_q_lots c_q_lots (fun xs S Q E h => w_lots hG xs S Q E h) (by intro p hp e; simp only [kbs, List.mem_cons, List.not_mem_nil, or_false] at hp; rcases hp with rfl <;> exact absurd e (by decide))
  have N14 := N13.step (sp := spNamed) (b := b_q_named) (by rfl) F13 (PySem.W.mg_of X G0 a13) b13 f_q_named c_q_named (fun xs S Q E h => w_named xs S Q E h) (by intro p hp e; simp only [kbs, List.mem_cons, List.not_mem_nil, or_false] at hp; rcases hp with rfl <;> exact absurd e (by decide))
  have N15 := N14.step (sp := spRunOf) (b := b_q_is_run_of) (by rfl) F14 (PySem.W.mg_of X G0 a14) b14 f_q_is_run_of c_q_is_run_of (fun xs S Q E h => w_run_of hG xs S Q E h) (by intro p hp e; simp only [kbs, List.mem_cons, List.not_mem_nil, or_false] at hp; rcases hp with rfl <;> exact absurd e (by decide))
  have N16 := N15.step (sp := spRight) (b := b_q_right) (by rfl) F15 (PySem.W.mg_of X G0 a15) b15 f_q_right c_q_right (fun xs S Q E h => w_right hG xs S Q E h) (by intro p hp e; simp only [kbs, List.mem_cons, List.not_mem_nil, or_false] at hp; rcases hp with rfl <;> exact absurd e (by decide))
  exact fnG_of F16 f_law N16 c_law (fun xs S Q E h => w_law xs S Q E h)
theorem walk {l : PySem.W.OpenLaw} {q : Program} {loose : List Str} {XP : (Str → Option Value) → Heap → Prop} {YP : World → Heap → Prop} {d : DefRec} {K : Params → PySem.W.Frag} (hn : l.most = some 63) (hdf : d.params.defaults = [])
    (hY : ∀ (w : World) (h : Heap), YP w h → (K w.params).In h)
    (F : ∀ (w : World) (mg : Str → Option Value) (fa : Addr) (h : Heap), (K w.params).In h → h.Ns mainGlobals mg → mg d.name = some (.ref fa) →
      ∃ (fd : FuncData) (cls : PL.Cls) (sp : PL.Spec), (∀ (s : Shared) (v : Value), BindsTo s fd ⟨[v], []⟩ [("_law_script", v)]) ∧ (∀ (ns : List Int), ns.length ≤ 63 → (∀ z ∈ ns, z.natAbs.log2 < 1048576) → ∀ (Q : K1) (E : PL.XP), (∀ S', Q (.bl true) S') → sp [.scr ns] [] Q E) ∧
        ∀ base : Heap, (K w.params).In base → base.Ns mainGlobals mg → FnG l.prog w (K w.params) mg base 17 fa fd ["_law_script"] (liftS (K w.params) cls sp)) :
    PySem.W.WalkO q loose XP YP l.row.toRowW d [] (fun f vs => PySem.call f vs) :=
  walkG (n := 63) (k := 17) (x := "_law_script") hn (by decide) hdf ⟨rfl, by decide, by decide⟩ hY F
end K49
open PySem PySem.W PyProof.Rows
set_option maxRecDepth 100000 in
set_option maxHeartbeats 0 in
theorem PySem.Challenge.cw_fivepoints_k49_whole_runs_judged_holds : PySem.Challenge.rw_fivepoints_k49_whole_runs_judged.Holds := by
  w_on; o_law; k_head; (case hw => w_witness2)
  k_fill
  refine K49.walk (l := PySem.Challenge.rw_fivepoints_k49_whole_runs_judged) rfl rfl (fun w h Y => PySem.W.kIn_of Y) ?F
  case F =>
    intro w mg fa h KX G hmg
    refine' K49.all_mk KX G hmg ?a0 ?l0 ?c0 ?k0 ?a1 ?l1 ?c1 ?k1 ?a2 ?l2 ?c2 ?k2 ?a3 ?l3 ?c3 ?k3 ?a4 ?l4 ?c4 ?k4 ?a5 ?l5 ?c5 ?k5 ?a6 ?l6 ?c6 ?k6 ?a7 ?l7 ?c7 ?k7 ?a8 ?l8 ?c8 ?k8 ?a9 ?l9 ?c9 ?k9 ?a10 ?l10 ?c10 ?k10 ?a11 ?l11 ?c11 ?k11 ?a12 ?l12 ?c12 ?k12 ?a13 ?l13 ?c13 ?k13 ?a14 ?l14 ?c14 ?k14 ?a15 ?l15 ?c15 ?k15 ?a16 ?l16 ?c16 ?k16 ?z0 ?z1 ?z2 ?z3 ?z4 ?z5 ?z6 ?z7 ?z8 ?z9 ?z10 ?z11 ?y0 ?x0 ?x1 ?x2
    (case a0 => k_is)
    (case l0 => k_is)
    (case c0 => k_is)
    (case k0 => k_is)
    (case a1 => k_is)
    (case l1 => k_is)
    (case c1 => k_is)
    (case k1 => k_is)
    (case a2 => k_is)
    (case l2 => k_is)
    (case c2 => k_is)
    (case k2 => k_is)
    (case a3 => k_is)
    (case l3 => k_is)
    (case c3 => k_is)
    (case k3 => k_is)
    (case a4 => k_is)
    (case l4 => k_is)
    (case c4 => k_is)
    (case k4 => k_is)
    (case a5 => k_is)
    (case l5 => k_is)
    (case c5 => k_is)
    (case k5 => k_is)
    (case a6 => k_is)
    (case l6 => k_is)
    (case c6 => k_is)
    (case k6 => k_is)
    (case a7 => k_is)
    (case l7 => k_is)
    (case c7 => k_is)
    (case k7 => k_is)
    (case a8 => k_is)
    (case l8 => k_is)
    (case c8 => k_is)
    (case k8 => k_is)
    (case a9 => k_is)
    (case l9 => k_is)
    (case c9 => k_is)
    (case k9 => k_is)
    (case a10 => k_is)
    (case l10 => k_is)
    (case c10 => k_is)
    (case k10 => k_is)
    (case a11 => k_is)
    (case l11 => k_is)
    (case c11 => k_is)
    (case k11 => k_is)
    (case a12 => k_is)
    (case l12 => k_is)
    (case c12 => k_is)
    (case k12 => k_is)
    (case a13 => k_is)
    (case l13 => k_is)
    (case c13 => k_is)
    (case k13 => k_is)
    (case a14 => k_is)
    (case l14 => k_is)
    (case c14 => k_is)
    (case k14 => k_is)
    (case a15 => k_is)
    (case l15 => k_is)
    (case c15 => k_is)
    (case k15 => k_is)
    (case a16 => k_is)
    (case l16 => k_is)
    (case c16 => k_is)
    (case k16 => k_is)
    (case z0 => k_is)
    (case z1 => k_is)
    (case z2 => k_is)
    (case z3 => k_is)
    (case z4 => k_is)
    (case z5 => k_is)
    (case z6 => k_is)
    (case z7 => k_is)
    (case z8 => k_is)
    (case z9 => k_is)
    (case z10 => k_is)
    (case z11 => k_is)
    (case y0 => k_is)
    (case x0 => k_is)
    (case x1 => k_is)
    (case x2 => k_is)
