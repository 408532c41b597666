import PyProof.Rows.All
import HandS.ForMost
import HandS.Walk
import HandS.Exc
import HandS.ExcOwn
import HandS.TryOnly
import HandS.WordsExc
import HandS.TupAny
import HandS.Wide
import HandS.Deep
import HandS.DictComp
import HandS.IsInst
import HandS.Style
import HandS.SortInts
import HandS.Small
import HandS.Flow
import HandS.Flt
import PyProof.WalksMore
import KE.GoesMore
import PyProof.SeqIndex
import HandS.SetBool
import HandS.SetKeys
import KE.DataFind
import HandS.ExcIs
import HandS.TryMany
import HandS.HeadHook1
import HandS.Gcd
import HandS.Ends
import HandS.Defaults
import KE.KStateDown
import HandS.Base
import HandS.Call
import HandS.More
import HandS.Words
import HandS.Head0
import HandS.Head1
import HandS.Head2
import HandS.HeadEnd
import HandS.HeadHook2
import HandS.HeadHook4
import PySem.Challenge.RW_binworks_k05_rows_that_meet_again
section Mi0_
set_option linter.all false
set_option Elab.async false
/-! Mi0: the small language: values, expressions, statements, and what they do (plain Lean). -/
namespace Mi
open PySem L2

/-- keys of dicts -/
inductive Ky where
  | i (n : Int) | s (x : Str) | t (ks : List L2.Key)
  deriving DecidableEq

/-- values: trees; loc n: the n-th cell of the store; frz: the script -/
inductive W where
  | non | bl (b : Bool) | int (i : Int) | str (x : Str)
  | tup (ws : List W) | lst (ws : List W) | dct (kvs : List (Ky × W)) | frz (ns : List Int) | loc (n : Nat)

def atomW : L2.Key → W
  | .inl n => .int n
  | .inr x => .str x
def Ky.w : Ky → W
  | .i n => .int n
  | .s x => .str x
  | .t ks => .tup (ks.map atomW)
def W.atom? : W → Option L2.Key
  | .int n => some (.inl n)
  | .str x => some (.inr x)
  | _ => none
def atoms? : List W → Option (List L2.Key)
  | [] => some []
  | w :: ws => match w.atom?, atoms? ws with
    | some k, some ks => some (k :: ks)
    | _, _ => none
def W.key? : W → Option Ky
  | .int n => some (.i n)
  | .str x => some (.s x)
  | .tup ws => (atoms? ws).map .t
  | _ => none

/-! ### equality as Python has it -/
mutual
def weq : W → W → Bool
  | .non, .non => true
  | .bl a, .bl b => a == b
  | .bl a, .int j => (if a then 1 else 0) == j
  | .int i, .bl b => i == (if b then 1 else 0)
  | .int i, .int j => i == j
  | .str x, .str y => x == y
  | .lst xs, .lst ys => weqL xs ys
  | .tup xs, .tup ys => weqL xs ys
  | _, _ => false
def weqL : List W → List W → Bool
  | [], [] => true
  | x :: xs, y :: ys => weq x y && weqL xs ys
  | _, _ => false
end
mutual
def W.depth : W → Nat
  | .lst xs => depthL xs + 1
  | .tup xs => depthL xs + 1
  | .dct _ => 1000
  | .loc _ => 1000
  | .frz _ => 1000
  | _ => 0
def depthL : List W → Nat
  | [] => 0
  | x :: xs => max x.depth (depthL xs)
end
/-- data that == may be asked of -/
def W.flat : W → Bool
  | .non => true | .bl _ => true | .int _ => true | .str _ => true
  | _ => false
def eqW (x y : W) : Option Bool := if x.depth ≤ 60 ∧ y.depth ≤ 60 then some (weq x y) else none

/-! ### dicts -/
def getK (kvs : List (Ky × W)) (k : Ky) : Option W := (kvs.find? fun p => decide (p.1 = k)).map (·.2)
def putK {α : Type} (kvs : List (Ky × α)) (k : Ky) (v : α) : List (Ky × α) :=
  if (kvs.any fun p => decide (p.1 = k)) = true then kvs.map fun p => if p.1 = k then (p.1, v) else p else kvs ++ [(k, v)]
def dropK (kvs : List (Ky × W)) (k : Ky) : List (Ky × W) := kvs.filter fun p => !decide (p.1 = k)
/-- all keys are ints and texts; all are tuples -/
def Ky.flat : Ky → Bool
  | .t _ => false
  | _ => true

def atomOk : L2.Key → Bool
  | .inl _ => true
  | .inr x => PyData.strOk x && decide (x.length ≤ sizeLine)
def Ky.ok : Ky → Bool
  | .i _ => true
  | .s x => atomOk (.inr x)
  | .t ks => ks.all atomOk && decide (ks.length ≤ sizeLine)

/-! ### operators -/
inductive Bop | add | sub | mul | fdiv | mod | pow
  deriving DecidableEq
inductive Cop | eq | ne | lt | le | gt | ge | is | isn | inn | nin
  deriving DecidableEq

def addW : W → W → Option W
  | .int i, .int j => some (.int (i + j))
  | .str x, .str y => if x.length + y.length ≤ sizeLine then some (.str (x ++ y)) else none
  | .lst a, .lst b => if a.length + b.length ≤ sizeLine then some (.lst (a ++ b)) else none
  | .tup a, .tup b => if a.length + b.length ≤ sizeLine then some (.tup (a ++ b)) else none
  | _, _ => none
def subW : W → W → Option W
  | .int i, .int j => some (.int (i - j))
  | _, _ => none
def mulOk (i j : Int) : Prop := (-(2 ^ 64) < i ∧ i < 2 ^ 64) ∨ (-(2 ^ 64) < j ∧ j < 2 ^ 64)
instance (i j : Int) : Decidable (mulOk i j) := inferInstanceAs (Decidable (_ ∨ _))
def mulW : W → W → Option W
  | .int i, .int j => if mulOk i j then some (.int (i * j)) else if i.natAbs.log2 + j.natAbs.log2 < 1000000 then some (.int (i * j)) else none
  | .lst a, .int k => if 0 ≤ k ∧ k < 1000000000 ∧ a.length * k.toNat ≤ sizeLine then some (.lst (List.replicate k.toNat a).flatten) else none
  | _, _ => none
def fdivW : W → W → Option W
  | .int i, .int j => if 0 < j then (if j.natAbs.log2 < 9000 then some (.int (i / j)) else none) else if j ≠ 0 ∧ j.natAbs < 1073741824 then some (.int (i.fdiv j)) else none
  | _, _ => none
def modW : W → W → Option W
  | .int i, .int j => if 0 < j then some (.int (i % j)) else if j ≠ 0 then some (.int (i.fmod j)) else none
  | _, _ => none
def powW : W → W → Option W
  | .int i, .int j => if 0 ≤ j ∧ j ≤ 1000000 ∧ i.natAbs < 2 ^ 64 then some (.int (i ^ j.toNat)) else none
  | _, _ => none
def binW : Bop → W → W → Option W
  | .add => addW | .sub => subW | .mul => mulW | .fdiv => fdivW | .mod => modW | .pow => powW

def ltW : W → W → Option Bool
  | .int i, .int j => some (decide (i < j))
  | .str x, .str y => some (decide (x.cps.toList < y.cps.toList))
  | _, _ => none
def leW : W → W → Option Bool
  | .int i, .int j => some (decide (i ≤ j))
  | .str x, .str y => some (!decide (y.cps.toList < x.cps.toList))
  | _, _ => none
/-- is: of None, True, False -/
def isW : W → W → Option Bool
  | .non, .non => some true
  | .bl a, .bl b => some (decide (a = b))
  | _, .non => some false
  | _, _ => none
def strIn (x y : Str) : Bool := !(Builtin.Str.occurrences y x 0 y.length 1).isEmpty
def inW : W → W → Option Bool
  | x, .lst ys => if x.flat ∧ ys.all W.flat then some (ys.any fun y => weq y x) else if x.depth ≤ 60 ∧ (W.lst ys).depth ≤ 60 then some (ys.any fun y => weq y x) else none
  | x, .tup ys => if x.flat ∧ ys.all W.flat then some (ys.any fun y => weq y x) else none
  | x, .dct kvs => match x.key? with
    | some k => if (kvs.all fun p => p.1.flat == k.flat) then some (getK kvs k).isSome else none
    | none => none
  | .str x, .str y => some (strIn x y)
  | _, _ => none
def cmpW : Cop → W → W → Option Bool
  | .eq, x, y => eqW x y
  | .ne, x, y => (eqW x y).map (!·)
  | .lt, x, y => ltW x y
  | .le, x, y => leW x y
  | .gt, x, y => ltW y x
  | .ge, x, y => leW y x
  | .is, x, y => isW x y
  | .isn, x, y => (isW x y).map (!·)
  | .inn, x, y => inW x y
  | .nin, x, y => (inW x y).map (!·)

def truW : W → Option Bool
  | .non => some false
  | .bl b => some b
  | .int i => some (i != 0)
  | .str x => some ((x.length : Int) != 0)
  | .lst ws => some (!ws.isEmpty)
  | .tup ws => some (!ws.isEmpty)
  | _ => none

/-! ### subscripts -/
def ixW : W → W → Option W
  | .lst ws, .int i => L2.atI ws i
  | .tup ws, .int i => L2.atI ws i
  | .str x, .int i => (L2.atI x.cps.toList i).map fun c => .str ⟨#[c]⟩
  | .dct kvs, k => match k.key? with
    | some k => if (kvs.all fun p => p.1.flat == k.flat) then getK kvs k else none
    | none => none
  | _, _ => none
def cut {α : Type} (xs : List α) (lo hi : Option Int) : List α := (xs.drop (HT.sIx xs.length 0 lo)).take (HT.sIx xs.length xs.length hi - HT.sIx xs.length 0 lo)
def slW : W → Option Int → Option Int → Option W
  | .lst ws, lo, hi => some (.lst (cut ws lo hi))
  | .tup ws, lo, hi => some (.tup (cut ws lo hi))
  | .str x, lo, hi => some (.str ⟨(cut x.cps.toList lo hi).toArray⟩)
  | _, _, _ => none

def revW : W → Option W
  | .lst ws => some (.lst ws.reverse)
  | _ => none

/-- len(set(xs)), texts -/
def dedup : List Str → List Str
  | [] => []
  | x :: xs => if x ∈ xs then dedup xs else x :: dedup xs
def gcdW : W → W → Option W
  | .int i, .int j => some (.int (Nat.gcd i.natAbs j.natAbs : Nat))
  | _, _ => none
def keysW : W → Option W
  | .dct kvs => some (.lst (kvs.map fun p => p.1.w))
  | _ => none
def valsW : W → Option W
  | .dct kvs => some (.lst (kvs.map (·.2)))
  | _ => none
def itemsW : W → Option W
  | .dct kvs => some (.lst (kvs.map fun p => .tup [p.1.w, p.2]))
  | _ => none

/-! ### built-ins -/
inductive Ty | int | str | tuple | list | bool | dict
  deriving DecidableEq
def W.is : W → Ty → Bool
  | .int _, .int => true
  | .bl _, .int => true
  | .bl _, .bool => true
  | .str _, .str => true
  | .tup _, .tuple => true
  | .lst _, .list => true
  | .dct _, .dict => true
  | _, _ => false
inductive Bi | len | int | tuple | list | sum | any | all | max | min | sorted | abs | isi (t : Ty) | str
  deriving DecidableEq
def ints? : List W → Option (List Int)
  | [] => some []
  | .int i :: ws => (ints? ws).map (i :: ·)
  | _ :: _ => none
def bls? : List W → Option (List Bool)
  | [] => some []
  | .bl b :: ws => (bls? ws).map (b :: ·)
  | _ :: _ => none
def strs? : List W → Option (List Str)
  | [] => some []
  | .str x :: ws => (strs? ws).map (x :: ·)
  | _ :: _ => none
def seq? : W → Option (List W)
  | .lst ws => some ws
  | .tup ws => some ws
  | _ => none
def leStr (x y : Str) : Bool := decide (x.cps.toList ≤ y.cps.toList)
def leInt (x y : Int) : Bool := decide (x ≤ y)
def sortW (ws : List W) : Option W :=
  match strs? ws with
  | some xs => if xs.length < 64 then some (.lst ((xs.mergeSort leStr).map .str)) else none
  | none => match ints? ws with
    | some ns => some (.lst ((ns.mergeSort leInt).map .int))
    | none => none
def lsetW (x : W) : Option W := match seq? x with
  | some ws => match strs? ws with
    | some xs => if xs.length < 3000 then some (.int (dedup xs).length) else none
    | none => none
  | none => none
def sscW (ws : List W) : Option W := match strs? ws with
  | some xs => if xs.length < 64 then some (.lst (((dedup xs).mergeSort leStr).map .str)) else none
  | none => none
def maxL : List Int → Int
  | [] => 0
  | [i] => i
  | i :: r => max i (maxL r)
def minL : List Int → Int
  | [] => 0
  | [i] => i
  | i :: r => min i (minL r)
def lenW : List W → Option W
  | [.str x] => some (.int x.length)
  | [.lst ws] => some (.int ws.length)
  | [.tup ws] => some (.int ws.length)
  | _ => none
def intW : List W → Option W
  | [.int i] => some (.int i)
  | [.bl b] => some (.int (if b then 1 else 0))
  | _ => none
def tupleW : List W → Option W
  | [.lst ws] => some (.tup ws)
  | [.tup ws] => some (.tup ws)
  | _ => none
def listW : List W → Option W
  | [.lst ws] => some (.lst ws)
  | [.tup ws] => some (.lst ws)
  | _ => none
def sumW : List W → Option W
  | [.lst ws] => (ints? ws).map fun ns => .int ns.sum
  | [.tup ws] => (ints? ws).map fun ns => .int ns.sum
  | _ => none
def anyW : List W → Option W
  | [.lst ws] => (bls? ws).map fun bs => .bl (bs.any id)
  | _ => none
def allW : List W → Option W
  | [.lst ws] => (bls? ws).map fun bs => .bl (bs.all id)
  | _ => none
def maxW : List W → Option W
  | [.int i, .int j] => some (.int (if j > i then j else i))
  | [.int i, .int j, .int k] => some (.int (if k > (if j > i then j else i) then k else if j > i then j else i))
  | [.lst ws] => match ints? ws with
    | some (n :: ns) => some (.int (maxL (n :: ns)))
    | _ => none
  | _ => none
def minW : List W → Option W
  | [.int i, .int j] => some (.int (if j < i then j else i))
  | [.lst ws] => match ints? ws with
    | some (n :: ns) => some (.int (minL (n :: ns)))
    | _ => none
  | _ => none
def sortedW : List W → Option W
  | [.lst ws] => sortW ws
  | _ => none
def absW : List W → Option W
  | [.int i] => some (.int (if i < 0 then -i else i))
  | _ => none
def isiW (t : Ty) : List W → Option W
  | [w] => match w with
    | .loc _ => none
    | .frz _ => none
    | w => some (.bl (w.is t))
  | _ => none
def strW : List W → Option W
  | [.int i] => if i.natAbs.log2 < 1900 then some (.str (toString i)) else none
  | _ => none
def biW : Bi → List W → Option W
  | .len => lenW | .int => intW | .tuple => tupleW | .list => listW | .sum => sumW | .any => anyW | .all => allW
  | .max => maxW | .min => minW | .sorted => sortedW | .abs => absW | .isi t => isiW t | .str => strW
/-- methods that change nothing -/
inductive Mt | get | index | join | split
  deriving DecidableEq
def findIx (ys : List W) (x : W) : Option Nat :=
  match ys with
  | [] => none
  | y :: r => if weq y x then some 0 else (findIx r x).map (· + 1)
def getW : List W → Option W
  | [.dct kvs, k, d] => match k.key? with
    | some k => if (kvs.all fun p => p.1.flat == k.flat) then some ((getK kvs k).getD d) else none
    | none => none
  | _ => none
def indexW : List W → Option W
  | [.lst ys, x] => if x.flat ∧ ys.all W.flat then (findIx ys x).map fun n : Nat => .int n
      else if x.depth ≤ 60 ∧ (W.lst ys).depth ≤ 60 then (findIx ys x).map fun n : Nat => .int n else none
  | _ => none
/-- x.index(y, k); x.index(y) of a tuple -/
def ixfW : W → W → W → Option W
  | .lst ys, x, .int k => if x.flat = true ∧ ys.all W.flat = true ∧ 0 ≤ k then (findIx (ys.drop k.toNat) x).map fun n : Nat => .int (k + n) else none
  | _, _, _ => none
def ixtW : W → W → Option W
  | .tup ys, x => if x.flat = true ∧ ys.all W.flat = true then (findIx ys x).map fun n : Nat => .int n else none
  | _, _ => none
def joinW : List W → Option W
  | [.str a, .lst ws] => match strs? ws with
    | some ys => if (ys.map (·.length)).sum + ys.length * a.length ≤ sizeLine then some (.str (Str.join a ys)) else none
    | none => none
  | _ => none
def splitW : List W → Option W
  | [.str a, .str b] => if (b.length == 0) = false ∧ a.length + 2 ≤ sizeLine ∧ (Txt.split a b).length ≤ sizeLine ∧ ((Txt.split a b).all fun x => PyData.strOk x && decide (x.length ≤ sizeLine)) = true then some (.lst ((Txt.split a b).map .str)) else none
  | _ => none
/-- of what the method is asked -/
def recv : Mt → W → Bool
  | .get, .dct _ => true
  | .index, .lst _ => true
  | .join, .str _ => true
  | .split, .str _ => true
  | _, _ => false
def mtW : Mt → List W → Option W
  | .get => getW | .index => indexW | .join => joinW | .split => splitW

/-! ### syntax -/
inductive Tg where
  | nm (i : Nat) | tp (ts : List Tg)
mutual
inductive E where
  | non | bl (b : Bool) | int (i : Int) | str (x : Str)
  | var (i : Nat)
  | tup (es : List E) | lst (es : List E) | dct (es : List E)
  | bin (o : Bop) (a b : E) | neg (a : E)
  | cmp (o : Cop) (a b : E) | cmp2 (o p : Cop) (a b c : E)
  | not (a : E) | and (a b : E) | or (a b : E)
  | ite (c : T) (a b : E)
  | ix (a i : E) | sl (a : E) (lo hi : P)
  | call (f : Nat) (es : List E)
  | bi (b : Bi) (es : List E)
  | mt (m : Mt) (o : E) (es : List E)
  | lc (elt : E) (tg : Tg) (it : I) (cond : T) (own : List Nat)
  | dc (k v : E) (tg : Tg) (it : I) (cond : T) (own : List Nat)
  | share (a : E)
  | isi (t : Ty) (a : E)
  | gint (x : Str) (n : Int)
  | rev (a : E)
  | lset (a : E)
  | ssc (elt : E) (tg : Tg) (it : I) (cond : T) (own : List Nat)
  | dcp (a : E)
  | gcd (a b : E)
  | keys (a : E) | vals (a : E) | items (a : E)
  | ixf (a b c : E) | ixt (a b : E)
/-- a test -/
inductive T where
  | yes | v (e : E) | cmp (o : Cop) (a b : E) | cmp2 (o p : Cop) (a b c : E) | not (a : T) | and (a b : T) | or (a b : T)
/-- what a for walks -/
inductive I where
  | v (e : E) | range (es : List E) | enum (a : E)
  | keys (i : Nat) | vals (i : Nat)
/-- a part of a slice -/
inductive P where
  | no | v (e : E)
end
/-- what a slot is: persistent; borrowed (d deep); owned; locked while it is walked; not to be read -/
inductive Fg | pl | bo (d : Nat) | ow (d : Nat) | lk (d : Nat) | dd
  deriving DecidableEq
/-- what a value is: tainted t deep (t 0: persistent), or fresh and owned f deep -/
inductive Lv | t (n : Nat) | f (n : Nat)
  deriving DecidableEq
/-- what an except clause returns -/
inductive Cv | non | bl (b : Bool) | int (i : Int) | str (x : Str)
  deriving DecidableEq
def Cv.w : Cv → W
  | .non => .non
  | .bl b => .bl b
  | .int i => .int i
  | .str x => .str x
/-- .. by what it asks of the exception: classes by their numbers, 0 the base of them all -/
inductive Hx | c (v : Cv) | isE (k : Nat) | isT (ks : List Nat) | not (a : Hx) | and (a b : Hx) | or (a b : Hx) | ite (a b d : Hx)
def isaX (k j : Nat) : Bool := decide (k = j) || decide (j = 0)
def Hx.tru : Cv → Bool
  | .bl b => b
  | _ => false
def Hx.val (k : Nat) : Hx → Cv
  | .c v => v
  | .isE j => .bl (isaX k j)
  | .isT js => .bl (js.any (isaX k))
  | .not a => .bl (!Hx.tru (a.val k))
  | .and a b => if Hx.tru (a.val k) then b.val k else .bl false
  | .or a b => if Hx.tru (a.val k) then .bl true else b.val k
  | .ite a b d => if Hx.tru (a.val k) then b.val k else d.val k
inductive S where
  | never
  | wipe (is : List Nat)
  | raise (k : Nat)
  | tri (s : S) (bs : List S) (hs : List (Nat × Option Hx))
  | apop (i j : Nat) (e : E) | popv (i j : Nat) (e : E)
  | par (is : List Nat) (es : List E)
  | swp (i : Nat) (k1 k2 v1 v2 : E)
  | rem (i : Nat) (e : E)
  | sda (i : Nat) (k v : E)
  | set (i : Nat) (g : Fg) (e : E)
  | setT (t : Tg) (e : E)
  | stx (i : Nat) (k v : E)
  | stc (o k v : E)
  | aug (i : Nat) (o : Bop) (e : E)
  | augx (i : Nat) (o : Bop) (k e : E)
  | app (i : Nat) (e : E) | ext (i : Nat) (e : E) | pop (i : Nat) (e : E)
  | expr (e : E)
  | ret (e : E) | retv (i : Nat)
  | ifs (c : T) (a b : List S)
  | whil (c : T) (b : List S) (inv : List Fg)
  | forr (t : Tg) (it : I) (b : List S) (inv : List Fg)
  | brk | cont | pass
  | fz (i : Nat)
  | lk (i : Nat) (s : S)

/-! ### what it does -/
abbrev Env := List (Option W)
structure Exn where
  cls : Nat
  arg : Option W
inductive R (α : Type) where
  | ok (a : α) (M : List W) | ex (x : Exn) (M : List W) | no
def R.bind {α β : Type} : R α → (α → List W → R β) → R β
  | .ok a M, f => f a M
  | .ex x M, _ => .ex x M
  | .no, _ => .no
@[simp] theorem R.bind_ok {α β : Type} (a : α) (M : List W) (f : α → List W → R β) : R.bind (.ok a M) f = f a M := rfl
@[simp] theorem R.bind_ex {α β : Type} (x : Exn) (M : List W) (f : α → List W → R β) : R.bind (.ex x M) f = .ex x M := rfl
@[simp] theorem R.bind_no {α β : Type} (f : α → List W → R β) : R.bind .no f = .no := rfl
/-- what may not raise -/
def R.calm {α : Type} : R α → R α
  | .ok a M => .ok a M
  | _ => .no
@[simp] theorem R.calm_ok {α : Type} (a : α) (M : List W) : R.calm (.ok a M) = .ok a M := rfl
def R.of {α : Type} (o : Option α) (M : List W) : R α := match o with
  | some a => .ok a M
  | none => .no
@[simp] theorem R.of_some {α : Type} (a : α) (M : List W) : R.of (some a) M = .ok a M := rfl
@[simp] theorem R.of_none {α : Type} (M : List W) : (R.of none M : R α) = .no := rfl

/-- a cell's content -/
def deref (M : List W) : W → Option W
  | .loc n => M[n]?
  | w => some w
mutual
def bindT : Tg → W → Env → Option Env
  | .nm i, w, ρ => if i < ρ.length then some (ρ.set i (some w)) else none
  | .tp ts, .tup ws, ρ => bindTs ts ws ρ
  | .tp _, _, _ => none
def bindTs : List Tg → List W → Env → Option Env
  | [], [], ρ => some ρ
  | t :: ts, w :: ws, ρ => match bindT t w ρ with
    | some ρ => bindTs ts ws ρ
    | none => none
  | _, _, _ => none
end
def wipeE (ρ : Env) : List Nat → Env
  | [] => ρ
  | v :: vs => (wipeE ρ vs).set v none
def compL (f : W → List W → R (Option W)) : List W → List W → R (List W)
  | [], M => .ok [] M
  | w :: ws, M => (f w M).bind fun o M => (compL f ws M).bind fun r M => .ok (o.toList ++ r) M
def compD (f : W → List W → R (Option (Ky × W))) : List W → List (Ky × W) → List W → R (List (Ky × W))
  | [], acc, M => .ok acc M
  | w :: ws, acc, M => (f w M).bind fun o M => match o with
    | some (k, v) => if (acc.all fun p => p.1.flat == k.flat) then compD f ws (putK acc k v) M else .no
    | none => compD f ws acc M
def items? : W → Option (List W)
  | .lst ws => some ws
  | .tup ws => some ws
  | .frz ns => some (ns.map .int)
  | .str x => some (x.cps.toList.map fun c => .str ⟨#[c]⟩)
  | _ => none
def rangeL : List W → Option (List W)
  | [.int n] => if -(2 ^ 62) ≤ n ∧ n ≤ sizeLine then some ((List.range n.toNat).map fun k : Nat => .int k) else none
  | [.int a, .int b] => if -(2 ^ 62) ≤ a ∧ a < 2 ^ 62 ∧ -(2 ^ 62) ≤ b ∧ b < 2 ^ 62 ∧ b - a ≤ sizeLine then some ((List.range (b - a).toNat).map fun k : Nat => .int (a + k)) else none
  | _ => none
def enumL : Nat → List W → List W
  | _, [] => []
  | k, w :: ws => .tup [.int k, w] :: enumL (k + 1) ws
/-- a display's dict: keys ints and texts -/
def dctOf (acc : List (Ky × W)) : List W → Option (List (Ky × W))
  | [] => some acc
  | k :: v :: vs => match k.atom? with
    | some (.inl n) => dctOf (putK acc (.i n) v) vs
    | some (.inr x) => dctOf (putK acc (.s x) v) vs
    | none => none
  | _ => none
def partW : W → Option Int
  | .int i => some i
  | _ => none
section
variable (cl : Nat → List W → List W → R W)
mutual
def ev : E → Env → List W → R W
  | .non, _, M => .ok .non M
  | .bl b, _, M => .ok (.bl b) M
  | .int i, _, M => .ok (.int i) M
  | .str x, _, M => .ok (.str x) M
  | .var i, ρ, M => match ρ[i]? with
    | some (some w) => .ok w M
    | _ => .no
  | .tup es, ρ, M => (evs es ρ M).bind fun ws M => .ok (.tup ws) M
  | .lst es, ρ, M => (evs es ρ M).bind fun ws M => .ok (.lst ws) M
  | .dct es, ρ, M => (evs es ρ M).bind fun ws M => R.of ((dctOf [] ws).map .dct) M
  | .bin o a b, ρ, M => (ev a ρ M).bind fun x M => (ev b ρ M).bind fun y M => R.of (binW o x y) M
  | .neg a, ρ, M => (ev a ρ M).bind fun x M => match x with
    | .int i => .ok (.int (-i)) M
    | _ => .no
  | .cmp o a b, ρ, M => (ev a ρ M).bind fun x M => (ev b ρ M).bind fun y M => R.of ((cmpW o x y).map .bl) M
  | .cmp2 o p a b c, ρ, M => (ev a ρ M).bind fun x M => (ev b ρ M).bind fun y M => match cmpW o x y with
    | some true => (ev c ρ M).bind fun z M => R.of ((cmpW p y z).map .bl) M
    | some false => .ok (.bl false) M
    | none => .no
  | .not a, ρ, M => (ev a ρ M).bind fun x M => R.of ((truW x).map fun b => .bl (!b)) M
  | .and a b, ρ, M => (ev a ρ M).bind fun x M => match truW x with
    | some true => ev b ρ M
    | some false => .ok x M
    | none => .no
  | .or a b, ρ, M => (ev a ρ M).bind fun x M => match truW x with
    | some true => .ok x M
    | some false => ev b ρ M
    | none => .no
  | .ite c a b, ρ, M => (evT c ρ M).bind fun x M => if x then ev a ρ M else ev b ρ M
  | .ix a i, ρ, M => (ev a ρ M).bind fun x M => (ev i ρ M).bind fun y M => match deref M x with
    | some x => R.of (ixW x y) M
    | none => .no
  | .sl a lo hi, ρ, M => (ev a ρ M).bind fun x M => (evP lo ρ M).bind fun l M => (evP hi ρ M).bind fun h M => R.of (slW x l h) M
  | .call f es, ρ, M => (evs es ρ M).bind fun ws M => cl f ws M
  | .bi b es, ρ, M => (evs es ρ M).bind fun ws M => R.of (biW b ws) M
  | .mt m o es, ρ, M => (ev o ρ M).bind fun x M => if recv m x then (evs es ρ M).bind fun ws M => R.of (mtW m (x :: ws)) M else .no
  | .lc elt tg it cond own, ρ, M => (evI it ρ M).bind fun ws M =>
      (compL (fun w M => R.calm (match bindT tg w (wipeE ρ own) with
        | none => .no
        | some ρ' => (evT cond ρ' M).bind fun b M => if b then (ev elt ρ' M).bind fun x M => .ok (some x) M else .ok none M)) ws M).bind fun r M => .ok (.lst r) M
  | .dc k v tg it cond own, ρ, M => (evI it ρ M).bind fun ws M =>
      (compD (fun w M => R.calm (match bindT tg w (wipeE ρ own) with
        | none => .no
        | some ρ' => (evT cond ρ' M).bind fun b M => if b then (ev k ρ' M).bind fun x M => (ev v ρ' M).bind fun y M => match x.key? with
            | some q => .ok (some (q, y)) M
            | none => .no
          else .ok none M)) ws [] M).bind fun r M => .ok (.dct r) M
  | .share a, ρ, M => (ev a ρ M).bind fun x M => match x with
    | .dct _ => .ok (.loc M.length) (M ++ [x])
    | _ => .no
  | .isi t a, ρ, M => (ev a ρ M).bind fun x M => R.of (isiW t [x]) M
  | .gint _ n, _, M => .ok (.int n) M
  | .rev a, ρ, M => (ev a ρ M).bind fun x M => R.of (revW x) M
  | .lset a, ρ, M => (ev a ρ M).bind fun x M => R.of (lsetW x) M
  | .ssc elt tg it cond own, ρ, M => (evI it ρ M).bind fun ws M =>
      (compL (fun w M => R.calm (match bindT tg w (wipeE ρ own) with
        | none => .no
        | some ρ' => (evT cond ρ' M).bind fun b M => if b then (ev elt ρ' M).bind fun x M => .ok (some x) M else .ok none M)) ws M).bind fun r M => R.of (sscW r) M
  | .dcp a, ρ, M => (ev a ρ M).bind fun x M => match x with
    | .dct kvs => if kvs.isEmpty = false ∧ (kvs.all fun p => p.1.flat) = true then .ok (.dct kvs) M else .no
    | _ => .no
  | .gcd a b, ρ, M => (ev a ρ M).bind fun x M => (ev b ρ M).bind fun y M => R.of (gcdW x y) M
  | .keys a, ρ, M => (ev a ρ M).bind fun x M => R.of (keysW x) M
  | .vals a, ρ, M => (ev a ρ M).bind fun x M => R.of (valsW x) M
  | .items a, ρ, M => (ev a ρ M).bind fun x M => R.of (itemsW x) M
  | .ixf a b c, ρ, M => (ev a ρ M).bind fun x M => if recv .index x then (ev b ρ M).bind fun y M => (ev c ρ M).bind fun z M => R.of (ixfW x y z) M else .no
  | .ixt a b, ρ, M => (ev a ρ M).bind fun x M => (ev b ρ M).bind fun y M => R.of (ixtW x y) M
termination_by structural e => e
def evs : List E → Env → List W → R (List W)
  | [], _, M => .ok [] M
  | e :: es, ρ, M => (ev e ρ M).bind fun w M => (evs es ρ M).bind fun ws M => .ok (w :: ws) M
termination_by structural e => e
def evI : I → Env → List W → R (List W)
  | .v e, ρ, M => (ev e ρ M).bind fun x M => R.of (items? x) M
  | .range es, ρ, M => (evs es ρ M).bind fun ws M => R.of (rangeL ws) M
  | .enum a, ρ, M => (ev a ρ M).bind fun x M => R.of ((seq? x).map (enumL 0)) M
  | .keys i, ρ, M => match ρ[i]? with
    | some (some (.dct kvs)) => if (kvs.all fun p => p.1.ok) = true then .ok (kvs.map fun p => p.1.w) M else .no
    | _ => .no
  | .vals i, ρ, M => match ρ[i]? with
    | some (some (.dct kvs)) => if (kvs.all fun p => p.1.flat) = true then .ok (kvs.map fun p => p.2) M else .no
    | _ => .no
termination_by structural e => e
def evT : T → Env → List W → R Bool
  | .yes, _, M => .ok true M
  | .v e, ρ, M => (ev e ρ M).bind fun x M => R.of (truW x) M
  | .cmp o a b, ρ, M => (ev a ρ M).bind fun x M => (ev b ρ M).bind fun y M => R.of (cmpW o x y) M
  | .cmp2 o p a b c, ρ, M => (ev a ρ M).bind fun x M => (ev b ρ M).bind fun y M => match cmpW o x y with
    | some true => (ev c ρ M).bind fun z M => R.of (cmpW p y z) M
    | some false => .ok false M
    | none => .no
  | .not a, ρ, M => (evT a ρ M).bind fun b M => .ok (!b) M
  | .and a b, ρ, M => (evT a ρ M).bind fun x M => if x then evT b ρ M else .ok false M
  | .or a b, ρ, M => (evT a ρ M).bind fun x M => if x then .ok true M else evT b ρ M
termination_by structural e => e
def evP : P → Env → List W → R (Option Int)
  | .no, _, M => .ok none M
  | .v e, ρ, M => (ev e ρ M).bind fun x M => R.of ((partW x).map some) M
termination_by structural e => e
end
end
end Mi
end Mi0_

section Mi1_
set_option linter.all false
set_option Elab.async false
/-! Mi1: statements, loops, calls. -/
namespace Mi
open PySem L2

/-! ### unbounded loops -/
def loopN {σ β : Type} (f : σ → Option (σ ⊕ β)) : Nat → σ → Option β
  | 0, _ => none
  | n + 1, s => match f s with
    | none => none
    | some (.inl s') => loopN f n s'
    | some (.inr b) => some b
theorem loopN_mono {σ β : Type} {f : σ → Option (σ ⊕ β)} : ∀ {n m : Nat} {s : σ} {b : β}, loopN f n s = some b → n ≤ m → loopN f m s = some b
  | 0, _, _, _, h, _ => by simp [loopN] at h
  | n + 1, 0, _, _, _, h => by omega
  | n + 1, m + 1, s, b, h, hm => by
    unfold loopN at h ⊢
    cases e : f s with
    | none => rw [e] at h; cases h
    | some r =>
      rw [e] at h
      cases r with
      | inl s' => exact loopN_mono h (by omega)
      | inr b' => exact h
open Classical in
noncomputable def loop {σ β : Type} (f : σ → Option (σ ⊕ β)) (s : σ) : Option β :=
  if h : ∃ (b : β) (n : Nat), loopN f n s = some b then some (Classical.choose h) else none
theorem loop_of {σ β : Type} {f : σ → Option (σ ⊕ β)} {s : σ} {n : Nat} {b : β} (h : loopN f n s = some b) : loop f s = some b := by
  have hx : ∃ (b : β) (n : Nat), loopN f n s = some b := ⟨b, n, h⟩
  unfold loop
  rw [dif_pos hx]
  obtain ⟨m, hm⟩ := Classical.choose_spec hx
  have h1 := loopN_mono h (Nat.le_max_left n m)
  have h2 := loopN_mono hm (Nat.le_max_right n m)
  rw [h1] at h2
  exact h2.symm
theorem loop_some {σ β : Type} {f : σ → Option (σ ⊕ β)} {s : σ} {b : β} (h : loop f s = some b) : ∃ n, loopN f n s = some b := by
  unfold loop at h
  split at h
  · rename_i hx
    obtain ⟨m, hm⟩ := Classical.choose_spec hx
    cases h
    exact ⟨m, hm⟩
  · cases h
theorem loop_eq {σ β : Type} (f : σ → Option (σ ⊕ β)) (s : σ) : loop f s = match f s with
    | none => none
    | some (.inl s') => loop f s'
    | some (.inr b) => some b := by
  cases e : f s with
  | none =>
    cases q : loop f s with
    | none => rfl
    | some b =>
      obtain ⟨n, h⟩ := loop_some q
      cases n with
      | zero => simp [loopN] at h
      | succ n => unfold loopN at h; rw [e] at h; cases h
  | some r =>
    cases r with
    | inr b =>
      exact loop_of (n := 1) (by unfold loopN; rw [e])
    | inl s' =>
      show loop f s = loop f s'
      cases q : loop f s' with
      | some b =>
        obtain ⟨n, h⟩ := loop_some q
        exact loop_of (n := n + 1) (by unfold loopN; rw [e]; exact h)
      | none =>
        cases q2 : loop f s with
        | none => rfl
        | some b =>
          obtain ⟨n, h⟩ := loop_some q2
          cases n with
          | zero => simp [loopN] at h
          | succ n =>
            unfold loopN at h
            rw [e] at h
            rw [loop_of h] at q
            cases q

/-! ### stores -/
def setW : W → W → W → Option W
  | .lst ws, .int k, v => (ixN ws.length k).map fun j => .lst (ws.set j v)
  | .dct kvs, k, v => match k.key? with
    | some k => if (kvs.all fun p => p.1.flat == k.flat) ∧ kvs.length < sizeLine then some (.dct (putK kvs k v)) else none
    | none => none
  | _, _, _ => none
def augW : Bop → W → W → Option W
  | o, .int i, .int j => match o with
    | .add => addW (.int i) (.int j)
    | .sub => subW (.int i) (.int j)
    | .mul => if mulOk i j then some (.int (i * j)) else none
    | _ => none
  | .add, .str x, .str y => addW (.str x) (.str y)
  | _, _, _ => none
def popW : W → W → Option (W × W)
  | .lst ws, .int k => if -(2 ^ 63) ≤ k ∧ k < 2 ^ 63 then (ixN ws.length k).bind fun j => ws[j]?.map fun y => (y, .lst (ws.eraseIdx j)) else none
  | _, _ => none
def extW : W → W → Option W
  | .lst a, .lst b => if a.length + b.length ≤ sizeLine then some (.lst (a ++ b)) else none
  | _, _ => none
def appW : W → W → Option W
  | .lst a, v => if a.length < sizeLine then some (.lst (a ++ [v])) else none
  | _, _ => none

/-- x.remove(y): y there -/
def remW (ws : List W) (y : W) : Option W := if y.depth ≤ 60 ∧ (W.lst ws).depth ≤ 60 then (findIx ws y).map fun n => .lst (ws.eraseIdx n) else none
/-- d.setdefault(k, []): where it stands -/
def setdJ (kvs : List (Ky × W)) (k : Ky) : List (Ky × W) × Nat := match kvs.findIdx? fun p => decide (p.1 = k) with
  | some j => (kvs, j)
  | none => (kvs ++ [(k, .lst [])], kvs.length)
def setAll (ρ : Env) : List Nat → List W → Env
  | i :: is, w :: ws => setAll (ρ.set i (some w)) is ws
  | _, _ => ρ
def W.box : W → Bool
  | .lst _ => true
  | .dct _ => true
  | _ => false
inductive Fl | nx | bk | ct | rt (w : W)
/-- the slot i, if it holds a value -/
def slot (ρ : Env) (i : Nat) : Option W := match ρ[i]? with
  | some (some w) => some w
  | _ => none
def forL (f : W → Env → List W → R (Fl × Env)) : List W → Env → List W → R (Fl × Env)
  | [], ρ, M => .ok (.nx, ρ) M
  | w :: ws, ρ, M => (f w ρ M).bind fun r M => match r with
    | (.nx, ρ) => forL f ws ρ M
    | (.ct, ρ) => forL f ws ρ M
    | (.bk, ρ) => .ok (.nx, ρ) M
    | (.rt v, ρ) => .ok (.rt v, ρ) M
/-- one turn of a while -/
def turn (t : Env → List W → R Bool) (b : Env → List W → R (Fl × Env)) (s : Env × List W) : Option ((Env × List W) ⊕ R (Fl × Env)) :=
  match t s.1 s.2 with
  | .no => none
  | .ex x M => some (.inr (.ex x M))
  | .ok false M => some (.inr (.ok (.nx, s.1) M))
  | .ok true M => match b s.1 M with
    | .no => none
    | .ex x M => some (.inr (.ex x M))
    | .ok (.nx, ρ) M => some (.inl (ρ, M))
    | .ok (.ct, ρ) M => some (.inl (ρ, M))
    | .ok (.bk, ρ) M => some (.inr (.ok (.nx, ρ) M))
    | .ok (.rt v, ρ) M => some (.inr (.ok (.rt v, ρ) M))
noncomputable def whileL (t : Env → List W → R Bool) (b : Env → List W → R (Fl × Env)) (ρ : Env) (M : List W) : R (Fl × Env) := (loop (turn t b) (ρ, M)).getD .no

section
variable (cl : Nat → List W → List W → R W)
def findH : List (Nat × Option Hx) → Nat → Option (Option Hx)
  | [], _ => none
  | h :: hs, k => if k = h.1 then some h.2 else findH hs k
mutual
noncomputable def exec : S → Env → List W → R (Fl × Env)
  | .never, _, _ => .no
  | .wipe is, ρ, M => .ok (.nx, wipeE ρ is) M
  | .raise k, _, M => .ex ⟨k, none⟩ M
  | .tri s bs hs, ρ, M => match exec s ρ M with
    | .ok (.nx, ρ') M' => R.calm (execs bs ρ' M')
    | .ok (.bk, ρ') M' => .ok (.bk, ρ') M'
    | .ok (.ct, ρ') M' => .ok (.ct, ρ') M'
    | .ok (.rt v, ρ') M' => .ok (.rt v, ρ') M'
    | .ex x M' => match findH hs x.cls with
      | none => .ex x M'
      | some none => .ok (.nx, ρ) M'
      | some (some v) => .ok (.rt (v.val x.cls).w, ρ) M'
    | .no => .no
  | .apop i j e, ρ, M => match slot ρ i, slot ρ j with
    | some (.lst us), some (.lst ws) => if i = j then .no else (ev cl e ρ M).bind fun w M => match popW (.lst ws) w with
      | some (y, z) => R.of ((appW (.lst us) y).map fun u => (.nx, (ρ.set j (some z)).set i (some u))) M
      | none => .no
    | _, _ => .no
  | .popv i j e, ρ, M => match slot ρ j with
    | some (.lst ws) => if i = j ∨ ¬ i < ρ.length then .no else (ev cl e ρ M).bind fun w M => R.of ((popW (.lst ws) w).map fun z => (.nx, (ρ.set j (some z.2)).set i (some z.1))) M
    | _ => .no
  | .par is es, ρ, M => (evs cl es ρ M).bind fun ws M => if ws.length = is.length ∧ (is.all fun i => decide (i < ρ.length)) = true then .ok (.nx, setAll ρ is ws) M else .no
  | .swp i k1 k2 v1 v2, ρ, M => (ev cl (.tup [v1, v2]) ρ M).bind fun t M => match t with
    | .tup [x, y] => match slot ρ i with
      | some c => (ev cl k1 ρ M).bind fun q M => match setW c q x with
        | some c' => (ev cl k2 (ρ.set i (some c')) M).bind fun q2 M => R.of ((setW c' q2 y).map fun z => (.nx, ρ.set i (some z))) M
        | none => .no
      | none => .no
    | _ => .no
  | .rem i e, ρ, M => match slot ρ i with
    | some (.lst ws) => (ev cl e ρ M).bind fun w M => R.of ((remW ws w).map fun z => (.nx, ρ.set i (some z))) M
    | _ => .no
  | .sda i k v, ρ, M => match slot ρ i with
    | some (.dct kvs) => (ev cl k ρ M).bind fun q M => match q.key? with
      | some ky => if (kvs.all fun p => p.1.flat) = true ∧ ky.flat = true ∧ kvs.length < sizeLine then
          match (setdJ kvs ky).1[(setdJ kvs ky).2]? with
          | some (_, .lst ws) => (ev cl v (ρ.set i (some (.dct (setdJ kvs ky).1))) M).bind fun y M => R.of ((appW (.lst ws) y).map fun z => (.nx, ρ.set i (some (.dct ((setdJ kvs ky).1.set (setdJ kvs ky).2 (ky, z)))))) M
          | _ => .no
        else .no
      | none => .no
    | _ => .no
  | .set i _ e, ρ, M => (ev cl e ρ M).bind fun w M => if i < ρ.length then .ok (.nx, ρ.set i (some w)) M else .no
  | .setT t e, ρ, M => (ev cl e ρ M).bind fun w M => R.of ((bindT t w ρ).map fun ρ => (.nx, ρ)) M
  | .stx i k v, ρ, M => (ev cl v ρ M).bind fun y M => match slot ρ i with
    | some x => (ev cl k ρ M).bind fun q M => R.of ((setW x q y).map fun z => (.nx, ρ.set i (some z))) M
    | none => .no
  | .stc o k v, ρ, M => (ev cl v ρ M).bind fun y M => (ev cl o ρ M).bind fun x M => (ev cl k ρ M).bind fun q M => match x with
    | .loc n => match M[n]?.bind fun c => setW c q y with
      | some c => .ok (.nx, ρ) (M.set n c)
      | none => .no
    | _ => .no
  | .aug i o e, ρ, M => match slot ρ i with
    | some x => (ev cl e ρ M).bind fun y M => R.of ((augW o x y).map fun z => (.nx, ρ.set i (some z))) M
    | none => .no
  | .augx i o k e, ρ, M => match slot ρ i with
    | some x => if x.box then (ev cl k ρ M).bind fun q M => match ixW x q with
        | some y => (ev cl e ρ M).bind fun z M => R.of ((augW o y z).bind fun y => (setW x q y).map fun z => (.nx, ρ.set i (some z))) M
        | none => .no
      else .no
    | none => .no
  | .app i e, ρ, M => match slot ρ i with
    | some (.lst ws) => (ev cl e ρ M).bind fun w M => R.of ((appW (.lst ws) w).map fun z => (.nx, ρ.set i (some z))) M
    | _ => .no
  | .ext i e, ρ, M => match slot ρ i with
    | some (.lst ws) => (ev cl e ρ M).bind fun w M => R.of ((extW (.lst ws) w).map fun z => (.nx, ρ.set i (some z))) M
    | _ => .no
  | .pop i e, ρ, M => match slot ρ i with
    | some (.lst ws) => (ev cl e ρ M).bind fun w M => R.of ((popW (.lst ws) w).map fun z => (.nx, ρ.set i (some z.2))) M
    | _ => .no
  | .lk _ s, ρ, M => exec s ρ M
  | .expr e, ρ, M => (ev cl e ρ M).bind fun _ M => .ok (.nx, ρ) M
  | .ret e, ρ, M => (ev cl e ρ M).bind fun w M => .ok (.rt w, ρ) M
  | .retv i, ρ, M => R.of ((slot ρ i).map fun w => (.rt w, ρ)) M
  | .ifs c a b, ρ, M => (evT cl c ρ M).bind fun k M => if k then execs a ρ M else execs b ρ M
  | .whil c b _, ρ, M => whileL (evT cl c) (fun ρ M => execs b ρ M) ρ M
  | .forr t it b _, ρ, M => (evI cl it ρ M).bind fun ws M => forL (fun w ρ M => match bindT t w ρ with
    | some ρ => execs b ρ M
    | none => .no) ws ρ M
  | .brk, ρ, M => .ok (.bk, ρ) M
  | .cont, ρ, M => .ok (.ct, ρ) M
  | .pass, ρ, M => .ok (.nx, ρ) M
  | .fz _, ρ, M => .ok (.nx, ρ) M
termination_by structural s => s
noncomputable def execs : List S → Env → List W → R (Fl × Env)
  | [], ρ, M => .ok (.nx, ρ) M
  | s :: ss, ρ, M => (exec s ρ M).bind fun r M => match r with
    | (.nx, ρ) => execs ss ρ M
    | (.bk, ρ) => .ok (.bk, ρ) M
    | (.ct, ρ) => .ok (.ct, ρ) M
    | (.rt v, ρ) => .ok (.rt v, ρ) M
termination_by structural s => s
end
end

/-! ### defs -/
structure Fn where
  np : Nat
  ns : Nat
  pd : List Nat
  ret : Lv
  body : List S
/-- what a body's end gives -/
def fin : R (Fl × Env) → R W
  | .ok (.rt w, _) M => .ok w M
  | .ok (.nx, _) M => .ok .non M
  | .ok _ _ => .no
  | .ex x M => .ex x M
  | .no => .no
@[simp] theorem fin_rt (w : W) (ρ : Env) (M : List W) : fin (.ok (.rt w, ρ) M) = .ok w M := rfl
@[simp] theorem fin_nx (ρ : Env) (M : List W) : fin (.ok (.nx, ρ) M) = .ok .non M := rfl
@[simp] theorem fin_ex (x : Exn) (M : List W) : fin (.ex x M) = .ex x M := rfl
noncomputable def callF (tab : Nat → Option Fn) : Nat → Nat → List W → List W → R W
  | 0, _, _, _ => .no
  | d + 1, f, args, M => match tab f with
    | none => .no
    | some F => if args.length = F.np then fin (execs (callF tab d) F.body (args.map some ++ List.replicate (F.ns - F.np) none) M) else .no
end Mi
end Mi1_

section Mi2_
set_option linter.all false
set_option Elab.async false
/-! Mi2: values of the small language as they stand in HandS's abstract heap; ownership. -/
namespace Mi
open PySem PySem.Spec PyProof.Rows L2

def ofK : L2.Key → Ky
  | .inl n => .i n
  | .inr x => .s x
theorem ofK_inj : ∀ {a b : L2.Key}, ofK a = ofK b → a = b
  | .inl _, .inl _, h => by cases h; rfl
  | .inr _, .inr _, h => by cases h; rfl
  | .inl _, .inr _, h => by cases h
  | .inr _, .inl _, h => by cases h
/-- a dict of the entries xs -/
def DAt (H : Hp) (a : Addr) (xs : List (Ky × V)) : Prop :=
  (∃ ys : List (L2.Key × V), H a = some (.dK ys) ∧ xs = ys.map fun p => (ofK p.1, p.2)) ∨ ∃ ys : List (List L2.Key × V), H a = some (.dT ys) ∧ xs = ys.map fun p => (.t p.1, p.2)
/-- .. that may be locked while it is walked -/
def DAtR (H : Hp) (a : Addr) (xs : List (Ky × V)) : Prop :=
  DAt H a xs ∨ (xs ≠ [] ∧ ∃ o : Obj, (∃ ys : List (L2.Key × V), H a = some (.frz o (.dK ys)) ∧ xs = ys.map fun p => (ofK p.1, p.2)) ∨ ∃ ys : List (List L2.Key × V), H a = some (.frz o (.dT ys)) ∧ xs = ys.map fun p => (.t p.1, p.2))
/-- a list of the module's own -/
def KLst (K : PySem.W.Frag) (a : Addr) (xs : List V) : Prop :=
  ∃ (o : Obj) (its : Array Value) (n : Nat), K.lookup a = some o ∧ o.cls = .type "list" ∧ o.dict = none ∧ o.data = .seq its n ∧ its.size ≤ sizeLine ∧ Vals xs its.toList

/-- the ghosts: B0 what a persistent node is not, B1 what any node is not -/
structure Gh where
  K : PySem.W.Frag
  H : Hp
  mu : List Addr
  B0 : Addr → Prop
  B1 : Addr → Prop
def Gh.ok (G : Gh) (d : Nat) (a : Addr) : Prop := if d = 0 then ¬ G.B0 a else ¬ G.B1 a
mutual
def Rep (G : Gh) : W → Nat → V → Prop
  | .non, _, v => v = .non
  | .bl b, _, v => v = .bl b
  | .int i, _, v => v = .int i
  | .str x, _, v => v = .str x ∧ PyData.strOk x = true ∧ x.length ≤ sizeLine
  | .tup ws, _, v => ∃ a vs, v = .ref a ∧ G.H a = some (.tup vs) ∧ ¬ G.B0 a ∧ vs.length ≤ sizeLine ∧ RepL G ws 0 vs
  | .lst ws, d, v => ∃ a vs, v = .ref a ∧ G.H a = some (.lst vs) ∧ G.ok d a ∧ vs.length ≤ sizeLine ∧ RepL G ws (d - 1) vs
  | .dct kvs, d, v => ∃ a xs, v = .ref a ∧ DAtR G.H a xs ∧ G.ok d a ∧ xs.length ≤ sizeLine ∧ RepD G kvs (d - 1) xs
  | .frz ns, _, v => ∃ a, v = .ref a ∧ ns.length ≤ sizeLine ∧ ((∃ o, G.H a = some (.frz o (.lst (ns.map V.int))) ∧ ¬ G.B0 a) ∨ KLst G.K a (ns.map V.int))
  | .loc n, _, v => ∃ a, v = .ref a ∧ G.mu[n]? = some a
def RepL (G : Gh) : List W → Nat → List V → Prop
  | [], _, vs => vs = []
  | w :: ws, d, vs => ∃ v r, vs = v :: r ∧ Rep G w d v ∧ RepL G ws d r
def RepD (G : Gh) : List (Ky × W) → Nat → List (Ky × V) → Prop
  | [], _, vs => vs = []
  | p :: ws, d, vs => ∃ v r, vs = v :: r ∧ RepP G p d v ∧ RepD G ws d r
def RepP (G : Gh) : (Ky × W) → Nat → (Ky × V) → Prop
  | (k, w), d, q => q.1 = k ∧ Rep G w d q.2
end

/-- from one ghost state to another -/
structure Gh.To (G G' : Gh) : Prop where
  K : G'.K = G.K
  h0 : ∀ a o, G.H a = some o → ¬ G.B0 a → G'.H a = some o ∧ ¬ G'.B0 a
  h1 : ∀ a o, G.H a = some o → ¬ G.B1 a → G'.H a = some o ∧ ¬ G'.B1 a
  mu : ∀ (n : Nat) (a : Addr), G.mu[n]? = some a → G'.mu[n]? = some a
theorem Gh.To.ok {G G' : Gh} (t : G.To G') {d : Nat} {a : Addr} {o : HO} (h : G.H a = some o) (k : G.ok d a) : G'.H a = some o ∧ G'.ok d a := by
  unfold Gh.ok at k ⊢
  by_cases e : d = 0
  · rw [if_pos e] at k ⊢; exact t.h0 a o h k
  · rw [if_neg e] at k ⊢; exact t.h1 a o h k
theorem DAt.to {H H' : Hp} {a : Addr} {xs : List (Ky × V)} (h : DAt H a xs) (t : ∀ o, H a = some o → H' a = some o) : DAt H' a xs := by
  rcases h with ⟨ys, e, q⟩ | ⟨ys, e, q⟩
  · exact .inl ⟨ys, t _ e, q⟩
  · exact .inr ⟨ys, t _ e, q⟩
theorem DAt.some {H : Hp} {a : Addr} {xs : List (Ky × V)} (h : DAt H a xs) : ∃ o, H a = some o := by
  rcases h with ⟨ys, e, q⟩ | ⟨ys, e, q⟩
  · exact ⟨_, e⟩
  · exact ⟨_, e⟩
theorem DAtR.rd {H : Hp} {a : Addr} {xs : List (Ky × V)} (h : DAtR H a xs) : (∃ ys : List (L2.Key × V), Rd H a (.dK ys) ∧ xs = ys.map fun p => (ofK p.1, p.2)) ∨ ∃ ys : List (List L2.Key × V), Rd H a (.dT ys) ∧ xs = ys.map fun p => (.t p.1, p.2) := by
  rcases h with (⟨ys, e1, e⟩ | ⟨ys, e1, e⟩) | ⟨_, o, ⟨ys, e1, e⟩ | ⟨ys, e1, e⟩⟩
  · exact .inl ⟨ys, .inl e1, e⟩
  · exact .inr ⟨ys, .inl e1, e⟩
  · exact .inl ⟨ys, .inr ⟨o, e1⟩, e⟩
  · exact .inr ⟨ys, .inr ⟨o, e1⟩, e⟩
theorem DAtR.to {H H' : Hp} {a : Addr} {xs : List (Ky × V)} (h : DAtR H a xs) (t : ∀ o, H a = some o → H' a = some o) : DAtR H' a xs := by
  rcases h with h | ⟨n, o, ⟨ys, e, q⟩ | ⟨ys, e, q⟩⟩
  · exact .inl (h.to t)
  · exact .inr ⟨n, o, .inl ⟨ys, t _ e, q⟩⟩
  · exact .inr ⟨n, o, .inr ⟨ys, t _ e, q⟩⟩
theorem DAtR.some {H : Hp} {a : Addr} {xs : List (Ky × V)} (h : DAtR H a xs) : ∃ o, H a = some o := by
  rcases h with h | ⟨n, o, ⟨ys, e, q⟩ | ⟨ys, e, q⟩⟩
  · exact h.some
  · exact ⟨_, e⟩
  · exact ⟨_, e⟩
mutual
theorem Rep.to {G G' : Gh} (t : G.To G') : ∀ {w : W} {d : Nat} {v : V}, Rep G w d v → Rep G' w d v
  | .non, _, _, h => by unfold Rep at h ⊢; exact h
  | .bl b, _, _, h => by unfold Rep at h ⊢; exact h
  | .int i, _, _, h => by unfold Rep at h ⊢; exact h
  | .str x, _, _, h => by unfold Rep at h ⊢; exact h
  | .tup ws, d, v, h => by
    unfold Rep at h ⊢
    obtain ⟨a, vs, e, h1, h2, h3, h4⟩ := h
    obtain ⟨k1, k2⟩ := t.h0 _ _ h1 h2
    exact ⟨a, vs, e, k1, k2, h3, RepL.to t h4⟩
  | .lst ws, d, v, h => by
    unfold Rep at h ⊢
    obtain ⟨a, vs, e, h1, h2, h3, h4⟩ := h
    obtain ⟨k1, k2⟩ := t.ok h1 h2
    exact ⟨a, vs, e, k1, k2, h3, RepL.to t h4⟩
  | .dct kvs, d, v, h => by
    unfold Rep at h ⊢
    obtain ⟨a, vs, e, h1, h2, h3, h4⟩ := h
    obtain ⟨o, ho⟩ := h1.some
    obtain ⟨k1, k2⟩ := t.ok ho h2
    exact ⟨a, vs, e, h1.to fun o' q => (t.ok q h2).1, k2, h3, RepD.to t h4⟩
  | .frz ns, _, v, h => by
    unfold Rep at h ⊢
    obtain ⟨a, e, h0, h1 | h1⟩ := h
    · obtain ⟨o, h1, h2⟩ := h1
      obtain ⟨k1, k2⟩ := t.h0 _ _ h1 h2
      exact ⟨a, e, h0, .inl ⟨o, k1, k2⟩⟩
    · rw [← t.K] at h1
      exact ⟨a, e, h0, .inr h1⟩
  | .loc n, _, v, h => by
    unfold Rep at h ⊢
    obtain ⟨a, e, h1⟩ := h
    exact ⟨a, e, t.mu _ _ h1⟩
theorem RepL.to {G G' : Gh} (t : G.To G') : ∀ {ws : List W} {d : Nat} {vs : List V}, RepL G ws d vs → RepL G' ws d vs
  | [], _, _, h => by unfold RepL at h ⊢; exact h
  | w :: ws, d, vs, h => by
    unfold RepL at h ⊢
    obtain ⟨v, r, e, h1, h2⟩ := h
    exact ⟨v, r, e, Rep.to t h1, RepL.to t h2⟩
theorem RepD.to {G G' : Gh} (t : G.To G') : ∀ {ws : List (Ky × W)} {d : Nat} {vs : List (Ky × V)}, RepD G ws d vs → RepD G' ws d vs
  | [], _, _, h => by unfold RepD at h ⊢; exact h
  | p :: ws, d, vs, h => by
    unfold RepD at h ⊢
    obtain ⟨v, r, e, h1, h2⟩ := h
    exact ⟨v, r, e, RepP.to t h1, RepD.to t h2⟩
theorem RepP.to {G G' : Gh} (t : G.To G') : ∀ {p : Ky × W} {d : Nat} {q : Ky × V}, RepP G p d q → RepP G' p d q
  | (k, w), d, q, h => by
    unfold RepP at h ⊢
    exact ⟨h.1, Rep.to t h.2⟩
end
/-- a greater depth asks less -/
theorem Gh.ok.mono {G : Gh} (hb : ∀ a, G.B1 a → G.B0 a) {d d' : Nat} (hd : d ≤ d') {a : Addr} (k : G.ok d a) : G.ok d' a := by
  unfold Gh.ok at k ⊢
  by_cases e : d' = 0
  · have e0 : d = 0 := by omega
    rw [if_pos e0] at k; rw [if_pos e]; exact k
  · rw [if_neg e]
    by_cases e0 : d = 0
    · rw [if_pos e0] at k; exact fun z => k (hb a z)
    · rw [if_neg e0] at k; exact k
mutual
theorem Rep.mono {G : Gh} (hb : ∀ a, G.B1 a → G.B0 a) : ∀ {w : W} {d d' : Nat} {v : V}, d ≤ d' → Rep G w d v → Rep G w d' v
  | .non, _, _, _, _, h => by unfold Rep at h ⊢; exact h
  | .bl b, _, _, _, _, h => by unfold Rep at h ⊢; exact h
  | .int i, _, _, _, _, h => by unfold Rep at h ⊢; exact h
  | .str x, _, _, _, _, h => by unfold Rep at h ⊢; exact h
  | .tup ws, _, _, _, _, h => by unfold Rep at h ⊢; exact h
  | .frz ws, _, _, _, _, h => by unfold Rep at h ⊢; exact h
  | .loc ws, _, _, _, _, h => by unfold Rep at h ⊢; exact h
  | .lst ws, d, d', v, hd, h => by
    unfold Rep at h ⊢
    obtain ⟨a, vs, e, h1, h2, h3, h4⟩ := h
    exact ⟨a, vs, e, h1, h2.mono hb hd, h3, RepL.mono hb (by omega) h4⟩
  | .dct ws, d, d', v, hd, h => by
    unfold Rep at h ⊢
    obtain ⟨a, vs, e, h1, h2, h3, h4⟩ := h
    exact ⟨a, vs, e, h1, h2.mono hb hd, h3, RepD.mono hb (by omega) h4⟩
theorem RepL.mono {G : Gh} (hb : ∀ a, G.B1 a → G.B0 a) : ∀ {ws : List W} {d d' : Nat} {vs : List V}, d ≤ d' → RepL G ws d vs → RepL G ws d' vs
  | [], _, _, _, _, h => by unfold RepL at h ⊢; exact h
  | w :: ws, d, d', vs, hd, h => by
    unfold RepL at h ⊢
    obtain ⟨v, r, e, h1, h2⟩ := h
    exact ⟨v, r, e, Rep.mono hb hd h1, RepL.mono hb hd h2⟩
theorem RepD.mono {G : Gh} (hb : ∀ a, G.B1 a → G.B0 a) : ∀ {ws : List (Ky × W)} {d d' : Nat} {vs : List (Ky × V)}, d ≤ d' → RepD G ws d vs → RepD G ws d' vs
  | [], _, _, _, _, h => by unfold RepD at h ⊢; exact h
  | w :: ws, d, d', vs, hd, h => by
    unfold RepD at h ⊢
    obtain ⟨v, r, e, h1, h2⟩ := h
    exact ⟨v, r, e, RepP.mono hb hd h1, RepD.mono hb hd h2⟩
theorem RepP.mono {G : Gh} (hb : ∀ a, G.B1 a → G.B0 a) : ∀ {p : Ky × W} {d d' : Nat} {q : Ky × V}, d ≤ d' → RepP G p d q → RepP G p d' q
  | (k, w), _, _, q, hd, h => by
    unfold RepP at h ⊢
    exact ⟨h.1, Rep.mono hb hd h.2⟩
end

/-- persistent values by persistent nodes alone -/
structure Gh.To0 (G G' : Gh) : Prop where
  K : G'.K = G.K
  h0 : ∀ a o, G.H a = some o → ¬ G.B0 a → G'.H a = some o ∧ ¬ G'.B0 a
  mu : ∀ (n : Nat) (a : Addr), G.mu[n]? = some a → G'.mu[n]? = some a
theorem Gh.To.to0 {G G' : Gh} (t : G.To G') : G.To0 G' := ⟨t.K, t.h0, t.mu⟩
mutual
theorem Rep.to0 {G G' : Gh} (t : G.To0 G') : ∀ {w : W} {v : V}, Rep G w 0 v → Rep G' w 0 v
  | .non, _, h => by unfold Rep at h ⊢; exact h
  | .bl b, _, h => by unfold Rep at h ⊢; exact h
  | .int i, _, h => by unfold Rep at h ⊢; exact h
  | .str x, _, h => by unfold Rep at h ⊢; exact h
  | .tup ws, v, h => by
    unfold Rep at h ⊢
    obtain ⟨a, vs, e, h1, h2, h3, h4⟩ := h
    obtain ⟨k1, k2⟩ := t.h0 _ _ h1 h2
    exact ⟨a, vs, e, k1, k2, h3, RepL.to0 t h4⟩
  | .lst ws, v, h => by
    unfold Rep at h ⊢
    obtain ⟨a, vs, e, h1, h2, h3, h4⟩ := h
    unfold Gh.ok at h2 ⊢
    rw [if_pos rfl] at h2
    obtain ⟨k1, k2⟩ := t.h0 _ _ h1 h2
    exact ⟨a, vs, e, k1, by rw [if_pos rfl]; exact k2, h3, RepL.to0 t h4⟩
  | .dct kvs, v, h => by
    unfold Rep at h ⊢
    obtain ⟨a, vs, e, h1, h2, h3, h4⟩ := h
    unfold Gh.ok at h2 ⊢
    rw [if_pos rfl] at h2
    obtain ⟨o, ho⟩ := h1.some
    obtain ⟨k1, k2⟩ := t.h0 _ _ ho h2
    exact ⟨a, vs, e, h1.to fun o' q => (t.h0 _ _ q h2).1, by rw [if_pos rfl]; exact k2, h3, RepD.to0 t h4⟩
  | .frz ns, v, h => by
    unfold Rep at h ⊢
    obtain ⟨a, e, h0, h1 | h1⟩ := h
    · obtain ⟨o, h1, h2⟩ := h1
      obtain ⟨k1, k2⟩ := t.h0 _ _ h1 h2
      exact ⟨a, e, h0, .inl ⟨o, k1, k2⟩⟩
    · rw [← t.K] at h1
      exact ⟨a, e, h0, .inr h1⟩
  | .loc n, v, h => by
    unfold Rep at h ⊢
    obtain ⟨a, e, h1⟩ := h
    exact ⟨a, e, t.mu _ _ h1⟩
theorem RepL.to0 {G G' : Gh} (t : G.To0 G') : ∀ {ws : List W} {vs : List V}, RepL G ws 0 vs → RepL G' ws 0 vs
  | [], _, h => by unfold RepL at h ⊢; exact h
  | w :: ws, vs, h => by
    unfold RepL at h ⊢
    obtain ⟨v, r, e, h1, h2⟩ := h
    exact ⟨v, r, e, Rep.to0 t h1, RepL.to0 t h2⟩
theorem RepD.to0 {G G' : Gh} (t : G.To0 G') : ∀ {ws : List (Ky × W)} {vs : List (Ky × V)}, RepD G ws 0 vs → RepD G' ws 0 vs
  | [], _, h => by unfold RepD at h ⊢; exact h
  | p :: ws, vs, h => by
    unfold RepD at h ⊢
    obtain ⟨v, r, e, h1, h2⟩ := h
    exact ⟨v, r, e, RepP.to0 t h1, RepD.to0 t h2⟩
theorem RepP.to0 {G G' : Gh} (t : G.To0 G') : ∀ {p : Ky × W} {q : Ky × V}, RepP G p 0 q → RepP G' p 0 q
  | (k, w), q, h => by
    unfold RepP at h ⊢
    exact ⟨h.1, Rep.to0 t h.2⟩
end

/-! ### lists of values -/
theorem RepL.len {G : Gh} : ∀ {ws : List W} {d : Nat} {vs : List V}, RepL G ws d vs → vs.length = ws.length
  | [], _, _, h => by unfold RepL at h; rw [h]; rfl
  | w :: ws, d, vs, h => by
    unfold RepL at h
    obtain ⟨v, r, e, h1, h2⟩ := h
    rw [e, List.length_cons, List.length_cons, h2.len]
theorem RepL.nil {G : Gh} {d : Nat} : RepL G [] d [] := by unfold RepL; rfl
theorem RepL.cons {G : Gh} {w : W} {ws : List W} {d : Nat} {v : V} {vs : List V} (h : Rep G w d v) (t : RepL G ws d vs) : RepL G (w :: ws) d (v :: vs) := by
  unfold RepL; exact ⟨v, vs, rfl, h, t⟩
theorem RepL.append {G : Gh} : ∀ {ws ws' : List W} {d : Nat} {vs vs' : List V}, RepL G ws d vs → RepL G ws' d vs' → RepL G (ws ++ ws') d (vs ++ vs')
  | [], _, _, _, _, h, h' => by unfold RepL at h; rw [h]; exact h'
  | w :: ws, ws', d, vs, vs', h, h' => by
    unfold RepL at h
    obtain ⟨v, r, e, h1, h2⟩ := h
    rw [e]
    exact .cons h1 (h2.append h')
theorem RepL.get {G : Gh} : ∀ {ws : List W} {d : Nat} {vs : List V} {i : Nat} {w : W}, RepL G ws d vs → ws[i]? = some w → ∃ v, vs[i]? = some v ∧ Rep G w d v
  | [], _, _, _, _, _, e => by simp at e
  | w :: ws, d, vs, 0, w', h, e => by
    unfold RepL at h
    obtain ⟨v, r, e1, h1, h2⟩ := h
    simp at e; subst e; subst e1
    exact ⟨v, rfl, h1⟩
  | w :: ws, d, vs, i + 1, w', h, e => by
    unfold RepL at h
    obtain ⟨v, r, e1, h1, h2⟩ := h
    subst e1
    obtain ⟨v', k1, k2⟩ := h2.get (i := i) (by simpa using e)
    exact ⟨v', by simpa using k1, k2⟩
theorem RepL.set {G : Gh} : ∀ {ws : List W} {d : Nat} {vs : List V} (i : Nat) {w : W} {v : V}, RepL G ws d vs → Rep G w d v → RepL G (ws.set i w) d (vs.set i v)
  | [], _, _, _, _, _, h, _ => by unfold RepL at h; rw [h]; exact .nil
  | w :: ws, d, vs, 0, w', v', h, q => by
    unfold RepL at h
    obtain ⟨v, r, e1, h1, h2⟩ := h
    subst e1
    exact .cons q h2
  | w :: ws, d, vs, i + 1, w', v', h, q => by
    unfold RepL at h
    obtain ⟨v, r, e1, h1, h2⟩ := h
    subst e1
    exact .cons h1 (h2.set i q)
theorem RepL.take {G : Gh} : ∀ {ws : List W} {d : Nat} {vs : List V} (n : Nat), RepL G ws d vs → RepL G (ws.take n) d (vs.take n)
  | [], _, _, n, h => by unfold RepL at h; rw [h]; simp only [List.take_nil]; exact .nil
  | w :: ws, d, vs, 0, h => by simp only [List.take_zero]; exact .nil
  | w :: ws, d, vs, n + 1, h => by
    unfold RepL at h
    obtain ⟨v, r, e1, h1, h2⟩ := h
    subst e1
    exact .cons h1 (h2.take n)
theorem RepL.drop {G : Gh} : ∀ {ws : List W} {d : Nat} {vs : List V} (n : Nat), RepL G ws d vs → RepL G (ws.drop n) d (vs.drop n)
  | [], _, _, n, h => by unfold RepL at h; rw [h]; simp only [List.drop_nil]; exact .nil
  | w :: ws, d, vs, 0, h => h
  | w :: ws, d, vs, n + 1, h => by
    unfold RepL at h
    obtain ⟨v, r, e1, h1, h2⟩ := h
    subst e1
    exact h2.drop n
theorem RepL.erase {G : Gh} : ∀ {ws : List W} {d : Nat} {vs : List V} (n : Nat), RepL G ws d vs → RepL G (ws.eraseIdx n) d (vs.eraseIdx n)
  | [], _, _, n, h => by unfold RepL at h; rw [h]; simp only [List.eraseIdx_nil]; exact .nil
  | w :: ws, d, vs, 0, h => by
    unfold RepL at h
    obtain ⟨v, r, e1, h1, h2⟩ := h
    subst e1
    exact h2
  | w :: ws, d, vs, n + 1, h => by
    unfold RepL at h
    obtain ⟨v, r, e1, h1, h2⟩ := h
    subst e1
    exact .cons h1 (h2.erase n)
theorem RepL.cut {G : Gh} {ws : List W} {d : Nat} {vs : List V} (lo hi : Option Int) (h : RepL G ws d vs) : RepL G (cut ws lo hi) d (cutV vs lo hi) := by
  unfold Mi.cut cutV
  rw [h.len]
  exact (h.drop _).take _
theorem RepL.rep {G : Gh} {ws : List W} {d : Nat} {vs : List V} (h : RepL G ws d vs) : ∀ k : Nat, RepL G (List.replicate k ws).flatten d (List.replicate k vs).flatten
  | 0 => .nil
  | k + 1 => by rw [List.replicate_succ, List.replicate_succ, List.flatten_cons, List.flatten_cons]; exact h.append (h.rep k)
theorem RepL.ints {G : Gh} {d : Nat} : ∀ {ws : List W} {ns : List Int} {vs : List V}, RepL G ws d vs → ints? ws = some ns → vs = ns.map V.int
  | [], ns, vs, h, e => by unfold RepL at h; simp [ints?] at e; subst e; rw [h]; rfl
  | w :: ws, ns, vs, h, e => by
    unfold RepL at h
    obtain ⟨v, r, e1, h1, h2⟩ := h
    subst e1
    cases w with
    | int i =>
      simp only [ints?] at e
      cases q : ints? ws with
      | none => rw [q] at e; cases e
      | some ms =>
        rw [q] at e
        cases e
        unfold Rep at h1
        rw [h1, h2.ints q]; rfl
    | _ => simp [ints?] at e
theorem RepL.bls {G : Gh} {d : Nat} : ∀ {ws : List W} {ns : List Bool} {vs : List V}, RepL G ws d vs → bls? ws = some ns → vs = ns.map V.bl
  | [], ns, vs, h, e => by unfold RepL at h; simp [bls?] at e; subst e; rw [h]; rfl
  | w :: ws, ns, vs, h, e => by
    unfold RepL at h
    obtain ⟨v, r, e1, h1, h2⟩ := h
    subst e1
    cases w with
    | bl i =>
      simp only [bls?] at e
      cases q : bls? ws with
      | none => rw [q] at e; cases e
      | some ms =>
        rw [q] at e
        cases e
        unfold Rep at h1
        rw [h1, h2.bls q]; rfl
    | _ => simp [bls?] at e
theorem RepL.strs {G : Gh} {d : Nat} : ∀ {ws : List W} {ns : List Str} {vs : List V}, RepL G ws d vs → strs? ws = some ns → vs = ns.map V.str ∧ ∀ x ∈ ns, PyData.strOk x = true ∧ x.length ≤ sizeLine
  | [], ns, vs, h, e => by unfold RepL at h; simp [strs?] at e; subst e; rw [h]; exact ⟨rfl, fun _ z => nomatch z⟩
  | w :: ws, ns, vs, h, e => by
    unfold RepL at h
    obtain ⟨v, r, e1, h1, h2⟩ := h
    subst e1
    cases w with
    | str i =>
      simp only [strs?] at e
      cases q : strs? ws with
      | none => rw [q] at e; cases e
      | some ms =>
        rw [q] at e
        cases e
        unfold Rep at h1
        obtain ⟨k1, k2⟩ := h2.strs q
        refine ⟨by rw [h1.1, k1]; rfl, fun x hx => ?_⟩
        rcases List.mem_cons.mp hx with rfl | hx
        · exact h1.2
        · exact k2 x hx
    | _ => simp [strs?] at e
theorem RepL.of_strs {G : Gh} {d : Nat} : ∀ {ns : List Str}, (∀ x ∈ ns, PyData.strOk x = true ∧ x.length ≤ sizeLine) → RepL G (ns.map W.str) d (ns.map V.str)
  | [], _ => .nil
  | x :: r, h => .cons (by unfold Rep; exact ⟨rfl, h x List.mem_cons_self⟩) (RepL.of_strs fun y hy => h y (List.mem_cons_of_mem _ hy))
theorem RepL.of_ints {G : Gh} {d : Nat} : ∀ {ns : List Int}, RepL G (ns.map W.int) d (ns.map V.int)
  | [] => .nil
  | x :: r => .cons (by unfold Rep; rfl) RepL.of_ints

/-! ### ownership -/
inductive F3 (R : W → V → List Addr → Prop) : List W → List V → List (List Addr) → Prop
  | nil : F3 R [] [] []
  | cons {w : W} {ws : List W} {v : V} {vs : List V} {s : List Addr} {ss : List (List Addr)} : R w v s → F3 R ws vs ss → F3 R (w :: ws) (v :: vs) (s :: ss)
theorem F3.imp {R R' : W → V → List Addr → Prop} : ∀ {ws : List W} {vs : List V} {ss : List (List Addr)}, F3 R ws vs ss → (∀ w v s, s ∈ ss → R w v s → R' w v s) → F3 R' ws vs ss
  | _, _, _, .nil, _ => .nil
  | _, _, _, .cons h t, f => .cons (f _ _ _ List.mem_cons_self h) (t.imp fun w v s hs => f w v s (List.mem_cons_of_mem _ hs))
theorem F3.rep {G : Gh} {d : Nat} {R : W → V → List Addr → Prop} (f : ∀ w v s, R w v s → Rep G w d v) : ∀ {ws : List W} {vs : List V} {ss : List (List Addr)}, F3 R ws vs ss → RepL G ws d vs
  | _, _, _, .nil => .nil
  | _, _, _, .cons h t => .cons (f _ _ _ h) (F3.rep f t)
/-- w stands at v, its nodes to the depth d are owned: they are S -/
def Own (G : Gh) : Nat → W → V → List Addr → Prop
  | 0, w, v, S => S = [] ∧ Rep G w 0 v
  | d + 1, .lst ws, v, S => ∃ a vs Ss, v = .ref a ∧ G.H a = some (.lst vs) ∧ vs.length ≤ sizeLine ∧ F3 (Own G d) ws vs Ss ∧ S = a :: Ss.flatten
  | d + 1, .dct kvs, v, S => ∃ a xs Ss, v = .ref a ∧ DAt G.H a xs ∧ xs.length ≤ sizeLine ∧ kvs.map (·.1) = xs.map (·.1) ∧ F3 (Own G d) (kvs.map (·.2)) (xs.map (·.2)) Ss ∧ S = a :: Ss.flatten
  | d + 1, w, v, S => S = [] ∧ Rep G w 0 v
theorem flatten_mem {α : Type} {a : α} {s : List α} {ss : List (List α)} (h : s ∈ ss) (ha : a ∈ s) : a ∈ ss.flatten := List.mem_flatten.mpr ⟨s, h, ha⟩
theorem Own.to {G G' : Gh} (t : G.To G') : ∀ {d : Nat} {w : W} {v : V} {S : List Addr}, Own G d w v S → (∀ a o, a ∈ S → G.H a = some o → G'.H a = some o) → Own G' d w v S
  | 0, w, v, S, h, _ => by
    unfold Own at h ⊢
    exact ⟨h.1, h.2.to t⟩
  | d + 1, .lst ws, v, S, h, hs => by
    unfold Own at h ⊢
    obtain ⟨a, vs, Ss, e, h1, h2, h3, h4⟩ := h
    subst h4
    exact ⟨a, vs, Ss, e, hs _ _ List.mem_cons_self h1, h2, h3.imp fun w v s hm q => Own.to t q fun a o ha => hs a o (List.mem_cons_of_mem _ (flatten_mem hm ha)), rfl⟩
  | d + 1, .dct ws, v, S, h, hs => by
    unfold Own at h ⊢
    obtain ⟨a, vs, Ss, e, h1, h2, h3, h5, h4⟩ := h
    subst h4
    exact ⟨a, vs, Ss, e, h1.to fun o q => hs _ _ List.mem_cons_self q, h2, h3, h5.imp fun w v s hm q => Own.to t q fun a o ha => hs a o (List.mem_cons_of_mem _ (flatten_mem hm ha)), rfl⟩
  | d + 1, .non, v, S, h, _ => by unfold Own at h ⊢; exact ⟨h.1, h.2.to t⟩
  | d + 1, .bl _, v, S, h, _ => by unfold Own at h ⊢; exact ⟨h.1, h.2.to t⟩
  | d + 1, .int _, v, S, h, _ => by unfold Own at h ⊢; exact ⟨h.1, h.2.to t⟩
  | d + 1, .str _, v, S, h, _ => by unfold Own at h ⊢; exact ⟨h.1, h.2.to t⟩
  | d + 1, .tup _, v, S, h, _ => by unfold Own at h ⊢; exact ⟨h.1, h.2.to t⟩
  | d + 1, .frz _, v, S, h, _ => by unfold Own at h ⊢; exact ⟨h.1, h.2.to t⟩
  | d + 1, .loc _, v, S, h, _ => by unfold Own at h ⊢; exact ⟨h.1, h.2.to t⟩
theorem RepD.of {G : Gh} {d : Nat} : ∀ {kvs : List (Ky × W)} {xs : List (Ky × V)}, kvs.map (·.1) = xs.map (·.1) → RepL G (kvs.map (·.2)) d (xs.map (·.2)) → RepD G kvs d xs
  | [], [], _, _ => by unfold RepD; rfl
  | [], _ :: _, h, _ => by simp at h
  | _ :: _, [], h, _ => by simp at h
  | (k, w) :: r, (k', v) :: r', h, q => by
    simp only [List.map_cons, List.cons.injEq] at h
    rw [List.map_cons, List.map_cons] at q
    unfold RepL at q
    obtain ⟨v', r2, e, q1, q2⟩ := q
    cases e
    unfold RepD
    refine ⟨(k', v), r', rfl, ?_, RepD.of h.2 q2⟩
    unfold RepP
    exact ⟨h.1.symm, q1⟩
theorem RepD.keys {G : Gh} {d : Nat} : ∀ {kvs : List (Ky × W)} {xs : List (Ky × V)}, RepD G kvs d xs → kvs.map (·.1) = xs.map (·.1) ∧ RepL G (kvs.map (·.2)) d (xs.map (·.2))
  | [], xs, h => by unfold RepD at h; subst h; exact ⟨rfl, .nil⟩
  | (k, w) :: r, xs, h => by
    unfold RepD at h
    obtain ⟨⟨k', v⟩, r', e, h1, h2⟩ := h
    subst e
    unfold RepP at h1
    obtain ⟨i1, i2⟩ := h2.keys
    obtain ⟨e1, e2⟩ := h1
    have e1 : k' = k := e1
    subst e1
    exact ⟨by simp [i1], .cons e2 i2⟩
/-- what is owned, read: its nodes need not be shunned -/
theorem Own.rep {G : Gh} (hb : ∀ a, G.B1 a → G.B0 a) : ∀ {d : Nat} {w : W} {v : V} {S : List Addr}, Own G d w v S → (∀ a ∈ S, ¬ G.B1 a) → Rep G w d v
  | 0, w, v, S, h, _ => by unfold Own at h; exact h.2
  | d + 1, .lst ws, v, S, h, hs => by
    unfold Own at h
    obtain ⟨a, vs, Ss, e, h1, h2, h3, h4⟩ := h
    subst h4
    unfold Rep
    refine ⟨a, vs, e, h1, ?_, h2, ?_⟩
    · unfold Gh.ok; rw [if_neg (by omega)]; exact hs a List.mem_cons_self
    · rw [Nat.add_sub_cancel]
      have h3' : F3 (fun w v s => Own G d w v s ∧ ∀ a ∈ s, ¬ G.B1 a) ws vs Ss := h3.imp fun w v s hm q => ⟨q, fun a ha => hs a (List.mem_cons_of_mem _ (flatten_mem hm ha))⟩
      exact F3.rep (fun w v s q => Own.rep hb q.1 q.2) h3'
  | d + 1, .dct ws, v, S, h, hs => by
    unfold Own at h
    obtain ⟨a, vs, Ss, e, h1, h2, h3, h5, h4⟩ := h
    subst h4
    unfold Rep
    refine ⟨a, vs, e, .inl h1, ?_, h2, ?_⟩
    · unfold Gh.ok; rw [if_neg (by omega)]; exact hs a List.mem_cons_self
    · rw [Nat.add_sub_cancel]
      have h3' : F3 (fun w v s => Own G d w v s ∧ ∀ a ∈ s, ¬ G.B1 a) (ws.map (·.2)) (vs.map (·.2)) Ss := h5.imp fun w v s hm q => ⟨q, fun a ha => hs a (List.mem_cons_of_mem _ (flatten_mem hm ha))⟩
      exact RepD.of h3 (F3.rep (fun w v s q => Own.rep hb q.1 q.2) h3')
  | d + 1, .non, v, S, h, _ => by unfold Own at h; exact h.2.mono hb (by omega)
  | d + 1, .bl _, v, S, h, _ => by unfold Own at h; exact h.2.mono hb (by omega)
  | d + 1, .int _, v, S, h, _ => by unfold Own at h; exact h.2.mono hb (by omega)
  | d + 1, .str _, v, S, h, _ => by unfold Own at h; exact h.2.mono hb (by omega)
  | d + 1, .tup _, v, S, h, _ => by unfold Own at h; exact h.2.mono hb (by omega)
  | d + 1, .frz _, v, S, h, _ => by unfold Own at h; exact h.2.mono hb (by omega)
  | d + 1, .loc _, v, S, h, _ => by unfold Own at h; exact h.2.mono hb (by omega)
theorem Own.rep0 {G : Gh} (hb : ∀ a, G.B1 a → G.B0 a) : ∀ {d : Nat} {w : W} {v : V} {S : List Addr}, Own G d w v S → (∀ a ∈ S, ¬ G.B0 a) → Rep G w 0 v
  | 0, w, v, S, h, _ => by unfold Own at h; exact h.2
  | d + 1, .lst ws, v, S, h, hs => by
    unfold Own at h
    obtain ⟨a, vs, Ss, e, h1, h2, h3, h4⟩ := h
    subst h4
    unfold Rep
    refine ⟨a, vs, e, h1, ?_, h2, ?_⟩
    · unfold Gh.ok; rw [if_pos rfl]; exact hs a List.mem_cons_self
    · have h3' : F3 (fun w v s => Own G d w v s ∧ ∀ a ∈ s, ¬ G.B0 a) ws vs Ss := h3.imp fun w v s hm q => ⟨q, fun a ha => hs a (List.mem_cons_of_mem _ (flatten_mem hm ha))⟩
      exact F3.rep (fun w v s q => Own.rep0 hb q.1 q.2) h3'
  | d + 1, .dct ws, v, S, h, hs => by
    unfold Own at h
    obtain ⟨a, vs, Ss, e, h1, h2, h3, h5, h4⟩ := h
    subst h4
    unfold Rep
    refine ⟨a, vs, e, .inl h1, ?_, h2, ?_⟩
    · unfold Gh.ok; rw [if_pos rfl]; exact hs a List.mem_cons_self
    · have h3' : F3 (fun w v s => Own G d w v s ∧ ∀ a ∈ s, ¬ G.B0 a) (ws.map (·.2)) (vs.map (·.2)) Ss := h5.imp fun w v s hm q => ⟨q, fun a ha => hs a (List.mem_cons_of_mem _ (flatten_mem hm ha))⟩
      exact RepD.of h3 (F3.rep (fun w v s q => Own.rep0 hb q.1 q.2) h3')
  | d + 1, .non, v, S, h, _ => by unfold Own at h; exact h.2
  | d + 1, .bl _, v, S, h, _ => by unfold Own at h; exact h.2
  | d + 1, .int _, v, S, h, _ => by unfold Own at h; exact h.2
  | d + 1, .str _, v, S, h, _ => by unfold Own at h; exact h.2
  | d + 1, .tup _, v, S, h, _ => by unfold Own at h; exact h.2
  | d + 1, .frz _, v, S, h, _ => by unfold Own at h; exact h.2
  | d + 1, .loc _, v, S, h, _ => by unfold Own at h; exact h.2
theorem F3.tr {P : Addr → Prop} : ∀ {ws : List W} {vs : List V} {ss : List (List Addr)}, F3 (fun _ _ s => ∀ a ∈ s, P a) ws vs ss → ∀ a ∈ ss.flatten, P a
  | _, _, _, .nil, a, h => by simp at h
  | _, _, _, .cons h t, a, ha => by
    rw [List.flatten_cons] at ha
    rcases List.mem_append.mp ha with ha | ha
    · exact h a ha
    · exact t.tr a ha
/-- an owned node stands in the heap -/
theorem Own.tracked {G : Gh} : ∀ {d : Nat} {w : W} {v : V} {S : List Addr}, Own G d w v S → ∀ a ∈ S, ∃ o, G.H a = some o
  | 0, w, v, S, h, a, ha => by unfold Own at h; rw [h.1] at ha; cases ha
  | d + 1, .lst ws, v, S, h, b, hb => by
    unfold Own at h
    obtain ⟨a, vs, Ss, e, h1, h2, h3, h4⟩ := h
    subst h4
    rcases List.mem_cons.mp hb with rfl | hb
    · exact ⟨_, h1⟩
    · exact (h3.imp (R' := fun _ _ s => ∀ a ∈ s, ∃ o, G.H a = some o) fun w v s _ q => Own.tracked q).tr b hb
  | d + 1, .dct ws, v, S, h, b, hb => by
    unfold Own at h
    obtain ⟨a, vs, Ss, e, h1, h2, h3, h5, h4⟩ := h
    subst h4
    rcases List.mem_cons.mp hb with rfl | hb
    · exact h1.some
    · exact (h5.imp (R' := fun _ _ s => ∀ a ∈ s, ∃ o, G.H a = some o) fun w v s _ q => Own.tracked q).tr b hb
  | d + 1, .non, v, S, h, a, ha => by unfold Own at h; rw [h.1] at ha; cases ha
  | d + 1, .bl _, v, S, h, a, ha => by unfold Own at h; rw [h.1] at ha; cases ha
  | d + 1, .int _, v, S, h, a, ha => by unfold Own at h; rw [h.1] at ha; cases ha
  | d + 1, .str _, v, S, h, a, ha => by unfold Own at h; rw [h.1] at ha; cases ha
  | d + 1, .tup _, v, S, h, a, ha => by unfold Own at h; rw [h.1] at ha; cases ha
  | d + 1, .frz _, v, S, h, a, ha => by unfold Own at h; rw [h.1] at ha; cases ha
  | d + 1, .loc _, v, S, h, a, ha => by unfold Own at h; rw [h.1] at ha; cases ha
end Mi
end Mi2_

section Mi3_
set_option linter.all false
set_option Elab.async false
/-! Mi3: the state's relation; what an expression's reading asks. -/
namespace Mi
open PySem PySem.Spec PyProof.Rows L2

def allB (C : Addr → Prop) (Fp : List (List Addr)) (mu : List Addr) (a : Addr) : Prop := a ∈ mu ∨ a ∈ Fp.flatten ∨ C a
/-- for slots; for values in the making -/
abbrev gS (K : PySem.W.Frag) (H : Hp) (C : Addr → Prop) (Fp : List (List Addr)) (mu : List Addr) : Gh := ⟨K, H, mu, allB C Fp mu, fun a => a ∈ mu ∨ a ∈ Fp.flatten⟩
abbrev gT (K : PySem.W.Frag) (H : Hp) (C : Addr → Prop) (Fp : List (List Addr)) (mu : List Addr) : Gh := ⟨K, H, mu, allB C Fp mu, fun a => a ∈ mu⟩
def Sl (G : Gh) (ov : Option V) (g : Fg) (w : W) (S : List Addr) : Prop :=
  match g with
  | .pl => ∃ v, ov = some v ∧ Rep G w 0 v
  | .bo d => ∃ v, ov = some v ∧ Rep G w d v
  | .ow d => ∃ v, ov = some v ∧ Own G d w v S
  | .lk d => ∃ v, ov = some v ∧ Own G d w v S
  | .dd => True

/-- no tuple: what may be owned, or stands in the making -/
def NT : HO → Prop
  | .tup _ => False
  | _ => True
theorem dat_somen {H : Hp} {a : Addr} {xs : List (Ky × V)} (h : DAt H a xs) : ∃ o, H a = some o ∧ NT o := by
  rcases h with ⟨ys, e, q⟩ | ⟨ys, e, q⟩
  · exact ⟨_, e, True.intro⟩
  · exact ⟨_, e, True.intro⟩
/-- .. and is no tuple -/
theorem Own.ntr {G : Gh} : ∀ {d : Nat} {w : W} {v : V} {S : List Addr}, Own G d w v S → ∀ a ∈ S, ∃ o, G.H a = some o ∧ NT o
  | 0, w, v, S, h, a, ha => by unfold Own at h; rw [h.1] at ha; cases ha
  | d + 1, .lst ws, v, S, h, b, hb => by
    unfold Own at h
    obtain ⟨a, vs, Ss, e, h1, h2, h3, h4⟩ := h
    subst h4
    rcases List.mem_cons.mp hb with rfl | hb
    · exact ⟨_, h1, True.intro⟩
    · exact (h3.imp (R' := fun _ _ s => ∀ a ∈ s, ∃ o, G.H a = some o ∧ NT o) fun w v s _ q => Own.ntr q).tr b hb
  | d + 1, .dct ws, v, S, h, b, hb => by
    unfold Own at h
    obtain ⟨a, vs, Ss, e, h1, h2, h3, h5, h4⟩ := h
    subst h4
    rcases List.mem_cons.mp hb with rfl | hb
    · exact dat_somen h1
    · exact (h5.imp (R' := fun _ _ s => ∀ a ∈ s, ∃ o, G.H a = some o ∧ NT o) fun w v s _ q => Own.ntr q).tr b hb
  | d + 1, .non, v, S, h, a, ha => by unfold Own at h; rw [h.1] at ha; cases ha
  | d + 1, .bl _, v, S, h, a, ha => by unfold Own at h; rw [h.1] at ha; cases ha
  | d + 1, .int _, v, S, h, a, ha => by unfold Own at h; rw [h.1] at ha; cases ha
  | d + 1, .str _, v, S, h, a, ha => by unfold Own at h; rw [h.1] at ha; cases ha
  | d + 1, .tup _, v, S, h, a, ha => by unfold Own at h; rw [h.1] at ha; cases ha
  | d + 1, .frz _, v, S, h, a, ha => by unfold Own at h; rw [h.1] at ha; cases ha
  | d + 1, .loc _, v, S, h, a, ha => by unfold Own at h; rw [h.1] at ha; cases ha
structure SR (K : PySem.W.Frag) (C : Addr → Prop) (fl : List Fg) (ρ : Env) (M : List W) (σ : L2.St) (H : Hp) (Fp : List (List Addr)) (mu : List Addr) : Prop where
  lr : ρ.length = σ.length
  lp : σ.length ≤ Fp.length
  lf : fl.length = σ.length
  nd : (mu ++ Fp.flatten).Nodup
  cd : ∀ a, a ∈ mu ++ Fp.flatten → ¬ C a
  ct' : ∀ a, C a → ∃ o, H a = some o ∧ NT o
  tr' : ∀ a, a ∈ mu ++ Fp.flatten → ∃ o, H a = some o ∧ NT o
  cl : M.length = mu.length
  ce : ∀ (n : Nat) (w : W) (a : Addr), M[n]? = some w → mu[n]? = some a → Own (gT K H C Fp mu) 1 w (.ref a) [a]
  sl : ∀ (i : Nat) (g : Fg) (w : W), fl[i]? = some g → ρ[i]? = some (some w) → Sl (gS K H C Fp mu) (σ[i]?.join) g w (Fp[i]?.getD [])

theorem SR.ct {K : PySem.W.Frag} {C : Addr → Prop} {fl : List Fg} {ρ : Env} {M : List W} {σ : L2.St} {H : Hp} {Fp : List (List Addr)} {mu : List Addr} (s : SR K C fl ρ M σ H Fp mu) : ∀ a, C a → ∃ o, H a = some o := fun a h => (s.ct' a h).imp fun _ h => h.1
theorem SR.tr {K : PySem.W.Frag} {C : Addr → Prop} {fl : List Fg} {ρ : Env} {M : List W} {σ : L2.St} {H : Hp} {Fp : List (List Addr)} {mu : List Addr} (s : SR K C fl ρ M σ H Fp mu) : ∀ a, a ∈ mu ++ Fp.flatten → ∃ o, H a = some o := fun a h => (s.tr' a h).imp fun _ h => h.1
/-- a tuple is neither owned nor in the making -/
theorem SR.tups {K : PySem.W.Frag} {C : Addr → Prop} {fl : List Fg} {ρ : Env} {M : List W} {σ : L2.St} {H : Hp} {Fp : List (List Addr)} {mu : List Addr} (s : SR K C fl ρ M σ H Fp mu) {a : Addr} {vs : List V} (h : H a = some (.tup vs)) : ¬ allB C Fp mu a := by
  have no : ∀ o, H a = some o → ¬ NT o := fun o e z => by rw [h] at e; cases e; exact z
  rintro (z | z | z)
  · obtain ⟨o, e, n⟩ := s.tr' a (List.mem_append_left _ z); exact no o e n
  · obtain ⟨o, e, n⟩ := s.tr' a (List.mem_append_right _ z); exact no o e n
  · obtain ⟨o, e, n⟩ := s.ct' a z; exact no o e n
section
variable {K : PySem.W.Frag} {C C' C1 C2 : Addr → Prop} {fl : List Fg} {ρ : Env} {M M' M1 M2 : List W} {σ : L2.St} {H H' H1 H2 : Hp} {Fp : List (List Addr)} {mu mu' mu1 mu2 : List Addr}

theorem gS_gT : (gS K H C Fp mu).To (gT K H C Fp mu) := ⟨rfl, fun _ _ h k => ⟨h, k⟩, fun _ _ h k => ⟨h, fun z => k (.inl z)⟩, fun _ _ h => h⟩
theorem gT_b : ∀ a, (gT K H C Fp mu).B1 a → (gT K H C Fp mu).B0 a := fun _ h => .inl h
theorem gS_b : ∀ a, (gS K H C Fp mu).B1 a → (gS K H C Fp mu).B0 a := fun _ h => h.elim .inl fun z => .inr (.inl z)

/-- what a step leaves -/
structure Po (K : PySem.W.Frag) (fl : List Fg) (ρ : Env) (σ : L2.St) (Fp : List (List Addr)) (C : Addr → Prop) (H : Hp) (mu : List Addr) (C' : Addr → Prop) (M' : List W) (H' : Hp) (mu' : List Addr) : Prop where
  ext : ∀ a o, H a = some o → a ∉ mu → H' a = some o
  pre : ∃ more, mu' = mu ++ more ∧ ∀ a ∈ more, H a = none
  cf : ∀ a, C' a → C a ∨ H a = none
  cs : ∀ a, C a → C' a
  sr : SR K C' fl ρ M' σ H' Fp mu'

theorem Po.mum (p : Po K fl ρ σ Fp C H mu C' M' H' mu') : ∀ a, a ∈ mu → a ∈ mu' := fun a h => by
  obtain ⟨m, e, _⟩ := p.pre
  rw [e]; exact List.mem_append_left _ h
theorem Po.mur (p : Po K fl ρ σ Fp C H mu C' M' H' mu') {a : Addr} {o : HO} (h : H a = some o) (z : a ∈ mu') : a ∈ mu := by
  obtain ⟨m, e, q⟩ := p.pre
  rw [e] at z
  rcases List.mem_append.mp z with z | z
  · exact z
  · rw [q a z] at h; cases h
theorem Po.toT (p : Po K fl ρ σ Fp C H mu C' M' H' mu') : (gT K H C Fp mu).To (gT K H' C' Fp mu') := by
  refine ⟨rfl, fun a o h k => ⟨p.ext a o h fun z => k (.inl z), fun z => ?_⟩, fun a o h k => ⟨p.ext a o h k, fun z => k (p.mur h z)⟩, fun n a h => ?_⟩
  · rcases z with z | z | z
    · exact k (.inl (p.mur h z))
    · exact k (.inr (.inl z))
    · rcases p.cf a z with z | z
      · exact k (.inr (.inr z))
      · have h : H a = some o := h
        rw [h] at z; cases z
  · obtain ⟨m, e, _⟩ := p.pre
    have h : mu[n]? = some a := h
    show mu'[n]? = some a
    have hn : n < mu.length := (List.getElem?_eq_some_iff.mp h).1
    rw [e, List.getElem?_append_left hn]; exact h
theorem Po.refl (s : SR K C fl ρ M σ H Fp mu) : Po K fl ρ σ Fp C H mu C M H mu :=
  ⟨fun _ _ h _ => h, ⟨[], by simp, fun _ h => nomatch h⟩, fun _ h => .inl h, fun _ h => h, s⟩
theorem Po.trans (p : Po K fl ρ σ Fp C H mu C1 M1 H1 mu1) (q : Po K fl ρ σ Fp C1 H1 mu1 C2 M2 H2 mu2) : Po K fl ρ σ Fp C H mu C2 M2 H2 mu2 := by
  have back : ∀ a, a ∉ mu → H1 a = none → H a = none := fun a hm e => by
    cases z : H a with
    | none => rfl
    | some o => rw [p.ext a o z hm] at e; cases e
  have inmu : ∀ a, H1 a = none → H a = none := fun a e => by
    by_cases hm : a ∈ mu
    · obtain ⟨o, z⟩ := p.sr.tr a (List.mem_append_left _ (p.mum a hm))
      rw [e] at z; cases z
    · exact back a hm e
  refine ⟨fun a o h hm => q.ext a o (p.ext a o h hm) fun z => hm (p.mur h z), ?_, fun a z => ?_, fun a z => q.cs a (p.cs a z), q.sr⟩
  · obtain ⟨m1, e1, k1⟩ := p.pre
    obtain ⟨m2, e2, k2⟩ := q.pre
    refine ⟨m1 ++ m2, by rw [e2, e1, List.append_assoc], fun a ha => ?_⟩
    rcases List.mem_append.mp ha with ha | ha
    · exact k1 a ha
    · exact inmu a (k2 a ha)
  · rcases q.cf a z with z | z
    · exact p.cf a z
    · exact .inr (inmu a z)
/-- less is shunned -/
theorem SR.weak (s : SR K C' fl ρ M σ H Fp mu) (h : ∀ a, C a → C' a) : SR K C fl ρ M σ H Fp mu := by
  have t : (gT K H C' Fp mu).To (gT K H C Fp mu) := ⟨rfl, fun _ _ e k => ⟨e, fun z => k (z.elim .inl fun z => z.elim (fun z => .inr (.inl z)) fun z => .inr (.inr (h _ z)))⟩, fun _ _ e k => ⟨e, k⟩, fun _ _ e => e⟩
  have t2 : (gS K H C' Fp mu).To (gS K H C Fp mu) := ⟨rfl, fun _ _ e k => ⟨e, fun z => k (z.elim .inl fun z => z.elim (fun z => .inr (.inl z)) fun z => .inr (.inr (h _ z)))⟩, fun _ _ e k => ⟨e, k⟩, fun _ _ e => e⟩
  refine ⟨s.lr, s.lp, s.lf, s.nd, fun a z c => s.cd a z (h a c), fun a c => s.ct' a (h a c), s.tr', s.cl, fun n w a e1 e2 => (s.ce n w a e1 e2).to t fun _ _ _ q => q, fun i g w e1 e2 => ?_⟩
  have q := s.sl i g w e1 e2
  cases g with
  | pl => obtain ⟨v, e, r⟩ := q; exact ⟨v, e, r.to t2⟩
  | bo d => obtain ⟨v, e, r⟩ := q; exact ⟨v, e, r.to t2⟩
  | ow d => obtain ⟨v, e, r⟩ := q; exact ⟨v, e, r.to t2 fun _ _ _ q => q⟩
  | lk d => obtain ⟨v, e, r⟩ := q; exact ⟨v, e, r.to t2 fun _ _ _ q => q⟩
  | dd => trivial
theorem Po.weak (p : Po K fl ρ σ Fp C H mu C' M' H' mu') (h : ∀ a, C a → C1 a) (h1 : ∀ a, C1 a → C' a) : Po K fl ρ σ Fp C H mu C1 M' H' mu' :=
  ⟨p.ext, p.pre, fun a z => p.cf a (h1 a z), h, p.sr.weak h1⟩
/-- something new is laid, and shunned -/
theorem SR.fresh (s : SR K C fl ρ M σ H Fp mu) {p : Addr} {o : HO} (hp : H p = none) (hn : NT o) : SR K (fun a => C a ∨ a ∈ [p]) fl ρ M σ (upd H p o) Fp mu := by
  have ne : ∀ a o', H a = some o' → a ≠ p := fun a o' e z => by rw [z, hp] at e; cases e
  have up : ∀ a o', H a = some o' → upd H p o a = some o' := fun a o' e => by rw [upd_ne (ne a o' e)]; exact e
  have t : (gT K H C Fp mu).To (gT K (upd H p o) (fun a => C a ∨ a ∈ [p]) Fp mu) := ⟨rfl, fun a o' e k => ⟨up a o' e, fun z => by
    rcases z with z | z | z | z
    · exact k (.inl z)
    · exact k (.inr (.inl z))
    · exact k (.inr (.inr z))
    · exact ne a o' e (by simpa using z)⟩, fun a o' e k => ⟨up a o' e, k⟩, fun _ _ e => e⟩
  have t2 : (gS K H C Fp mu).To (gS K (upd H p o) (fun a => C a ∨ a ∈ [p]) Fp mu) := ⟨rfl, fun a o' e k => ⟨up a o' e, fun z => by
    rcases z with z | z | z | z
    · exact k (.inl z)
    · exact k (.inr (.inl z))
    · exact k (.inr (.inr z))
    · exact ne a o' e (by simpa using z)⟩, fun a o' e k => ⟨up a o' e, k⟩, fun _ _ e => e⟩
  refine ⟨s.lr, s.lp, s.lf, s.nd, fun a z c => ?_, fun a c => ?_, fun a z => ?_, s.cl, fun n w a e1 e2 => (s.ce n w a e1 e2).to t fun a o' _ q => up a o' q, fun i g w e1 e2 => ?_⟩
  · rcases c with c | c
    · exact s.cd a z c
    · obtain ⟨o', e⟩ := s.tr a z
      exact ne a o' e (by simpa using c)
  · rcases c with c | c
    · obtain ⟨o', e, n⟩ := s.ct' a c
      exact ⟨o', up a o' e, n⟩
    · have e : a = p := by simpa using c
      exact ⟨o, by rw [e, upd_same], hn⟩
  · obtain ⟨o', e, n⟩ := s.tr' a z
    exact ⟨o', up a o' e, n⟩
  · have q := s.sl i g w e1 e2
    cases g with
    | pl => obtain ⟨v, e, r⟩ := q; exact ⟨v, e, r.to t2⟩
    | bo d => obtain ⟨v, e, r⟩ := q; exact ⟨v, e, r.to t2⟩
    | ow d => obtain ⟨v, e, r⟩ := q; exact ⟨v, e, r.to t2 fun a o' _ q => up a o' q⟩
    | lk d => obtain ⟨v, e, r⟩ := q; exact ⟨v, e, r.to t2 fun a o' _ q => up a o' q⟩
    | dd => trivial
theorem Po.fresh (s : SR K C fl ρ M σ H Fp mu) {p : Addr} {o : HO} (hp : H p = none) (hn : NT o) : Po K fl ρ σ Fp C H mu (fun a => C a ∨ a ∈ [p]) M (upd H p o) mu :=
  ⟨fun a o' e _ => by rw [upd_ne (fun z => by rw [z, hp] at e; cases e)]; exact e, ⟨[], by simp, fun _ h => nomatch h⟩, fun a z => z.elim .inl fun z => .inr (List.mem_singleton.mp z ▸ hp), fun _ h => .inl h, s.fresh hp hn⟩

/-- .. and is to stand -/
theorem Po.laid (s : SR K C fl ρ M σ H Fp mu) {p : Addr} {o : HO} (hp : H p = none) : Po K fl ρ σ Fp C H mu C M (upd H p o) mu := by
  have ne : ∀ a o', H a = some o' → a ≠ p := fun a o' e z => by rw [z, hp] at e; cases e
  have up : ∀ a o', H a = some o' → upd H p o a = some o' := fun a o' e => by rw [upd_ne (ne a o' e)]; exact e
  have t : (gT K H C Fp mu).To (gT K (upd H p o) C Fp mu) := ⟨rfl, fun a o' e k => ⟨up a o' e, k⟩, fun a o' e k => ⟨up a o' e, k⟩, fun _ _ e => e⟩
  have t2 : (gS K H C Fp mu).To (gS K (upd H p o) C Fp mu) := ⟨rfl, fun a o' e k => ⟨up a o' e, k⟩, fun a o' e k => ⟨up a o' e, k⟩, fun _ _ e => e⟩
  refine ⟨fun a o' e _ => up a o' e, ⟨[], by simp, fun _ h => nomatch h⟩, fun a z => .inl z, fun _ h => h, s.lr, s.lp, s.lf, s.nd, s.cd, fun a c => ?_, fun a z => ?_, s.cl, fun n w a e1 e2 => (s.ce n w a e1 e2).to t fun a o' _ q => up a o' q, fun i g w e1 e2 => ?_⟩
  · obtain ⟨o', e, n⟩ := s.ct' a c
    exact ⟨o', up a o' e, n⟩
  · obtain ⟨o', e, n⟩ := s.tr' a z
    exact ⟨o', up a o' e, n⟩
  · have q := s.sl i g w e1 e2
    cases g with
    | pl => obtain ⟨v, e, r⟩ := q; exact ⟨v, e, r.to t2⟩
    | bo d => obtain ⟨v, e, r⟩ := q; exact ⟨v, e, r.to t2⟩
    | ow d => obtain ⟨v, e, r⟩ := q; exact ⟨v, e, r.to t2 fun a o' _ q => up a o' q⟩
    | lk d => obtain ⟨v, e, r⟩ := q; exact ⟨v, e, r.to t2 fun a o' _ q => up a o' q⟩
    | dd => trivial

theorem DAt.nt {H : Hp} {p : Addr} {o : HO} {xs : List (Ky × V)} (h : DAt (upd H p o) p xs) : NT o := by
  rcases h with ⟨ys, e, _⟩ | ⟨ys, e, _⟩
  · rw [upd_same] at e; cases e; trivial
  · rw [upd_same] at e; cases e; trivial
/-! ### readings -/
def Val (lv : Lv) (G : Gh) (w : W) (v : V) (S : List Addr) : Prop :=
  match lv with
  | .t n => S = [] ∧ Rep G w n v
  | .f n => Own G n w v S
/-- the classes of errors by their numbers -/
abbrev CM := Nat → Option Addr
def ExcOk (cm : CM) (x : Exn) (cls : Value) (d : Option Addr) : Prop := x.arg.isNone ∧ d = none ∧ ∃ a, cm x.cls = some a ∧ cls = .ref a

structure Wish where
  K : PySem.W.Frag
  cm : CM
  W : WX
/-- an expression's value with its level -/
def OutV (w : Wish) (fl : List Fg) (lv : Lv) (ρ : Env) (σ : L2.St) (Fp : List (List Addr)) (C : Addr → Prop) (H : Hp) (mu : List Addr) (r : R Mi.W) (Q : VK) : Prop :=
  match r with
  | .ok x M' => ∀ v H' mu' S, Po w.K fl ρ σ Fp C H mu (fun a => C a ∨ a ∈ S) M' H' mu' → S.Nodup → (∀ a ∈ S, H a = none) → Val lv (gT w.K H' (fun a => C a ∨ a ∈ S) Fp mu') x v S → Q v H'
  | .ex x M' => ∀ H' mu', Po w.K fl ρ σ Fp C H mu C M' H' mu' → ∀ cls d, ExcOk w.cm x cls d → w.W cls d σ H'
  | .no => False
/-- .. read to the depth d -/
def OutR (w : Wish) (fl : List Fg) (d : Nat) (ρ : Env) (σ : L2.St) (Fp : List (List Addr)) (C : Addr → Prop) (H : Hp) (mu : List Addr) (r : R Mi.W) (Q : VK) : Prop :=
  match r with
  | .ok x M' => ∀ v H' mu', Po w.K fl ρ σ Fp C H mu C M' H' mu' → Rep (gT w.K H' C Fp mu') x d v → Q v H'
  | .ex x M' => ∀ H' mu', Po w.K fl ρ σ Fp C H mu C M' H' mu' → ∀ cls d, ExcOk w.cm x cls d → w.W cls d σ H'
  | .no => False
def OutL (w : Wish) (fl : List Fg) (ds : List Nat) (ρ : Env) (σ : L2.St) (Fp : List (List Addr)) (C : Addr → Prop) (H : Hp) (mu : List Addr) (r : R (List Mi.W)) (Q : List V → Hp → Prop) : Prop :=
  match r with
  | .ok xs M' => ∀ vs H' mu', Po w.K fl ρ σ Fp C H mu C M' H' mu' → (ds.length = xs.length ∧ vs.length = xs.length ∧ ∀ (i : Nat) (x : Mi.W) (v : V) (d : Nat), xs[i]? = some x → vs[i]? = some v → ds[i]? = some d → Rep (gT w.K H' C Fp mu') x d v) → Q vs H'
  | .ex x M' => ∀ H' mu', Po w.K fl ρ σ Fp C H mu C M' H' mu' → ∀ cls d, ExcOk w.cm x cls d → w.W cls d σ H'
  | .no => False
def OutB (w : Wish) (fl : List Fg) (ρ : Env) (σ : L2.St) (Fp : List (List Addr)) (C : Addr → Prop) (H : Hp) (mu : List Addr) (r : R Bool) (Q : Bool → Hp → Prop) : Prop :=
  match r with
  | .ok b M' => ∀ H' mu', Po w.K fl ρ σ Fp C H mu C M' H' mu' → Q b H'
  | .ex x M' => ∀ H' mu', Po w.K fl ρ σ Fp C H mu C M' H' mu' → ∀ cls d, ExcOk w.cm x cls d → w.W cls d σ H'
  | .no => False
/-- with some state -/
def At (K : PySem.W.Frag) (fl : List Fg) (σ : L2.St) (H : Hp) (k : Env → List W → List (List Addr) → (Addr → Prop) → List Addr → Prop) : Prop :=
  ∃ (C : Addr → Prop) (ρ : Env) (M : List W) (Fp : List (List Addr)) (mu : List Addr), SR K C fl ρ M σ H Fp mu ∧ k ρ M Fp C mu
variable (cl : Nat → List W → List W → R W) (w : Wish) (fl : List Fg)
def TV (lv : Lv) (e : E) : TE := fun σ H Q => At w.K fl σ H fun ρ M Fp C mu => OutV w fl lv ρ σ Fp C H mu (ev cl e ρ M) Q
def TR (d : Nat) (e : E) : TE := fun σ H Q => At w.K fl σ H fun ρ M Fp C mu => OutR w fl d ρ σ Fp C H mu (ev cl e ρ M) Q
def TL (ds : List Nat) (es : List E) : TA := fun σ H Q => At w.K fl σ H fun ρ M Fp C mu => OutL w fl ds ρ σ Fp C H mu (evs cl es ρ M) Q
def TB (t : T) : TT := fun σ H Q => At w.K fl σ H fun ρ M Fp C mu => OutB w fl ρ σ Fp C H mu (evT cl t ρ M) Q
end
theorem PE.weak {X : Cx} {e : Expr} {t t' : TE} (h : PE X e t) (w : ∀ σ H Q, t' σ H Q → t σ H Q) : PE X e t' := ⟨fun pins s σ H Q I q => h.run pins s σ H Q I (w σ H Q q)⟩
theorem PT.weak {X : Cx} {e : Expr} {t t' : TT} (h : PT X e t) (w : ∀ σ H Q, t' σ H Q → t σ H Q) : PT X e t' := ⟨fun pins s σ H Q I q => h.run pins s σ H Q I (w σ H Q q)⟩
theorem PW.weak {X : Cx} {e : Expr} {t t' : TT} (h : PW X e t) (w : ∀ σ H Q, t' σ H Q → t σ H Q) : PW X e t' := ⟨fun wh pins s σ H Q I q => h.run wh pins s σ H Q I (w σ H Q q)⟩
theorem PA.weak {X : Cx} {e : List Expr} {t t' : TA} (h : PA X e t) (w : ∀ σ H Q, t' σ H Q → t σ H Q) : PA X e t' := ⟨fun pos pins s σ H Q I q => h.run pos pins s σ H Q I (w σ H Q q)⟩
theorem PS.weak {X : Cx} {e : Stmt} {t t' : TS} (h : PS X e t) (w : ∀ D σ H, t' D σ H → t D σ H) : PS X e t' := ⟨fun pins s σ H D I q => h.run pins s σ H D I (w D σ H q)⟩
theorem PSs.weak {X : Cx} {e : List Stmt} {t t' : TS} (h : PSs X e t) (w : ∀ D σ H, t' D σ H → t D σ H) : PSs X e t' := ⟨fun pins s σ H D I q => h.run pins s σ H D I (w D σ H q)⟩

/-- a level read to a depth -/
def asD : Lv → Nat → Bool
  | .t n, d => decide (n ≤ d)
  | .f _, _ => true
theorem Val.rep {K : PySem.W.Frag} {H : Hp} {C : Addr → Prop} {Fp : List (List Addr)} {mu : List Addr} {lv : Lv} {d : Nat} {w : W} {v : V} {S : List Addr} (h : Val lv (gT K H (fun a => C a ∨ a ∈ S) Fp mu) w v S) (hd : asD lv d = true)
    (hS : ∀ a ∈ S, a ∉ mu ∧ a ∉ Fp.flatten ∧ ¬ C a) : Rep (gT K H C Fp mu) w d v := by
  have t : (gT K H (fun a => C a ∨ a ∈ S) Fp mu).To (gT K H C Fp mu) := ⟨rfl, fun _ _ e k => ⟨e, fun z => k (z.elim .inl fun z => z.elim (fun z => .inr (.inl z)) fun z => .inr (.inr (.inl z)))⟩, fun _ _ e k => ⟨e, k⟩, fun _ _ e => e⟩
  cases lv with
  | t n =>
    have hd : n ≤ d := of_decide_eq_true hd
    exact (h.2.to t).mono gT_b hd
  | f n =>
    have h1 : Own (gT K H C Fp mu) n w v S := Own.to t h fun _ _ _ q => q
    refine (h1.rep0 gT_b fun a ha => ?_).mono gT_b (Nat.zero_le d)
    obtain ⟨k1, k2, k3⟩ := hS a ha
    exact fun z => z.elim k1 fun z => z.elim k2 k3
section
variable {X : Cx} {cl : Nat → List W → List W → R W} {w : Wish} {fl : List Fg}
theorem pe_r {pe : Expr} {lv : Lv} {d : Nat} {e : E} (h : PE X pe (TV cl w fl lv e)) (hd : asD lv d = true) : PE X pe (TR cl w fl d e) := by
  refine PE.weak h fun σ H Q ⟨C, ρ, M, Fp, mu, s, q⟩ => ⟨C, ρ, M, Fp, mu, s, ?_⟩
  show OutV w fl lv ρ σ Fp C H mu (ev cl e ρ M) Q
  have q : OutR w fl d ρ σ Fp C H mu (ev cl e ρ M) Q := q
  revert q
  cases ev cl e ρ M with
  | ok x M' =>
    intro q v H' mu' S p nd fr hv
    have hS : ∀ a ∈ S, a ∉ mu' ∧ a ∉ Fp.flatten ∧ ¬ C a := fun a ha => by
      have k := p.sr.cd a
      refine ⟨fun z => k (List.mem_append_left _ z) (.inr ha), fun z => k (List.mem_append_right _ z) (.inr ha), fun z => ?_⟩
      obtain ⟨o, e⟩ := s.ct a z
      rw [fr a ha] at e; cases e
    exact q v H' mu' (p.weak (fun _ z => z) fun _ z => .inl z) (hv.rep hd hS)
  | ex x M' => exact id
  | no => exact id
end
end Mi
end Mi3_

section Mi4_
set_option linter.all false
set_option Elab.async false
/-! Mi4: operators and built-ins, each against HandS's rule. -/
namespace Mi
open PySem PySem.Spec PyProof.Rows L2

/-- what may be given as the value z -/
def Give (K : PySem.W.Frag) (fl : List Fg) (ρ : Env) (σ : L2.St) (Fp : List (List Addr)) (C : Addr → Prop) (M : List W) (H : Hp) (mu : List Addr) (lv : Lv) (z : W) (Q : VK) : Prop :=
  ∀ v H' mu' S, Po K fl ρ σ Fp C H mu (fun a => C a ∨ a ∈ S) M H' mu' → S.Nodup → (∀ a ∈ S, H a = none) → Val lv (gT K H' (fun a => C a ∨ a ∈ S) Fp mu') z v S → Q v H'

section
variable {K : PySem.W.Frag} {fl : List Fg} {ρ : Env} {σ : L2.St} {Fp : List (List Addr)} {C : Addr → Prop} {M : List W} {H : Hp} {mu : List Addr} {lv : Lv} {z : W} {Q : VK} {v : V} {n : Nat}

theorem Own.of0 {G : Gh} {w : W} {v : V} (hw : ∀ ws, w ≠ .lst ws) (hd : ∀ ks, w ≠ .dct ks) (h : Rep G w 0 v) : ∀ n, Own G n w v []
  | 0 => by unfold Own; exact ⟨rfl, h⟩
  | n + 1 => by
    cases w with
    | lst ws => exact absurd rfl (hw ws)
    | dct ws => exact absurd rfl (hd ws)
    | _ => unfold Own; exact ⟨rfl, h⟩
theorem toNil : (gT K H C Fp mu).To (gT K H (fun a => C a ∨ a ∈ ([] : List Addr)) Fp mu) :=
  ⟨rfl, fun _ _ e k => ⟨e, fun z => k (z.elim .inl fun z => z.elim (fun z => .inr (.inl z)) fun z => .inr (.inr (z.elim id fun z => absurd z List.not_mem_nil)))⟩, fun _ _ e k => ⟨e, k⟩, fun _ _ e => e⟩
theorem poNil (s : SR K C fl ρ M σ H Fp mu) : Po K fl ρ σ Fp C H mu (fun a => C a ∨ a ∈ ([] : List Addr)) M H mu :=
  ⟨fun _ _ h _ => h, ⟨[], by simp, fun _ h => nomatch h⟩, fun a z => .inl (z.elim id fun z => absurd z List.not_mem_nil), fun _ z => .inl z, s.weak fun a z => z.elim id fun z => absurd z List.not_mem_nil⟩
/-- a value that stands already, read n deep -/
theorem Give.t (g : Give K fl ρ σ Fp C M H mu (.t n) z Q) (s : SR K C fl ρ M σ H Fp mu) (r : Rep (gT K H C Fp mu) z n v) : Q v H :=
  g v H mu [] (poNil s) List.nodup_nil (fun _ h => nomatch h) ⟨rfl, r.to toNil⟩
/-- neither a list nor a dict -/
theorem Give.f (g : Give K fl ρ σ Fp C M H mu (.f n) z Q) (s : SR K C fl ρ M σ H Fp mu) (hw : ∀ ws, z ≠ .lst ws) (hd : ∀ ks, z ≠ .dct ks) (r : Rep (gT K H C Fp mu) z 0 v) : Q v H :=
  g v H mu [] (poNil s) List.nodup_nil (fun _ h => nomatch h) (Own.of0 hw hd (r.to toNil) n)
theorem Give.bl {b : Bool} (g : Give K fl ρ σ Fp C M H mu (.f n) (.bl b) Q) (s : SR K C fl ρ M σ H Fp mu) : Q (.bl b) H :=
  g.f s (fun _ h => nomatch h) (fun _ h => nomatch h) (by unfold Rep; rfl)
theorem Give.int {i : Int} (g : Give K fl ρ σ Fp C M H mu (.f n) (.int i) Q) (s : SR K C fl ρ M σ H Fp mu) : Q (.int i) H :=
  g.f s (fun _ h => nomatch h) (fun _ h => nomatch h) (by unfold Rep; rfl)
theorem Give.str {x : Str} (g : Give K fl ρ σ Fp C M H mu (.f n) (.str x) Q) (s : SR K C fl ρ M σ H Fp mu) (h1 : PyData.strOk x = true) (h2 : x.length ≤ sizeLine) : Q (.str x) H :=
  g.f s (fun _ h => nomatch h) (fun _ h => nomatch h) (by unfold Rep; exact ⟨rfl, h1, h2⟩)
theorem toFresh {p : Addr} {o : HO} (hp : H p = none) : (gT K H C Fp mu).To (gT K (upd H p o) (fun a => C a ∨ a ∈ [p]) Fp mu) := by
  have ne : ∀ a o', H a = some o' → a ≠ p := fun a o' e z => by rw [z, hp] at e; cases e
  have up : ∀ a o', H a = some o' → upd H p o a = some o' := fun a o' e => by rw [upd_ne (ne a o' e)]; exact e
  exact ⟨rfl, fun a o' e k => ⟨up a o' e, fun z => by
    rcases z with z | z | z | z
    · exact k (.inl z)
    · exact k (.inr (.inl z))
    · exact k (.inr (.inr z))
    · exact ne a o' e (by simpa using z)⟩, fun a o' e k => ⟨up a o' e, k⟩, fun _ _ e => e⟩
/-- a new list -/
theorem Give.lst {ws : List W} {vs : List V} {p : Addr} (g : Give K fl ρ σ Fp C M H mu (.f 1) (.lst ws) Q) (s : SR K C fl ρ M σ H Fp mu) (r : RepL (gT K H C Fp mu) ws 0 vs) (hl : vs.length ≤ sizeLine) (hp : H p = none) : Q (.ref p) (upd H p (.lst vs)) := by
  refine g (.ref p) _ mu [p] (Po.fresh s hp True.intro) (by simp) (fun a h => by rw [List.mem_singleton.mp h]; exact hp) ?_
  show Own _ 1 _ _ _
  unfold Own
  refine ⟨p, vs, ws.map fun _ => [], rfl, upd_same, hl, ?_, by simp⟩
  have r' := RepL.to (toFresh (K := K) (C := C) (Fp := Fp) (mu := mu) (o := .lst vs) hp) r
  clear r hl g
  generalize (gT K (upd H p (.lst vs)) (fun a => C a ∨ a ∈ [p]) Fp mu) = G at r'
  induction ws generalizing vs with
  | nil => unfold RepL at r'; subst r'; exact .nil
  | cons w ws ih =>
    unfold RepL at r'
    obtain ⟨v, t, e, h1, h2⟩ := r'
    subst e
    exact .cons (by unfold Own; exact ⟨rfl, h1⟩) (ih h2)
/-- a new tuple -/
theorem Give.tup {ws : List W} {vs : List V} {p : Addr} (g : Give K fl ρ σ Fp C M H mu (.f n) (.tup ws) Q) (s : SR K C fl ρ M σ H Fp mu) (r : RepL (gT K H C Fp mu) ws 0 vs) (hl : vs.length ≤ sizeLine) (hp : H p = none) : Q (.ref p) (upd H p (.tup vs)) := by
  have p0 := (Po.laid (o := .tup vs) s hp).weak (C1 := fun a => C a ∨ a ∈ ([] : List Addr)) (fun _ h => .inl h) fun a z => z.elim id fun z => absurd z List.not_mem_nil
  refine g (.ref p) _ mu [] p0 List.nodup_nil (fun _ h => nomatch h) ?_
  have r' := RepL.to (toFresh (K := K) (C := C) (Fp := Fp) (mu := mu) (o := .tup vs) hp) r
  have t : (gT K (upd H p (.tup vs)) (fun a => C a ∨ a ∈ [p]) Fp mu).To (gT K (upd H p (.tup vs)) (fun a => C a ∨ a ∈ ([] : List Addr)) Fp mu) :=
    ⟨rfl, fun _ _ e k => ⟨e, fun z => k (z.elim .inl fun z => z.elim (fun z => .inr (.inl z)) fun z => .inr (.inr (.inl (z.elim id fun z => absurd z List.not_mem_nil))))⟩, fun _ _ e k => ⟨e, k⟩, fun _ _ e => e⟩
  refine Own.of0 (w := .tup ws) (fun _ h => nomatch h) (fun _ h => nomatch h) ?_ n
  unfold Rep
  refine ⟨p, vs, rfl, upd_same, fun z => ?_, hl, RepL.to t r'⟩
  have fr : ∀ a o, H a = some o → a ≠ p := fun a o e z => by rw [z, hp] at e; cases e
  rcases z with z | z | z
  · obtain ⟨o, e⟩ := s.tr p (List.mem_append_left _ z); exact fr _ _ e rfl
  · obtain ⟨o, e⟩ := s.tr p (List.mem_append_right _ z); exact fr _ _ e rfl
  · rcases z with z | z
    · obtain ⟨o, e⟩ := s.ct p z; exact fr _ _ e rfl
    · cases z
/-- a new dict -/
theorem Give.dct {ws : List (Ky × W)} {xs : List (Ky × V)} {p : Addr} {o : HO} (g : Give K fl ρ σ Fp C M H mu (.f 1) (.dct ws) Q) (s : SR K C fl ρ M σ H Fp mu) (r : RepD (gT K H C Fp mu) ws 0 xs) (hl : xs.length ≤ sizeLine) (hp : H p = none)
    (ho : DAt (upd H p o) p xs) : Q (.ref p) (upd H p o) := by
  have hN : NT o := by
    rcases ho with ⟨ys, e, _⟩ | ⟨ys, e, _⟩
    · rw [upd_same] at e; cases e; trivial
    · rw [upd_same] at e; cases e; trivial
  refine g (.ref p) _ mu [p] (Po.fresh s hp hN) (by simp) (fun a h => by rw [List.mem_singleton.mp h]; exact hp) ?_
  show Own _ 1 _ _ _
  unfold Own
  have r' := RepD.to (toFresh (K := K) (C := C) (Fp := Fp) (mu := mu) (o := o) hp) r
  obtain ⟨e1, e2⟩ := r'.keys
  refine ⟨p, xs, ws.map fun _ => [], rfl, ho, hl, e1, ?_, by simp⟩
  clear r hl g r' ho e1
  generalize (gT K (upd H p o) (fun a => C a ∨ a ∈ [p]) Fp mu) = G at e2
  induction ws generalizing xs with
  | nil =>
    unfold RepL at e2
    have : xs.map (·.2) = [] := e2
    rw [this]; exact .nil
  | cons w ws ih =>
    rw [List.map_cons] at e2
    unfold RepL at e2
    obtain ⟨v, t, e, h1, h2⟩ := e2
    cases xs with
    | nil => cases e
    | cons x xs =>
      rw [List.map_cons] at e
      cases e
      exact .cons (by unfold Own; exact ⟨rfl, h1⟩) (ih h2)
end

section
variable {X : Cx} {cl : Nat → List W → List W → R W} {w : Wish} {fl : List Fg} {C : Addr → Prop} {ρ : Env} {M : List Mi.W} {σ : L2.St} {H : Hp} {Fp : List (List Addr)} {mu : List Addr} {Q : VK} {lv : Lv}

/-- one operand -/
theorem one {a : E} {da : Nat} {g : Mi.W → List Mi.W → R Mi.W} {P : V → Hp → Prop} (s : SR w.K C fl ρ M σ H Fp mu) (q : OutV w fl lv ρ σ Fp C H mu ((ev cl a ρ M).bind g) Q)
    (k : ∀ x vx M' H' mu', Po w.K fl ρ σ Fp C H mu C M' H' mu' → Rep (gT w.K H' C Fp mu') x da vx → OutV w fl lv ρ σ Fp C H' mu' (g x M') Q → P vx H') : TR cl w fl da a σ H P := by
  refine ⟨C, ρ, M, Fp, mu, s, ?_⟩
  show OutR w fl da ρ σ Fp C H mu (ev cl a ρ M) P
  revert q
  cases ev cl a ρ M with
  | no => exact id
  | ex x M' => exact id
  | ok x M' =>
    intro q v H' mu' p r
    refine k x v M' H' mu' p r ?_
    have q : OutV w fl lv ρ σ Fp C H mu (g x M') Q := q
    revert q
    cases g x M' with
    | no => exact id
    | ex y M2 => exact fun q H2 mu2 p2 cls d e => q H2 mu2 (p.trans p2) cls d e
    | ok y M2 =>
      intro q v2 H2 mu2 S p2 nd fr hv
      refine q v2 H2 mu2 S (p.trans p2) nd (fun a ha => ?_) hv
      cases z : H a with
      | none => rfl
      | some o =>
        have e := fr a ha
        by_cases hm : a ∈ mu
        · obtain ⟨o', e'⟩ := p.sr.tr a (List.mem_append_left _ (p.mum a hm))
          rw [e] at e'; cases e'
        · rw [p.ext a o z hm] at e; cases e
theorem OutV.give {M' : List Mi.W} {o : Option Mi.W} (q : OutV w fl lv ρ σ Fp C H mu (R.of o M') Q) : ∃ z, o = some z ∧ Give w.K fl ρ σ Fp C M' H mu lv z Q := by
  cases o with
  | none => exact q.elim
  | some z => exact ⟨z, rfl, q⟩
/-- two operands -/
theorem two {a b : E} {da db : Nat} {g : Mi.W → Mi.W → List Mi.W → R Mi.W} {P : V → V → Hp → Prop} (s : SR w.K C fl ρ M σ H Fp mu)
    (q : OutV w fl lv ρ σ Fp C H mu ((ev cl a ρ M).bind fun x M => (ev cl b ρ M).bind fun y M => g x y M) Q)
    (k : ∀ x y vx vy M' H' mu', SR w.K C fl ρ M' σ H' Fp mu' → Rep (gT w.K H' C Fp mu') x da vx → Rep (gT w.K H' C Fp mu') y db vy → OutV w fl lv ρ σ Fp C H' mu' (g x y M') Q → P vx vy H') :
    TR cl w fl da a σ H fun x H1 => TR cl w fl db b σ H1 fun y H2 => P x y H2 :=
  one s q fun x vx M1 H1 mu1 p1 r1 q1 => one p1.sr q1 fun y vy M2 H2 mu2 p2 r2 q2 => k x y vx vy M2 H2 mu2 p2.sr (r1.to p2.toT) r2 q2
/-- .. by a function of values -/
theorem twoW {a b : E} {da db : Nat} {g : Mi.W → Mi.W → Option Mi.W} {P : V → V → Hp → Prop} (s : SR w.K C fl ρ M σ H Fp mu)
    (q : OutV w fl lv ρ σ Fp C H mu ((ev cl a ρ M).bind fun x M => (ev cl b ρ M).bind fun y M => R.of (g x y) M) Q)
    (k : ∀ x y z vx vy M' H' mu', g x y = some z → SR w.K C fl ρ M' σ H' Fp mu' → Rep (gT w.K H' C Fp mu') x da vx → Rep (gT w.K H' C Fp mu') y db vy → Give w.K fl ρ σ Fp C M' H' mu' lv z Q → P vx vy H') :
    TR cl w fl da a σ H fun x H1 => TR cl w fl db b σ H1 fun y H2 => P x y H2 :=
  two s q fun x y vx vy M' H' mu' s' r1 r2 q' => by
    obtain ⟨z, e, g'⟩ := q'.give
    exact k x y z vx vy M' H' mu' e s' r1 r2 g'

/-! ### arithmetic -/
/-- an operation's rule serves the function g of values, its operands read one deep -/
def BinOk (K : PySem.W.Frag) (r : R2) (g : Mi.W → Mi.W → Option Mi.W) (lv : Lv) : Prop :=
  ∀ (fl : List Fg) (ρ : Env) (σ : L2.St) (Fp : List (List Addr)) (C : Addr → Prop) (M : List Mi.W) (H : Hp) (mu : List Addr) (Q : VK) (x y z : Mi.W) (vx vy : V), g x y = some z → SR K C fl ρ M σ H Fp mu →
    Rep (gT K H C Fp mu) x 1 vx → Rep (gT K H C Fp mu) y 1 vy → Give K fl ρ σ Fp C M H mu lv z Q → r vx vy H Q
theorem pe_binOk {pa pb : Expr} {op : Operator} {pos : Pos} {o : Bop} {a b : E} {r : R2} (hk : w.K = X.K) (ho : OpR X (binaryOp op) r) (hb : BinOk w.K r (binW o) lv) (ha : PE X pa (TR cl w fl 1 a)) (hb' : PE X pb (TR cl w fl 1 b)) :
    PE X (.BinOp pa op pb pos) (TV cl w fl lv (.bin o a b)) := by
  refine PE.weak (pe_op ho ha hb') fun σ H Q ⟨C, ρ, M, Fp, mu, s, q⟩ => ?_
  have q : OutV w fl lv ρ σ Fp C H mu (ev cl (.bin o a b) ρ M) Q := q
  unfold ev at q
  exact twoW s q fun x y z vx vy M' H' mu' e s' r1 r2 g => hb fl ρ σ Fp C M' H' mu' Q x y z vx vy e s' r1 r2 g

theorem rep_int {G : Gh} {i : Int} {d : Nat} {v : V} (h : Rep G (.int i) d v) : v = .int i := by unfold Rep at h; exact h
theorem rep_bl {G : Gh} {i : Bool} {d : Nat} {v : V} (h : Rep G (.bl i) d v) : v = .bl i := by unfold Rep at h; exact h
theorem rep_non {G : Gh} {d : Nat} {v : V} (h : Rep G .non d v) : v = .non := by unfold Rep at h; exact h
theorem rep_str {G : Gh} {x : Str} {d : Nat} {v : V} (h : Rep G (.str x) d v) : v = .str x ∧ PyData.strOk x = true ∧ x.length ≤ sizeLine := by unfold Rep at h; exact h
theorem rep_lst {G : Gh} {ws : List Mi.W} {d : Nat} {v : V} (h : Rep G (.lst ws) d v) : ∃ a vs, v = .ref a ∧ G.H a = some (.lst vs) ∧ vs.length ≤ sizeLine ∧ RepL G ws (d - 1) vs := by
  unfold Rep at h
  obtain ⟨a, vs, e, h1, h2, h3, h4⟩ := h
  exact ⟨a, vs, e, h1, h3, h4⟩
theorem rep_tup {G : Gh} {ws : List Mi.W} {d : Nat} {v : V} (h : Rep G (.tup ws) d v) : ∃ a vs, v = .ref a ∧ G.H a = some (.tup vs) ∧ vs.length ≤ sizeLine ∧ RepL G ws 0 vs := by
  unfold Rep at h
  obtain ⟨a, vs, e, h1, h2, h3, h4⟩ := h
  exact ⟨a, vs, e, h1, h3, h4⟩
theorem rep_tup0 {G : Gh} {ws : List Mi.W} {d d' : Nat} {v : V} (h : Rep G (.tup ws) d v) : Rep G (.tup ws) d' v := by unfold Rep at h ⊢; exact h

theorem strOk_append {x y : Str} (hx : PyData.strOk x = true) (hy : PyData.strOk y = true) : PyData.strOk (x ++ y) = true := by
  unfold PyData.strOk at *
  show (x.cps ++ y.cps).all _ = true
  rw [Array.all_append, hx, hy]; rfl
theorem len_append (x y : Str) : (x ++ y).length = x.length + y.length := by
  show (x.cps ++ y.cps).size = _
  rw [Array.size_append]; rfl
def rAddA (K : PySem.W.Frag) : R2 := fun x y H Q => (∃ i j, x = .int i ∧ y = .int j ∧ Q (.int (i + j)) H) ∨ (∃ i j, x = .str i ∧ y = .str j ∧ i.length + j.length ≤ sizeLine ∧ Q (.str (i ++ j)) H) ∨ rCat x y H Q ∨ rCatA K x y H Q
theorem op_addA : OpR X (binaryOp .Add) (rAddA X.K) := op_add.or (op_add_str.or (op_cat.or op_catA))
theorem addOk {K : PySem.W.Frag} : BinOk K (rAddA K) (binW .add) (.f 1) := by
  intro fl ρ σ Fp C M H mu Q x y z vx vy e s r1 r2 g
  have e : addW x y = some z := e
  unfold addW at e
  split at e
  · cases e
    exact .inl ⟨_, _, rep_int r1, rep_int r2, g.int s⟩
  · split at e
    · rename_i hz
      cases e
      obtain ⟨k1, k2, k3⟩ := rep_str r1
      obtain ⟨j1, j2, j3⟩ := rep_str r2
      exact .inr (.inl ⟨_, _, k1, j1, hz, g.str s (strOk_append k2 j2) (by rw [len_append]; exact hz)⟩)
    · cases e
  · split at e
    · rename_i hz
      cases e
      obtain ⟨a, vs, e1, h1, h2, h3⟩ := rep_lst r1
      obtain ⟨b, us, e2, g1, g2, g3⟩ := rep_lst r2
      refine .inr (.inr (.inl ⟨a, b, vs, us, e1, e2, h1, g1, by rw [h3.len, g3.len]; exact hz, fun p hp => ?_⟩))
      exact g.lst s (h3.append g3) (by rw [List.length_append, h3.len, g3.len]; exact hz) hp
    · cases e
  · split at e
    · rename_i hz
      cases e
      obtain ⟨a, vs, e1, h1, h2, h3⟩ := rep_tup r1
      obtain ⟨b, us, e2, g1, g2, g3⟩ := rep_tup r2
      refine .inr (.inr (.inr ⟨a, b, vs, us, e1, e2, .inl (.inl h1), .inl (.inl g1), by rw [h3.len, g3.len]; exact hz, fun hn => ?_, fun _ hn => ?_, fun _ _ p hp => ?_⟩))
      · subst hn
        have hw := h3.len
        have : ∀ l : List Mi.W, l.length = 0 → l = [] := fun l h => List.length_eq_zero_iff.mp h
        have e0 := this _ hw.symm
        subst e0
        rw [← e2]
        exact g.f s (fun _ h => nomatch h) (fun _ h => nomatch h) (rep_tup0 r2)
      · subst hn
        have hw := g3.len
        have : ∀ l : List Mi.W, l.length = 0 → l = [] := fun l h => List.length_eq_zero_iff.mp h
        have e0 := this _ hw.symm
        subst e0
        rw [← e1]
        rw [List.append_nil] at g
        exact g.f s (fun _ h => nomatch h) (fun _ h => nomatch h) (rep_tup0 r1)
      · exact g.tup s (h3.append g3) (by rw [List.length_append, h3.len, g3.len]; exact hz) hp
    · cases e
  · cases e
theorem subOk {K : PySem.W.Frag} : BinOk K (rI0 fun i j => .int (i - j)) (binW .sub) (.f 1) := by
  intro fl ρ σ Fp C M H mu Q x y z vx vy e s r1 r2 g
  have e : subW x y = some z := e
  unfold subW at e
  split at e
  · cases e
    exact ⟨_, _, rep_int r1, rep_int r2, g.int s⟩
  · cases e
def rMulA : R2 := fun x y H Q => (rI CMul fun i j => .int (i * j)) x y H Q ∨ (rI CMulW fun i j => .int (i * j)) x y H Q ∨ rRep x y H Q
theorem op_mulA : OpR X (binaryOp .Mult) rMulA := op_mul.or (op_mulW.or op_rep)
theorem line63' : (sizeLine : Int) < 2 ^ 63 := by rw [sizeLine_eq]; decide
theorem mulOk' {K : PySem.W.Frag} : BinOk K rMulA (binW .mul) (.f 1) := by
  intro fl ρ σ Fp C M H mu Q x y z vx vy e s r1 r2 g
  have e : mulW x y = some z := e
  unfold mulW at e
  split at e
  · split at e
    · rename_i hz
      cases e
      exact .inl ⟨_, _, rep_int r1, rep_int r2, hz, g.int s⟩
    · split at e
      · rename_i hz
        cases e
        exact .inr (.inl ⟨_, _, rep_int r1, rep_int r2, hz, g.int s⟩)
      · cases e
  · split at e
    · rename_i hz
      cases e
      obtain ⟨l, vs, e1, h1, h2, h3⟩ := rep_lst r1
      refine .inr (.inr ⟨l, _, vs, e1, rep_int r2, h1, by omega, by omega, by rw [h3.len]; exact hz.2.2, fun p hp => ?_⟩)
      refine g.lst s (h3.rep _) ?_ hp
      simp only [List.length_flatten, List.map_replicate, List.sum_replicate_nat]
      rw [h3.len, Nat.mul_comm]; exact hz.2.2
    · cases e
  · cases e

def rFdivA : R2 := fun x y H Q => (rI CDivW fun i j => .int (i / j)) x y H Q ∨ (rI CDivN fun i j => .int (i.fdiv j)) x y H Q
theorem op_fdivA : OpR X (binaryOp .FloorDiv) rFdivA := op_fdivW.or op_fdivN
theorem fdivOk {K : PySem.W.Frag} : BinOk K rFdivA (binW .fdiv) (.f 1) := by
  intro fl ρ σ Fp C M H mu Q x y z vx vy e s r1 r2 g
  have e : fdivW x y = some z := e
  unfold fdivW at e
  split at e
  · split at e
    · rename_i h0
      split at e
      · rename_i h1
        cases e
        exact .inl ⟨_, _, rep_int r1, rep_int r2, ⟨h0, h1⟩, g.int s⟩
      · cases e
    · split at e
      · rename_i h1
        cases e
        exact .inr ⟨_, _, rep_int r1, rep_int r2, h1, g.int s⟩
      · cases e
  · cases e
def rModA : R2 := fun x y H Q => (rI (fun _ j => 0 < j) fun i j => .int (i % j)) x y H Q ∨ (rI (fun _ j => j ≠ 0) fun i j => .int (i.fmod j)) x y H Q
theorem op_modA : OpR X (binaryOp .Mod) rModA := op_mod.or op_modN
theorem modOk {K : PySem.W.Frag} : BinOk K rModA (binW .mod) (.f 1) := by
  intro fl ρ σ Fp C M H mu Q x y z vx vy e s r1 r2 g
  have e : modW x y = some z := e
  unfold modW at e
  split at e
  · split at e
    · rename_i h0
      cases e
      exact .inl ⟨_, _, rep_int r1, rep_int r2, h0, g.int s⟩
    · split at e
      · rename_i h1
        cases e
        exact .inr ⟨_, _, rep_int r1, rep_int r2, h1, g.int s⟩
      · cases e
  · cases e
theorem powOk {K : PySem.W.Frag} : BinOk K (rI CPow fun i j => .int (i ^ j.toNat)) (binW .pow) (.f 1) := by
  intro fl ρ σ Fp C M H mu Q x y z vx vy e s r1 r2 g
  have e : powW x y = some z := e
  unfold powW at e
  split at e
  · split at e
    · rename_i h0
      cases e
      exact ⟨_, _, rep_int r1, rep_int r2, h0, g.int s⟩
    · cases e
  · cases e

/-! ### comparisons -/
mutual
def dat : Mi.W → PyData
  | .non => .none
  | .bl b => .bool b
  | .int i => .int i
  | .str x => .str x
  | .tup ws => .tuple (datL ws)
  | .lst ws => .list (datL ws)
  | .dct _ => .dict []
  | .frz _ => .dict []
  | .loc _ => .dict []
def datL : List Mi.W → List PyData
  | [] => []
  | w :: ws => dat w :: datL ws
end
mutual
theorem dat_eqv : ∀ x y : Mi.W, PyData.eqv (dat x) (dat y) = weq x y
  | .tup xs, y => by cases y <;> simp only [dat, weq, PyData.eqv]; exact datL_eqv xs _
  | .lst xs, y => by cases y <;> simp only [dat, weq, PyData.eqv]; exact datL_eqv xs _
  | .non, y => by cases y <;> simp only [dat, weq, PyData.eqv]
  | .bl b, y => by cases y <;> simp only [dat, weq, PyData.eqv]
  | .int b, y => by cases y <;> simp only [dat, weq, PyData.eqv]
  | .str b, y => by cases y <;> simp only [dat, weq, PyData.eqv]
  | .dct b, y => by cases y <;> simp only [dat, weq, PyData.eqv]
  | .frz b, y => by cases y <;> simp only [dat, weq, PyData.eqv]
  | .loc b, y => by cases y <;> simp only [dat, weq, PyData.eqv]
theorem datL_eqv : ∀ xs ys : List Mi.W, PyData.eqvAll (datL xs) (datL ys) = weqL xs ys
  | [], [] => by simp only [datL, weqL, PyData.eqvAll]
  | [], _ :: _ => by simp only [datL, weqL, PyData.eqvAll]
  | _ :: _, [] => by simp only [datL, weqL, PyData.eqvAll]
  | x :: xs, y :: ys => by simp only [datL, weqL, PyData.eqvAll]; rw [dat_eqv x y, datL_eqv xs ys]
end
theorem datL_get (ws : List Mi.W) : datL ws = ws.map dat := by
  induction ws with
  | nil => rfl
  | cons w ws ih => unfold datL; rw [ih]; rfl
mutual
theorem Rep.dp {G : Gh} : ∀ {w : Mi.W} {d : Nat} {v : V}, Rep G w d v → w.depth ≤ 900 → Dp G.K G.H v (dat w) ∧ (dat w).canLay0 = true ∧ (dat w).depth ≤ w.depth
  | .non, _, v, h, _ => by rw [rep_non h]; exact ⟨.non, rfl, Nat.le_refl _⟩
  | .bl b, _, v, h, _ => by rw [rep_bl h]; exact ⟨.bl b, rfl, Nat.le_refl _⟩
  | .int i, _, v, h, _ => by rw [rep_int h]; exact ⟨.int i, rfl, Nat.le_refl _⟩
  | .str x, _, v, h, _ => by
    obtain ⟨e, h1, _⟩ := rep_str h
    rw [e]
    exact ⟨.str x, by simp only [dat, PyData.canLay0]; exact h1, Nat.le_refl _⟩
  | .tup ws, _, v, h, hd => by
    obtain ⟨a, vs, e, h1, h2, h3⟩ := rep_tup h
    unfold W.depth at hd
    obtain ⟨k1, k2, k3⟩ := RepL.dp h3 (by omega)
    rw [e]
    unfold dat
    exact ⟨.tup (.inl (.inl h1)) k1, by simp only [PyData.canLay0]; exact k2, by unfold W.depth; simp only [PyData.depth]; omega⟩
  | .lst ws, _, v, h, hd => by
    obtain ⟨a, vs, e, h1, h2, h3⟩ := rep_lst h
    unfold W.depth at hd
    obtain ⟨k1, k2, k3⟩ := RepL.dp h3 (by omega)
    rw [e]
    unfold dat
    exact ⟨.lst (.inl (.inl h1)) k1, by simp only [PyData.canLay0]; exact k2, by unfold W.depth; simp only [PyData.depth]; omega⟩
  | .dct _, _, _, _, hd => by unfold W.depth at hd; omega
  | .frz _, _, _, _, hd => by unfold W.depth at hd; omega
  | .loc _, _, _, _, hd => by unfold W.depth at hd; omega
theorem RepL.dp {G : Gh} : ∀ {ws : List Mi.W} {d : Nat} {vs : List V}, RepL G ws d vs → depthL ws ≤ 900 → DpAll G.K G.H vs (datL ws) ∧ PyData.canLayAll0 (datL ws) = true ∧ PyData.depthAll (datL ws) ≤ depthL ws
  | [], _, vs, h, _ => by unfold RepL at h; rw [h]; exact ⟨.nil, rfl, Nat.le_refl _⟩
  | w :: ws, d, vs, h, hd => by
    unfold RepL at h
    obtain ⟨v, r, e, h1, h2⟩ := h
    unfold depthL at hd
    obtain ⟨k1, k2, k3⟩ := Rep.dp h1 (by omega)
    obtain ⟨j1, j2, j3⟩ := RepL.dp h2 (by omega)
    rw [e]
    unfold datL
    exact ⟨.cons k1 j1, by simp only [PyData.canLayAll0]; rw [k2, j2]; rfl, by unfold depthL; simp only [PyData.depthAll]; omega⟩
end
theorem Rep.shaped {G : Gh} {w : Mi.W} {d : Nat} {v : V} (h : Rep G w d v) (hd : w.depth ≤ 60) : Dp G.K G.H v (dat w) ∧ SeqAt.shaped (dat w) = true := by
  obtain ⟨k1, k2, k3⟩ := h.dp (by omega)
  refine ⟨k1, ?_⟩
  unfold SeqAt.shaped
  rw [k2, Bool.true_and, decide_eq_true_eq]
  omega
theorem flat_depth {w : Mi.W} (h : w.flat = true) : w.depth = 0 := by
  cases w <;> simp [W.flat] at h <;> rfl
theorem flat_rep {G : Gh} {w : Mi.W} {d : Nat} {v : V} (h : Rep G w d v) (f : w.flat = true) : flatV v = true := by
  cases w with
  | non => rw [rep_non h]; rfl
  | bl b => rw [rep_bl h]; rfl
  | int b => rw [rep_int h]; rfl
  | str b => rw [(rep_str h).1]; rfl
  | _ => simp [W.flat] at f
theorem flat_eq {G : Gh} {x y : Mi.W} {d d' : Nat} {vx vy : V} (hx : Rep G x d vx) (hy : Rep G y d' vy) (fx : x.flat = true) (fy : y.flat = true) : eqV vx vy = weq x y := by
  cases x with
  | non => rw [rep_non hx]; cases y with
    | non => rw [rep_non hy]; simp only [eqV, weq]
    | bl b => rw [rep_bl hy]; simp only [eqV, weq]
    | int b => rw [rep_int hy]; simp only [eqV, weq]
    | str b => rw [(rep_str hy).1]; simp only [eqV, weq]
    | _ => simp [W.flat] at fy
  | bl b => rw [rep_bl hx]; cases y with
    | non => rw [rep_non hy]; simp only [eqV, weq]
    | bl b => rw [rep_bl hy]; simp only [eqV, weq]
    | int b => rw [rep_int hy]; simp only [eqV, weq]
    | str b => rw [(rep_str hy).1]; simp only [eqV, weq]
    | _ => simp [W.flat] at fy
  | int b => rw [rep_int hx]; cases y with
    | non => rw [rep_non hy]; simp only [eqV, weq]
    | bl b => rw [rep_bl hy]; simp only [eqV, weq]
    | int b => rw [rep_int hy]; simp only [eqV, weq]
    | str b => rw [(rep_str hy).1]; simp only [eqV, weq]
    | _ => simp [W.flat] at fy
  | str b => rw [(rep_str hx).1]; cases y with
    | non => rw [rep_non hy]; simp only [eqV, weq]
    | bl b => rw [rep_bl hy]; simp only [eqV, weq]
    | int b => rw [rep_int hy]; simp only [eqV, weq]
    | str b => rw [(rep_str hy).1]; simp only [eqV, weq]
    | _ => simp [W.flat] at fy
  | _ => simp [W.flat] at fx
theorem flat_all {G : Gh} : ∀ {ws : List Mi.W} {d : Nat} {vs : List V}, RepL G ws d vs → ws.all W.flat = true → vs.all flatV = true
  | [], _, vs, h, _ => by unfold RepL at h; rw [h]; rfl
  | w :: ws, d, vs, h, f => by
    unfold RepL at h
    obtain ⟨v, r, e, h1, h2⟩ := h
    rw [List.all_cons, Bool.and_eq_true] at f
    rw [e, List.all_cons, flat_rep h1 f.1, flat_all h2 f.2]; rfl
theorem flat_any {G : Gh} {x : Mi.W} {dx : Nat} {vx : V} (hx : Rep G x dx vx) (fx : x.flat = true) : ∀ {ws : List Mi.W} {d : Nat} {vs : List V}, RepL G ws d vs → ws.all W.flat = true → inV vx vs = ws.any fun y => weq y x
  | [], _, vs, h, _ => by unfold RepL at h; rw [h]; rfl
  | w :: ws, d, vs, h, f => by
    unfold RepL at h
    obtain ⟨v, r, e, h1, h2⟩ := h
    rw [List.all_cons, Bool.and_eq_true] at f
    have ih := flat_any hx fx h2 f.2
    rw [e]
    unfold inV at ih ⊢
    rw [List.any_cons, List.any_cons, flat_eq h1 hx f.1 fx, ih]
theorem dat_any {x : Mi.W} (ws : List Mi.W) : ((datL ws).any fun z => PyData.eqv z (dat x)) = ws.any fun y => weq y x := by
  rw [datL_get, List.any_map]
  congr 1
  funext y
  exact dat_eqv y x

/-- a comparison's rule serves the function g, its operands read as deep as one likes -/
def CmpOk (K : PySem.W.Frag) (r : R2) (g : Mi.W → Mi.W → Option Bool) : Prop :=
  ∀ (fl : List Fg) (ρ : Env) (σ : L2.St) (Fp : List (List Addr)) (C : Addr → Prop) (M : List Mi.W) (H : Hp) (mu : List Addr) (Q : VK) (x y : Mi.W) (b : Bool) (vx vy : V), g x y = some b → SR K C fl ρ M σ H Fp mu →
    Rep (gT K H C Fp mu) x 2 vx → Rep (gT K H C Fp mu) y 2 vy → Q (.bl b) H → r vx vy H Q
theorem eqOk {K : PySem.W.Frag} : CmpOk K (rEqD K) (cmpW .eq) := by
  intro fl ρ σ Fp C M H mu Q x y b vx vy e s r1 r2 g
  have e : eqW x y = some b := e
  unfold eqW at e
  split at e
  · rename_i hd
    cases e
    obtain ⟨k1, k2⟩ := r1.shaped hd.1
    obtain ⟨j1, j2⟩ := r2.shaped hd.2
    refine ⟨dat x, dat y, k1, j1, k2, j2, ?_⟩
    rw [dat_eqv]; exact g
  · cases e
theorem neOk {K : PySem.W.Frag} : CmpOk K (rNeD K) (cmpW .ne) := by
  intro fl ρ σ Fp C M H mu Q x y b vx vy e s r1 r2 g
  have e : (eqW x y).map (!·) = some b := e
  unfold eqW at e
  split at e
  · rename_i hd
    cases e
    obtain ⟨k1, k2⟩ := r1.shaped hd.1
    obtain ⟨j1, j2⟩ := r2.shaped hd.2
    refine ⟨dat x, dat y, k1, j1, k2, j2, ?_⟩
    rw [dat_eqv]; exact g
  · cases e
theorem ltOk {K : PySem.W.Frag} : CmpOk K (fun x y H Q => (∃ i j, x = .int i ∧ y = .int j ∧ Q (.bl (decide (i < j))) H) ∨ (∃ i j, x = .str i ∧ y = .str j ∧ Q (.bl (decide (i.cps.toList < j.cps.toList))) H)) (cmpW .lt) := by
  intro fl ρ σ Fp C M H mu Q x y b vx vy e s r1 r2 g
  have e : ltW x y = some b := e
  unfold ltW at e
  split at e
  · cases e; exact .inl ⟨_, _, rep_int r1, rep_int r2, g⟩
  · cases e; exact .inr ⟨_, _, (rep_str r1).1, (rep_str r2).1, g⟩
  · cases e
theorem leOk {K : PySem.W.Frag} : CmpOk K (fun x y H Q => (∃ i j, x = .int i ∧ y = .int j ∧ Q (.bl (decide (i ≤ j))) H) ∨ (∃ i j, x = .str i ∧ y = .str j ∧ Q (.bl (!decide (j.cps.toList < i.cps.toList))) H)) (cmpW .le) := by
  intro fl ρ σ Fp C M H mu Q x y b vx vy e s r1 r2 g
  have e : leW x y = some b := e
  unfold leW at e
  split at e
  · cases e; exact .inl ⟨_, _, rep_int r1, rep_int r2, g⟩
  · cases e; exact .inr ⟨_, _, (rep_str r1).1, (rep_str r2).1, g⟩
  · cases e
theorem gtOk {K : PySem.W.Frag} : CmpOk K (fun x y H Q => (∃ i j, x = .int i ∧ y = .int j ∧ Q (.bl (decide (j < i))) H) ∨ (∃ i j, x = .str i ∧ y = .str j ∧ Q (.bl (decide (j.cps.toList < i.cps.toList))) H)) (cmpW .gt) := by
  intro fl ρ σ Fp C M H mu Q x y b vx vy e s r1 r2 g
  have e : ltW y x = some b := e
  unfold ltW at e
  split at e
  · cases e; exact .inl ⟨_, _, rep_int r1, rep_int r2, g⟩
  · cases e; exact .inr ⟨_, _, (rep_str r1).1, (rep_str r2).1, g⟩
  · cases e
theorem geOk {K : PySem.W.Frag} : CmpOk K (fun x y H Q => (∃ i j, x = .int i ∧ y = .int j ∧ Q (.bl (decide (j ≤ i))) H) ∨ (∃ i j, x = .str i ∧ y = .str j ∧ Q (.bl (!decide (i.cps.toList < j.cps.toList))) H)) (cmpW .ge) := by
  intro fl ρ σ Fp C M H mu Q x y b vx vy e s r1 r2 g
  have e : leW y x = some b := e
  unfold leW at e
  split at e
  · cases e; exact .inl ⟨_, _, rep_int r1, rep_int r2, g⟩
  · cases e; exact .inr ⟨_, _, (rep_str r1).1, (rep_str r2).1, g⟩
  · cases e
theorem non_iff {G : Gh} {x : Mi.W} {d : Nat} {v : V} (h : Rep G x d v) (hx : x ≠ .non) : v ≠ .non := by
  cases x with
  | non => exact absurd rfl hx
  | bl b => rw [rep_bl h]; exact fun z => nomatch z
  | int b => rw [rep_int h]; exact fun z => nomatch z
  | str b => rw [(rep_str h).1]; exact fun z => nomatch z
  | tup ws => obtain ⟨a, vs, e, _⟩ := rep_tup h; rw [e]; exact fun z => nomatch z
  | lst ws => obtain ⟨a, vs, e, _⟩ := rep_lst h; rw [e]; exact fun z => nomatch z
  | dct ws => unfold Rep at h; obtain ⟨a, vs, e, _⟩ := h; rw [e]; exact fun z => nomatch z
  | frz ws => unfold Rep at h; obtain ⟨a, e, _⟩ := h; rw [e]; exact fun z => nomatch z
  | loc ws => unfold Rep at h; obtain ⟨a, e, _⟩ := h; rw [e]; exact fun z => nomatch z
theorem isOk {K : PySem.W.Frag} : CmpOk K (fun x y H Q => (y = .non ∧ Q (.bl (decide (x = .non))) H) ∨ rIsB x y H Q) (cmpW .is) := by
  intro fl ρ σ Fp C M H mu Q x y b vx vy e s r1 r2 g
  have e : isW x y = some b := e
  unfold isW at e
  split at e
  · cases e
    exact .inl ⟨rep_non r2, by rw [rep_non r1]; exact g⟩
  · cases e
    exact .inr ⟨_, _, rep_bl r1, rep_bl r2, g⟩
  · rename_i hx _
    cases e
    exact .inl ⟨rep_non r2, by rw [decide_eq_false (non_iff r1 hx)]; exact g⟩
  · cases e
theorem isnOk {K : PySem.W.Frag} : CmpOk K (fun x y H Q => (y = .non ∧ Q (.bl (!decide (x = .non))) H) ∨ rNotB x y H Q) (cmpW .isn) := by
  intro fl ρ σ Fp C M H mu Q x y b vx vy e s r1 r2 g
  have e : (isW x y).map (!·) = some b := e
  unfold isW at e
  split at e
  · cases e
    exact .inl ⟨rep_non r2, by rw [rep_non r1]; exact g⟩
  · cases e
    exact .inr ⟨_, _, rep_bl r1, rep_bl r2, g⟩
  · rename_i hx _
    cases e
    exact .inl ⟨rep_non r2, by rw [decide_eq_false (non_iff r1 hx)]; exact g⟩
  · cases e

/-! ### dicts -/
def kyV : Ky → Hp → V → Prop
  | .i n, _, v => v = .int n
  | .s x, _, v => v = .str x
  | .t ks, H, v => ∃ b, v = .ref b ∧ H b = some (.tup (ks.map kV))
theorem atoms_rep {G : Gh} : ∀ {ws : List Mi.W} {ks : List L2.Key} {vs : List V}, RepL G ws 0 vs → atoms? ws = some ks → vs = ks.map kV
  | [], ks, vs, h, e => by unfold RepL at h; simp [atoms?] at e; subst e; rw [h]; rfl
  | w :: ws, ks, vs, h, e => by
    unfold RepL at h
    obtain ⟨v, r, e1, h1, h2⟩ := h
    unfold atoms? at e
    split at e
    · rename_i k ks' ek eks
      cases e
      rw [e1, atoms_rep h2 eks]
      cases w with
      | int i => simp [W.atom?] at ek; subst ek; rw [rep_int h1]; rfl
      | str x => simp [W.atom?] at ek; subst ek; rw [(rep_str h1).1]; rfl
      | _ => simp [W.atom?] at ek
    · cases e
theorem key_rep {G : Gh} {w : Mi.W} {k : Ky} {d : Nat} {v : V} (h : Rep G w d v) (e : w.key? = some k) : kyV k G.H v := by
  cases w with
  | int i => simp [W.key?] at e; subst e; exact rep_int h
  | str x => simp [W.key?] at e; subst e; exact (rep_str h).1
  | tup ws =>
    simp only [W.key?] at e
    cases q : atoms? ws with
    | none => rw [q] at e; cases e
    | some ks =>
      rw [q] at e; cases e
      obtain ⟨a, vs, e1, h1, h2, h3⟩ := rep_tup h
      exact ⟨a, e1, by rw [h1, atoms_rep h3 q]⟩
  | _ => simp [W.key?] at e
def getV (xs : List (Ky × V)) (k : Ky) : Option V := (xs.find? fun p => decide (p.1 = k)).map (·.2)
theorem getK_rep {G : Gh} {k : Ky} : ∀ {kvs : List (Ky × Mi.W)} {d : Nat} {xs : List (Ky × V)}, RepD G kvs d xs → (∀ w, getK kvs k = some w → ∃ v, getV xs k = some v ∧ Rep G w d v) ∧ (getK kvs k = none → getV xs k = none)
  | [], d, xs, h => by unfold RepD at h; subst h; exact ⟨fun _ h => (nomatch h), fun _ => rfl⟩
  | (q, w) :: r, d, xs, h => by
    unfold RepD at h
    obtain ⟨⟨q', v⟩, r', e, h1, h2⟩ := h
    unfold RepP at h1
    obtain ⟨e1, h1⟩ := h1
    have e1 : q' = q := e1
    subst e e1
    obtain ⟨i1, i2⟩ := getK_rep (k := k) h2
    by_cases hk : q' = k
    · subst hk
      refine ⟨fun w' hw => ⟨v, by simp [getV], ?_⟩, fun hw => ?_⟩
      · simp [getK] at hw; subst hw; exact h1
      · simp [getK] at hw
    · have e2 : getK ((q', w) :: r) k = getK r k := by simp [getK, hk]
      have e3 : getV ((q', v) :: r') k = getV r' k := by simp [getV, hk]
      rw [e2, e3]
      exact ⟨i1, i2⟩
theorem find_map {α β κ : Type} [DecidableEq κ] {f : α → κ} {g : α → β} {k : κ} {p : α → Bool} : ∀ (ys : List α), (∀ y ∈ ys, p y = decide (f y = k)) → ((ys.map fun y => (f y, g y)).find? fun q => decide (q.1 = k)).map (·.2) = (ys.find? p).map g
  | [], _ => rfl
  | y :: ys, h => by
    have hy := h y List.mem_cons_self
    have ih := find_map (f := f) (g := g) (k := k) (p := p) ys fun z hz => h z (List.mem_cons_of_mem _ hz)
    rw [List.map_cons, List.find?_cons, List.find?_cons, hy]
    by_cases e : f y = k
    · simp [e]
    · simp only [e, decide_false]; exact ih
/-- what the dict at a gives for a key of its kind -/
theorem dget_of {H : Hp} {a : Addr} {xs : List (Ky × V)} {k : Ky} {v : V} (hd : DAt H a xs) (hk : (xs.all fun p => p.1.flat == k.flat) = true) (hv : kyV k H v) (hu : H a ≠ none) : DGet H a v (getV xs k) ∨ (xs = [] ∧ k.flat = false ∧ H a = some (.dK [])) ∨ (xs = [] ∧ k.flat = true ∧ H a = some (.dT [])) := by
  rcases hd with ⟨ys, e, q⟩ | ⟨ys, e, q⟩
  · cases k with
    | i n =>
      have hv : v = .int n := hv
      subst hv
      refine .inl (.inl ⟨ys, .inl n, .inl e, rfl, ?_⟩)
      rw [q]
      unfold getV
      rw [find_map (f := fun y => ofK y.1) (g := fun y => y.2) (k := .i n) (p := fun y => decide (y.1 = Sum.inl n)) ys fun y _ => by
        cases y with | mk a b => cases a <;> simp [ofK]]
      rfl
    | s x =>
      have hv : v = .str x := hv
      subst hv
      refine .inl (.inl ⟨ys, .inr x, .inl e, rfl, ?_⟩)
      rw [q]
      unfold getV
      rw [find_map (f := fun y => ofK y.1) (g := fun y => y.2) (k := .s x) (p := fun y => decide (y.1 = Sum.inr x)) ys fun y _ => by
        cases y with | mk a b => cases a <;> simp [ofK]]
      rfl
    | t ks =>
      cases ys with
      | nil => exact .inr (.inl ⟨q, rfl, e⟩)
      | cons y r =>
        rw [q, List.map_cons, List.all_cons] at hk
        exfalso
        cases y with | mk a b => cases a <;> simp [ofK, Ky.flat] at hk
  · cases k with
    | t ks =>
      obtain ⟨b, rfl, hb⟩ := hv
      refine .inl (.inr ⟨ys, ks, b, .inl e, rfl, hb, ?_⟩)
      rw [q]
      unfold getV
      rw [find_map (f := fun y => Ky.t y.1) (g := fun y => y.2) (k := .t ks) (p := fun y => decide (y.1 = ks)) ys fun y _ => by simp]
      rfl
    | i n =>
      cases ys with
      | nil => exact .inr (.inr ⟨q, rfl, e⟩)
      | cons y r =>
        rw [q, List.map_cons, List.all_cons] at hk
        exfalso
        simp [Ky.flat] at hk
    | s n =>
      cases ys with
      | nil => exact .inr (.inr ⟨q, rfl, e⟩)
      | cons y r =>
        rw [q, List.map_cons, List.all_cons] at hk
        exfalso
        simp [Ky.flat] at hk
/-- .. a locked one -/
theorem dget_ofF {H : Hp} {a : Addr} {xs : List (Ky × V)} {k : Ky} {v : V} {o : Obj} (hn : xs ≠ []) (hd : (∃ ys : List (L2.Key × V), H a = some (.frz o (.dK ys)) ∧ xs = ys.map fun p => (ofK p.1, p.2)) ∨ ∃ ys : List (List L2.Key × V), H a = some (.frz o (.dT ys)) ∧ xs = ys.map fun p => (.t p.1, p.2)) (hk : (xs.all fun p => p.1.flat == k.flat) = true) (hv : kyV k H v) : DGet H a v (getV xs k) := by
  rcases hd with ⟨ys, e, q⟩ | ⟨ys, e, q⟩
  · cases k with
    | i n =>
      have hv : v = .int n := hv
      subst hv
      refine .inl ⟨ys, .inl n, .inr ⟨o, e⟩, rfl, ?_⟩
      rw [q]
      unfold getV
      rw [find_map (f := fun y => ofK y.1) (g := fun y => y.2) (k := .i n) (p := fun y => decide (y.1 = Sum.inl n)) ys fun y _ => by
        cases y with | mk a b => cases a <;> simp [ofK]]
      rfl
    | s x =>
      have hv : v = .str x := hv
      subst hv
      refine .inl ⟨ys, .inr x, .inr ⟨o, e⟩, rfl, ?_⟩
      rw [q]
      unfold getV
      rw [find_map (f := fun y => ofK y.1) (g := fun y => y.2) (k := .s x) (p := fun y => decide (y.1 = Sum.inr x)) ys fun y _ => by
        cases y with | mk a b => cases a <;> simp [ofK]]
      rfl
    | t ks =>
      cases ys with
      | nil => exact absurd q hn
      | cons y r =>
        rw [q, List.map_cons, List.all_cons] at hk
        exfalso
        cases y with | mk a b => cases a <;> simp [ofK, Ky.flat] at hk
  · cases k with
    | t ks =>
      obtain ⟨b, rfl, hb⟩ := hv
      refine .inr ⟨ys, ks, b, .inr ⟨o, e⟩, rfl, hb, ?_⟩
      rw [q]
      unfold getV
      rw [find_map (f := fun y => Ky.t y.1) (g := fun y => y.2) (k := .t ks) (p := fun y => decide (y.1 = ks)) ys fun y _ => by simp]
      rfl
    | i n =>
      cases ys with
      | nil => exact absurd q hn
      | cons y r =>
        rw [q, List.map_cons, List.all_cons] at hk
        exfalso
        simp [Ky.flat] at hk
    | s n =>
      cases ys with
      | nil => exact absurd q hn
      | cons y r =>
        rw [q, List.map_cons, List.all_cons] at hk
        exfalso
        simp [Ky.flat] at hk
end
end Mi
end Mi4_

section Mi5_
set_option linter.all false
set_option Elab.async false
/-! Mi5: dicts, in, subscripts, slices, built-ins, methods. -/
namespace Mi
open PySem PySem.Spec PyProof.Rows L2

/-! ### the empty dict is of both kinds -/
section
variable {X : Cx} {pins : List (Addr × Obj)} {σ : L2.St} {H : Hp} {s : Shared} {a : Addr} {A : Around} {E : Value → Shared → Prop}
theorem inv_kt (I : Inv X pins σ H s) (e : H a = some (.dK [])) : Inv X pins σ (upd H a (.dT [])) s := by
  obtain ⟨hz, hm, vs, r, dd⟩ := dk_of I.hok e
  cases r
  obtain ⟨o, es, ep, h1, h2, h3, h4, h5, h6⟩ := dd
  have e0 : es.toList = [] := by
    have := h5.length
    exact List.length_eq_zero_iff.mp this
  exact I.write (x := a) (e := a) (h' := s.heap) (t' := s.toks) (by rw [e]; trivial) (.inl rfl) (fun b u _ q => q) ⟨o, h1⟩
    ⟨Nat.zero_le _, hm, [], .nil, o, es, ep, h1, h2, h3, by rw [e0]; rfl, List.nodup_nil⟩
theorem inv_tk (I : Inv X pins σ H s) (e : H a = some (.dT [])) : Inv X pins σ (upd H a (.dK [])) s := by
  obtain ⟨hz, hm, xs, r, o, es, ep, h1, h2, h3, h4, h5⟩ := (show ObjOk X.prog X.w H s.heap a (.dT []) from I.hok a _ e)
  cases r
  have e0 : es = #[] := by
    have : es.toList = [] := h4
    exact Array.toList_inj.mp (by rw [this])
  subst e0
  refine I.write (x := a) (e := a) (h' := s.heap) (t' := s.toks) (by rw [e]; trivial) (.inl rfl) (fun b u _ q => q) ⟨o, h1⟩
    ⟨Nat.zero_le _, hm, [], .nil, o, #[], ep, h1, h2, h3, ?_, .nil, List.nodup_nil⟩
  intro x hx
  simp at hx
theorem upd_back {o o' : HO} (e : H a = some o) : upd (upd H a o') a o = H := by
  funext b
  by_cases h : b = a
  · subst h; rw [upd_same, e]
  · rw [upd_ne h, upd_ne h]
theorem kyV_upd {k : Ky} {v : V} {o o' : HO} (h : kyV k H v) (e : H a = some o) (hn : ∀ xs, o ≠ .tup xs) : kyV k (upd H a o') v := by
  cases k with
  | i n => exact h
  | s n => exact h
  | t ks =>
    obtain ⟨b, e1, e2⟩ := h
    refine ⟨b, e1, ?_⟩
    rw [upd_ne]
    · exact e2
    · rintro rfl
      rw [e] at e2
      cases e2
      exact hn _ rfl
/-- any question at a dict, by its kind -/
theorem at_dict {xs : List (Ky × V)} {k : Ky} {v : V} {α : Type} {t : Sem α} {Q : α → Shared → Prop} (I : Inv X pins σ H s) (hd : DAt H a xs) (hk : (xs.all fun p => p.1.flat == k.flat) = true) (hv : kyV k H v)
    (h : ∀ (H' : Hp) (s' : Shared), s' = s → Inv X pins σ H' s' → DGet H' a v (getV xs k) → (∀ s'', Inv X pins σ H' s'' → Inv X pins σ H s'') → wpAny (model X.prog X.w) A t Q E s') : wpAny (model X.prog X.w) A t Q E s := by
  rcases dget_of hd hk hv (by obtain ⟨o, e⟩ := hd.some; rw [e]; simp) with g | ⟨e1, e2, e⟩ | ⟨e1, e2, e⟩
  · exact h H s rfl I g fun _ z => z
  · subst e1
    have I' := inv_kt I e
    have hv' := kyV_upd (o' := .dT []) hv e (fun _ z => nomatch z)
    refine h _ s rfl I' ?_ fun s'' z => ?_
    · cases k with
      | t ks =>
        obtain ⟨b, rfl, hb⟩ := hv'
        exact .inr ⟨[], ks, b, .inl upd_same, rfl, hb, rfl⟩
      | i n => simp [Ky.flat] at e2
      | s n => simp [Ky.flat] at e2
    · have z' := inv_tk z upd_same
      rw [upd_back e] at z'
      exact z'
  · subst e1
    have I' := inv_tk I e
    have hv' := kyV_upd (o' := .dK []) hv e (fun _ z => nomatch z)
    refine h _ s rfl I' ?_ fun s'' z => ?_
    · cases k with
      | t ks => simp [Ky.flat] at e2
      | i n =>
        have hv' : v = .int n := hv'
        subst hv'
        exact .inl ⟨[], .inl n, .inl upd_same, rfl, rfl⟩
      | s n =>
        have hv' : v = .str n := hv'
        subst hv'
        exact .inl ⟨[], .inr n, .inl upd_same, rfl, rfl⟩
    · have z' := inv_kt z upd_same
      rw [upd_back e] at z'
      exact z'
theorem at_dictR {xs : List (Ky × V)} {k : Ky} {v : V} {α : Type} {t : Sem α} {Q : α → Shared → Prop} (I : Inv X pins σ H s) (hd : DAtR H a xs) (hk : (xs.all fun p => p.1.flat == k.flat) = true) (hv : kyV k H v)
    (h : ∀ (H' : Hp) (s' : Shared), s' = s → Inv X pins σ H' s' → DGet H' a v (getV xs k) → (∀ s'', Inv X pins σ H' s'' → Inv X pins σ H s'') → wpAny (model X.prog X.w) A t Q E s') : wpAny (model X.prog X.w) A t Q E s := by
  rcases hd with hd | ⟨hn, o, hd⟩
  · exact at_dict I hd hk hv h
  · exact h H s rfl I (dget_ofF hn hd hk hv) fun _ z => z
end
/-- y in d -/
def rInK (neg : Bool) : R2 := fun y x H Q => ∃ a xs k, x = .ref a ∧ DAtR H a xs ∧ (xs.all fun p => p.1.flat == k.flat) = true ∧ kyV k H y ∧ Q (.bl (if neg then !(getV xs k).isSome else (getV xs k).isSome)) H
section
variable {X : Cx}
theorem op_inK (hu : X.A.units + 1 < cLine) : OpR X (compareOp .In) (rInK false) := by
  intro pins s σ H x y v u Q I rx ry h
  obtain ⟨a, xs, k, rfl, hd, hk, hv, q⟩ := h
  cases ry
  refine at_dictR I hd hk hv fun H' s' es I' g back => ?_
  subst es
  exact d_in hu I' g rx fun s'' I'' => ⟨.bl _, H, back _ I'', rfl, q⟩
theorem op_ninK (hu : X.A.units + 1 < cLine) : OpR X (compareOp .NotIn) (rInK true) := by
  intro pins s σ H x y v u Q I rx ry h
  obtain ⟨a, xs, k, rfl, hd, hk, hv, q⟩ := h
  cases ry
  refine at_dictR I hd hk hv fun H' s' es I' g back => ?_
  subst es
  exact d_notIn hu I' g rx fun s'' I'' => ⟨.bl _, H, back _ I'', rfl, q⟩
/-- d[y], there -/
def rIxK : R2 := fun x y H Q => ∃ a xs k v, x = .ref a ∧ DAtR H a xs ∧ (xs.all fun p => p.1.flat == k.flat) = true ∧ kyV k H y ∧ getV xs k = some v ∧ Q v H
theorem get_K {pins : List (Addr × Obj)} {s : Shared} {σ : L2.St} {H : Hp} {x y : V} {v u : Value} {Q : VK} {A : Around} {E : Value → Shared → Prop} (hu : A.units + 1 < cLine) (I : Inv X pins σ H s) (rx : RelV x v) (ry : RelV y u) (h : rIxK x y H Q) :
    s.TypeIs v "dict" ∧ wpAny (model X.prog X.w) A (getItem v u) (EP X pins σ Q) E s := by
  obtain ⟨a, xs, k, z, rfl, hd, hk, hv, e, q⟩ := h
  cases rx
  have ty : s.TypeIs (.ref a) "dict" := by
    rcases hd with (⟨ys, e1, _⟩ | ⟨ys, e1, _⟩) | ⟨_, o, ⟨ys, e1, _⟩ | ⟨ys, e1, _⟩⟩
    · obtain ⟨_, _, vs, _, dd⟩ := dk_of I.hok e1
      exact dd.typeIs
    · obtain ⟨_, _, xs, _, dd⟩ := dt_of I.hok e1
      exact dd.typeIs
    · obtain ⟨_, _, vs, _, dd⟩ := dk_rd I.hok (.inr ⟨_, e1⟩)
      exact dd.typeIs
    · obtain ⟨_, _, xs, _, dd⟩ := dt_rd I.hok (.inr ⟨_, e1⟩)
      exact dd.typeIs
  refine ⟨ty, at_dictR I hd hk hv fun H' s' es I' g back => ?_⟩
  subst es
  rw [e] at g
  exact d_getItem hu I' g ry fun w' s'' I'' r => ⟨z, H, back _ I'', r, q⟩
theorem ix_dict (hu : X.A.units + 1 < cLine) : IxR X rIxK := by
  intro value slice pins s σ H x y v u Q I rx ry h hs
  obtain ⟨ty, g⟩ := get_K hu I rx ry h
  exact tail_any ty PySem.F.slot_dict_getitem.lookup g hs
def rIxA (K : PySem.W.Frag) : R2 := fun x y H Q => rIxL K x y H Q ∨ rIxT K x y H Q ∨ rIxS x y H Q ∨ rIxK x y H Q
theorem ix_any (hu : X.A.units + 1 < cLine) : IxR X (rIxA X.K) := ix_list.or (ix_tup.or (ix_str.or (ix_dict hu)))

def rInA (K : PySem.W.Frag) : R2 := fun x y H Q => rIn K false x y H Q ∨ rInD K x y H Q ∨ rInK false x y H Q ∨ (∃ i j, x = .str i ∧ y = .str j ∧ Q (.bl (!(Builtin.Str.occurrences j i 0 j.length 1).isEmpty)) H)
theorem op_inA (hu : X.A.units + 65 < cLine) : OpR X (compareOp .In) (rInA X.K) := op_in_seq.or ((op_inD hu).or ((op_inK (by omega)).or op_in_str))
def rNinA (K : PySem.W.Frag) : R2 := fun x y H Q => rIn K true x y H Q ∨ rNotInD K x y H Q ∨ rInK true x y H Q ∨ (∃ i j, x = .str i ∧ y = .str j ∧ Q (.bl (!(!(Builtin.Str.occurrences j i 0 j.length 1).isEmpty))) H)
theorem op_ninA (hu : X.A.units + 65 < cLine) : OpR X (compareOp .NotIn) (rNinA X.K) := op_notIn_seq.or ((op_notInD hu).or ((op_ninK (by omega)).or op_notin_str))
end
theorem rep_dct {G : Gh} {kvs : List (Ky × W)} {d : Nat} {v : V} (h : Rep G (.dct kvs) d v) : ∃ a xs, v = .ref a ∧ DAtR G.H a xs ∧ xs.length ≤ sizeLine ∧ RepD G kvs (d - 1) xs := by
  unfold Rep at h
  obtain ⟨a, xs, e, h1, h2, h3, h4⟩ := h
  exact ⟨a, xs, e, h1, h3, h4⟩
theorem flats {G : Gh} {b : Bool} : ∀ {kvs : List (Ky × W)} {d : Nat} {xs : List (Ky × V)}, RepD G kvs d xs → (xs.all fun p => p.1.flat == b) = kvs.all fun p => p.1.flat == b
  | [], d, xs, h => by unfold RepD at h; subst h; rfl
  | (k, w) :: r, d, xs, h => by
    unfold RepD at h
    obtain ⟨⟨k', v⟩, r', e, h1, h2⟩ := h
    unfold RepP at h1
    have e1 : k' = k := h1.1
    subst e e1
    rw [List.all_cons, List.all_cons, flats h2]
theorem RepD.len {G : Gh} {kvs : List (Ky × W)} {d : Nat} {xs : List (Ky × V)} (h : RepD G kvs d xs) : xs.length = kvs.length := by
  have := congrArg List.length h.keys.1
  simpa using this.symm
theorem getV_rep {G : Gh} {k : Ky} {kvs : List (Ky × W)} {d : Nat} {xs : List (Ky × V)} (h : RepD G kvs d xs) : (getV xs k).isSome = (getK kvs k).isSome := by
  obtain ⟨h1, h2⟩ := getK_rep (k := k) h
  cases e : getK kvs k with
  | none => rw [h2 e]; rfl
  | some w => obtain ⟨v, e1, _⟩ := h1 w e; rw [e1]; rfl
/-- in -/
theorem in_cases {K : PySem.W.Frag} {fl : List Fg} {ρ : Env} {σ : L2.St} {Fp : List (List Addr)} {C : Addr → Prop} {M : List W} {H : Hp} {mu : List Addr} {x y : W} {b : Bool} {vx vy : V} (e : inW x y = some b)
    (r1 : Rep (gT K H C Fp mu) x 2 vx) (r2 : Rep (gT K H C Fp mu) y 2 vy) :
    (∃ p xs, vy = .ref p ∧ (SqL K H p xs ∨ SqT K H p xs) ∧ flatV vx = true ∧ xs.all flatV = true ∧ inV vx xs = b) ∨
    (∃ d ds, Dp K H vx d ∧ Dp K H vy (.list ds) ∧ SeqAt.shaped d = true ∧ SeqAt.shaped (.list ds) = true ∧ (ds.any fun z => PyData.eqv z d) = b) ∨
    (∃ a xs k, vy = .ref a ∧ DAtR H a xs ∧ (xs.all fun p => p.1.flat == k.flat) = true ∧ kyV k H vx ∧ (getV xs k).isSome = b) ∨
    (∃ i j, vx = .str i ∧ vy = .str j ∧ (!(Builtin.Str.occurrences j i 0 j.length 1).isEmpty) = b) := by
  unfold inW at e
  split at e
  · rename_i ys
    split at e
    · rename_i hf
      cases e
      obtain ⟨p, vs, e1, h1, h2, h3⟩ := rep_lst r2
      exact .inl ⟨p, vs, e1, .inl (.inl (.inl h1)), flat_rep r1 hf.1, flat_all h3 hf.2, flat_any r1 hf.1 h3 hf.2⟩
    · split at e
      · rename_i hd
        cases e
        obtain ⟨k1, k2⟩ := r1.shaped hd.1
        obtain ⟨j1, j2⟩ := r2.shaped hd.2
        exact .inr (.inl ⟨_, _, k1, j1, k2, j2, dat_any ys⟩)
      · cases e
  · rename_i ys
    split at e
    · rename_i hf
      cases e
      obtain ⟨p, vs, e1, h1, h2, h3⟩ := rep_tup r2
      exact .inl ⟨p, vs, e1, .inr (.inl (.inl h1)), flat_rep r1 hf.1, flat_all h3 hf.2, flat_any r1 hf.1 h3 hf.2⟩
    · cases e
  · rename_i kvs
    split at e
    · rename_i k ek
      split at e
      · rename_i hf
        cases e
        obtain ⟨a, xs, e1, h1, h2, h3⟩ := rep_dct r2
        exact .inr (.inr (.inl ⟨a, xs, k, e1, h1, by rw [flats h3]; exact hf, key_rep r1 ek, getV_rep h3⟩))
      · cases e
    · cases e
  · cases e
    exact .inr (.inr (.inr ⟨_, _, (rep_str r1).1, (rep_str r2).1, rfl⟩))
  · cases e
theorem inOk {K : PySem.W.Frag} : CmpOk K (rInA K) (cmpW .inn) := by
  intro fl ρ σ Fp C M H mu Q x y b vx vy e s r1 r2 g
  rcases in_cases (fl := fl) (ρ := ρ) (σ := σ) (M := M) (show inW x y = some b from e) r1 r2 with ⟨p, xs, h1, h2, h3, h4, h5⟩ | ⟨d, ds, h1, h2, h3, h4, h5⟩ | ⟨a, xs, k, h1, h2, h3, h4, h5⟩ | ⟨i, j, h1, h2, h3⟩
  · exact .inl ⟨p, xs, h1, h2, h3, h4, by rw [if_neg Bool.false_ne_true, h5]; exact g⟩
  · exact .inr (.inl ⟨d, ds, h1, h2, h3, h4, by rw [h5]; exact g⟩)
  · exact .inr (.inr (.inl ⟨a, xs, k, h1, h2, h3, h4, by rw [if_neg Bool.false_ne_true, h5]; exact g⟩))
  · exact .inr (.inr (.inr ⟨i, j, h1, h2, by rw [h3]; exact g⟩))
theorem ninOk {K : PySem.W.Frag} : CmpOk K (rNinA K) (cmpW .nin) := by
  intro fl ρ σ Fp C M H mu Q x y b vx vy e s r1 r2 g
  obtain ⟨c, ec, hc⟩ := Option.map_eq_some_iff.mp (show (inW x y).map (!·) = some b from e)
  subst hc
  rcases in_cases (fl := fl) (ρ := ρ) (σ := σ) (M := M) ec r1 r2 with ⟨p, xs, h1, h2, h3, h4, h5⟩ | ⟨d, ds, h1, h2, h3, h4, h5⟩ | ⟨a, xs, k, h1, h2, h3, h4, h5⟩ | ⟨i, j, h1, h2, h3⟩
  · exact .inl ⟨p, xs, h1, h2, h3, h4, by rw [if_pos rfl, h5]; exact g⟩
  · exact .inr (.inl ⟨d, ds, h1, h2, h3, h4, by rw [h5]; exact g⟩)
  · exact .inr (.inr (.inl ⟨a, xs, k, h1, h2, h3, h4, by rw [if_pos rfl, h5]; exact g⟩))
  · exact .inr (.inr (.inr ⟨i, j, h1, h2, by rw [h3]; exact g⟩))

/-! ### subscripts -/
theorem atI_rep {G : Gh} {ws : List W} {d : Nat} {vs : List V} {i : Int} {w : W} (h : RepL G ws d vs) (e : L2.atI ws i = some w) : ∃ v, L2.atI vs i = some v ∧ Rep G w d v := by
  unfold L2.atI at e ⊢
  rw [h.len]
  cases q : ixN ws.length i with
  | none => rw [q] at e; cases e
  | some j =>
    rw [q] at e
    obtain ⟨v, e1, e2⟩ := h.get (i := j) (by simpa using e)
    exact ⟨v, by simpa using e1, e2⟩
theorem strOk_one {x : Str} {c : Nat} (h : PyData.strOk x = true) (hc : c ∈ x.cps.toList) : PyData.strOk ⟨#[c]⟩ = true := by
  unfold PyData.strOk at *
  have := Array.all_eq_true_iff_forall_mem.mp h c (Array.mem_toList_iff.mp hc)
  simpa using this
theorem one_line {c : Nat} : (⟨#[c]⟩ : Str).length ≤ sizeLine := by
  rw [sizeLine_eq]
  show 1 ≤ _
  decide
/-- x[y] read to the depth d - 1, x to the depth d -/
theorem ix_rep {K : PySem.W.Frag} {G G2 : Gh} {x y z : W} {vx vy : V} {d : Nat} {Q : VK} (hb : ∀ a, G.B1 a → G.B0 a) (hH : G2.H = G.H) (e : ixW x y = some z)
    (r1 : Rep G x d vx) (r2 : Rep G2 y 2 vy) (g : ∀ v, Rep G z (d - 1) v → Q v G.H) : rIxA K vx vy G.H Q := by
  unfold ixW at e
  split at e
  · obtain ⟨a, vs, e1, h1, h2, h3⟩ := rep_lst r1
    obtain ⟨v, e2, r⟩ := atI_rep h3 e
    exact .inl ⟨a, vs, _, v, e1, rep_int r2, .inl (.inl h1), e2, g v r⟩
  · obtain ⟨a, vs, e1, h1, h2, h3⟩ := rep_tup r1
    obtain ⟨v, e2, r⟩ := atI_rep h3 e
    exact .inr (.inl ⟨a, vs, _, v, e1, rep_int r2, .inl (.inl h1), e2, g v (r.mono hb (Nat.zero_le _))⟩)
  · obtain ⟨c, ec, e2⟩ := Option.map_eq_some_iff.mp e
    subst e2
    obtain ⟨e1, h1, h2⟩ := rep_str r1
    refine .inr (.inr (.inl ⟨_, _, c, e1, rep_int r2, h2, ec, g _ ?_⟩))
    unfold Rep
    refine ⟨rfl, strOk_one h1 ?_, one_line⟩
    unfold L2.atI at ec
    obtain ⟨j, _, ej⟩ := Option.bind_eq_some_iff.mp ec
    exact List.mem_of_getElem? ej
  · split at e
    · rename_i k ek
      split at e
      · rename_i hf
        obtain ⟨a, xs, e1, h1, h2, h3⟩ := rep_dct r1
        obtain ⟨v, e2, r⟩ := (getK_rep (k := k) h3).1 _ e
        exact .inr (.inr (.inr ⟨a, xs, k, v, e1, h1, by rw [flats h3]; exact hf, hH ▸ key_rep r2 ek, e2, g v r⟩))
      · cases e
    · cases e
  · cases e

/-! ### slices -/
section
variable {X : Cx}
def rSlA' (K : PySem.W.Frag) : V → Option Int → Option Int → Hp → VK → Prop := fun x lo hi H Q => rSlL K x lo hi H Q ∨ rSlA K x lo hi H Q ∨ rSlS x lo hi H Q
theorem sl_any : SlR X (rSlA' X.K) := sl_list.or (sl_tupA.or sl_str)
end
theorem cut_len {α : Type} (xs : List α) (lo hi : Option Int) : (cut xs lo hi).length ≤ xs.length := by
  unfold cut
  rw [List.length_take, List.length_drop]; omega
theorem cut_mem {α : Type} {xs : List α} {lo hi : Option Int} {x : α} (h : x ∈ cut xs lo hi) : x ∈ xs := List.mem_of_mem_drop (List.mem_of_mem_take h)
theorem cut_whole {α : Type} {xs : List α} {lo hi : Option Int} (h : HT.sIx xs.length 0 lo = 0 ∧ HT.sIx xs.length xs.length hi = xs.length) : cut xs lo hi = xs := by
  unfold cut
  rw [h.1, h.2, List.drop_zero, Nat.sub_zero, List.take_length]
theorem sl_give {K : PySem.W.Frag} {fl : List Fg} {ρ : Env} {σ : L2.St} {Fp : List (List Addr)} {C : Addr → Prop} {M : List W} {H : Hp} {mu : List Addr} {x z : W} {lo hi : Option Int} {vx : V} {Q : VK} (e : slW x lo hi = some z) (s : SR K C fl ρ M σ H Fp mu)
    (r1 : Rep (gT K H C Fp mu) x 1 vx) (g : Give K fl ρ σ Fp C M H mu (.f 1) z Q) : rSlA' K vx lo hi H Q := by
  cases x with
  | lst ws =>
    cases e
    obtain ⟨a, vs, e1, h1, h2, h3⟩ := rep_lst r1
    exact .inl ⟨a, vs, e1, .inl (.inl h1), fun p hp => g.lst s (h3.cut _ _) (Nat.le_trans (cutV_length _ _ _) h2) hp⟩
  | tup ws =>
    cases e
    obtain ⟨a, vs, e1, h1, h2, h3⟩ := rep_tup r1
    refine .inr (.inl ⟨a, vs, e1, .inl (.inl h1), fun hw => ?_, fun _ p hp => ?_⟩)
    · rw [h3.len] at hw
      rw [cut_whole hw] at g
      rw [← e1]
      exact g.f s (fun _ h => nomatch h) (fun _ h => nomatch h) (rep_tup0 r1)
    · exact g.tup s (h3.cut _ _) (Nat.le_trans (cutV_length _ _ _) h2) hp
  | str y =>
    cases e
    obtain ⟨e1, h1, h2⟩ := rep_str r1
    refine .inr (.inr ⟨y, e1, h2, ?_⟩)
    have ec : cutS y lo hi = ⟨(cut y.cps.toList lo hi).toArray⟩ := by
      unfold cutS cut
      rw [show y.cps.toList.length = y.length from Array.length_toList]
    rw [ec]
    refine g.str s ?_ ?_
    · unfold PyData.strOk at *
      rw [Array.all_eq_true_iff_forall_mem] at h1 ⊢
      exact fun c hc => h1 c (Array.mem_toList_iff.mp (cut_mem (by simpa using hc)))
    · show (cut y.cps.toList lo hi).toArray.size ≤ _
      rw [List.size_toArray]
      refine Nat.le_trans (cut_len _ _ _) ?_
      rw [Array.length_toList]; exact h2
  | _ => cases e

/-! ### built-ins by their arguments -/
/-- a built-in's rule serves g, the arguments read one deep -/
def BiOk (K : PySem.W.Frag) (r : List V → Hp → VK → Prop) (g : List W → Option W) (lv : Lv) : Prop :=
  ∀ (fl : List Fg) (ρ : Env) (σ : L2.St) (Fp : List (List Addr)) (C : Addr → Prop) (M : List W) (H : Hp) (mu : List Addr) (Q : VK) (xs : List W) (z : W) (vs : List V), g xs = some z → SR K C fl ρ M σ H Fp mu →
    RepL (gT K H C Fp mu) xs 1 vs → Give K fl ρ σ Fp C M H mu lv z Q → r vs H Q
theorem args1 {G : Gh} {x : W} {d : Nat} {vs : List V} (h : RepL G [x] d vs) : ∃ v, vs = [v] ∧ Rep G x d v := by
  unfold RepL at h
  obtain ⟨v, r, e, h1, h2⟩ := h
  unfold RepL at h2
  subst h2
  exact ⟨v, e, h1⟩
theorem args2 {G : Gh} {x y : W} {d : Nat} {vs : List V} (h : RepL G [x, y] d vs) : ∃ v u, vs = [v, u] ∧ Rep G x d v ∧ Rep G y d u := by
  unfold RepL at h
  obtain ⟨v, r, e, h1, h2⟩ := h
  obtain ⟨u, e2, h3⟩ := args1 h2
  subst e2
  exact ⟨v, u, e, h1, h3⟩
theorem args3 {G : Gh} {x y z : W} {d : Nat} {vs : List V} (h : RepL G [x, y, z] d vs) : ∃ v u t, vs = [v, u, t] ∧ Rep G x d v ∧ Rep G y d u ∧ Rep G z d t := by
  unfold RepL at h
  obtain ⟨v, r, e, h1, h2⟩ := h
  obtain ⟨u, t, e2, h3, h4⟩ := args2 h2
  subst e2
  exact ⟨v, u, t, e, h1, h3, h4⟩
def rLenA (K : PySem.W.Frag) : List V → Hp → VK → Prop := fun xs H Q => (∃ p ys, xs = [.ref p] ∧ (SqL K H p ys ∨ SqT K H p ys) ∧ Q (.int ys.length) H) ∨ (∃ z, xs = [.str z] ∧ z.length ≤ sizeLine ∧ Q (.int z.length) H)
theorem call_lenA {X : Cx} : CallR X (.builtin "len") (rLenA X.K) := call_len_seq.or call_len_str
theorem lenOk {K : PySem.W.Frag} : BiOk K (rLenA K) (biW .len) (.f 2) := by
  intro fl ρ σ Fp C M H mu Q xs z vs e s r g
  have e : lenW xs = some z := e
  unfold lenW at e
  split at e
  · cases e
    obtain ⟨v, rfl, h⟩ := args1 r
    obtain ⟨e1, h1, h2⟩ := rep_str h
    exact .inr ⟨_, by rw [e1], h2, g.int s⟩
  · cases e
    obtain ⟨v, rfl, h⟩ := args1 r
    obtain ⟨a, us, e1, h1, h2, h3⟩ := rep_lst h
    exact .inl ⟨a, us, by rw [e1], .inl (.inl (.inl h1)), by rw [h3.len]; exact g.int s⟩
  · cases e
    obtain ⟨v, rfl, h⟩ := args1 r
    obtain ⟨a, us, e1, h1, h2, h3⟩ := rep_tup h
    exact .inl ⟨a, us, by rw [e1], .inr (.inl (.inl h1)), by rw [h3.len]; exact g.int s⟩
  · cases e
def rIntA : List V → Hp → VK → Prop := fun xs H Q => (∃ i, xs = [.int i] ∧ Q (.int i) H) ∨ ∃ k, xs = [.bl k] ∧ Q (.int (if k then 1 else 0)) H
theorem intOk {K : PySem.W.Frag} : BiOk K rIntA (biW .int) (.f 2) := by
  intro fl ρ σ Fp C M H mu Q xs z vs e s r g
  have e : intW xs = some z := e
  unfold intW at e
  split at e
  · cases e
    obtain ⟨v, rfl, h⟩ := args1 r
    exact .inl ⟨_, by rw [rep_int h], g.int s⟩
  · cases e
    obtain ⟨v, rfl, h⟩ := args1 r
    exact .inr ⟨_, by rw [rep_bl h], g.int s⟩
  · cases e
def rTupleA (K : PySem.W.Frag) : List V → Hp → VK → Prop := fun xs H Q => ∃ p ys, xs = [.ref p] ∧ ((SqL K H p ys ∧ ∀ l, H l = none → Q (.ref l) (upd H l (.tup ys))) ∨ (SqT K H p ys ∧ Q (.ref p) H))
theorem tupleOk {K : PySem.W.Frag} : BiOk K (rTupleA K) (biW .tuple) (.f 2) := by
  intro fl ρ σ Fp C M H mu Q xs z vs e s r g
  have e : tupleW xs = some z := e
  unfold tupleW at e
  split at e
  · cases e
    obtain ⟨v, rfl, h⟩ := args1 r
    obtain ⟨a, us, e1, h1, h2, h3⟩ := rep_lst h
    exact ⟨a, us, by rw [e1], .inl ⟨.inl (.inl h1), fun p hp => g.tup s h3 h2 hp⟩⟩
  · cases e
    obtain ⟨v, rfl, h⟩ := args1 r
    obtain ⟨a, us, e1, h1, h2, h3⟩ := rep_tup h
    refine ⟨a, us, by rw [e1], .inr ⟨.inl (.inl h1), ?_⟩⟩
    rw [← e1]
    exact g.f s (fun _ h => nomatch h) (fun _ h => nomatch h) (rep_tup0 h)
  · cases e
def rListA (K : PySem.W.Frag) : List V → Hp → VK → Prop := fun xs H Q => ∃ p ys, xs = [.ref p] ∧ (SqL K H p ys ∨ SqT K H p ys) ∧ ∀ l, H l = none → Q (.ref l) (upd H l (.lst ys))
theorem listOk {K : PySem.W.Frag} : BiOk K (rListA K) (biW .list) (.f 1) := by
  intro fl ρ σ Fp C M H mu Q xs z vs e s r g
  have e : listW xs = some z := e
  unfold listW at e
  split at e
  · cases e
    obtain ⟨v, rfl, h⟩ := args1 r
    obtain ⟨a, us, e1, h1, h2, h3⟩ := rep_lst h
    exact ⟨a, us, by rw [e1], .inl (.inl (.inl h1)), fun p hp => g.lst s h3 h2 hp⟩
  · cases e
    obtain ⟨v, rfl, h⟩ := args1 r
    obtain ⟨a, us, e1, h1, h2, h3⟩ := rep_tup h
    exact ⟨a, us, by rw [e1], .inr (.inl (.inl h1)), fun p hp => g.lst s h3 h2 hp⟩
  · cases e
theorem sum_rawT {prog : Program} {w : World} {A : Around} {E : Value → Shared → Prop} {s : Shared} {l : Addr} {its : List Value} {ns : List Int} {Q : Value → Shared → Prop} (hh : A.handled = none) (hl : s.heap.IsTuple l its.toArray) (hi : IntsAre its ns)
    (h : ∀ h' tk t', (∀ b o, s.heap.get? b = some o → h'.get? b = some o) → Q (.int ns.sum t') { s with heap := h', toks := tk }) : wpAny (model prog w) A (call (.builtin "sum") [.ref l]) Q E s := by
  obtain ⟨xs, e⟩ := hi.allInts.items
  have hn : numsOf (intItems xs).toList = ns := by rw [← e]; exact hi.numsOf
  rw [nums_intItems] at hn
  rw [e] at hl
  have hlt : l < s.heap.objs.size := by obtain ⟨_, e, _⟩ := hl; exact Heap.lt_size e
  refine call_sum_walkG (wpAny_pyIter_tuple hl ?_)
  refine ⟨s.heap.objs.size, [s.heap.objs.size, l], [s.heap.objs.size], _, _, _, numAt xs, rfl, Walks.tuple (A := A.in1) hh _ l (Nat.ne_of_lt hlt) (intItems xs), ⟨⟨_, Heap.get?_push_size _ rfl, rfl, rfl⟩, hl.push _⟩, fun b hb => ?_, (fun _ _ => intItems_at), fun h' tk t' hk => ?_⟩
  · show b < (s.heap.push _).objs.size
    rw [Heap.size_push]
    rcases List.mem_cons.mp hb with rfl | hb
    · exact Nat.lt_succ_self _
    · rw [List.mem_singleton.mp hb]; exact Nat.lt_succ_of_lt hlt
  · have := h h' tk t' fun b o hb => hk b o (fun z => by rw [List.mem_singleton.mp z] at hb; exact absurd (Heap.lt_size hb) (Nat.lt_irrefl _)) (Heap.get?_push_of_some _ hb)
    rw [preSum_eq, List.take_of_length_le (by simp [intItems]), hn]; exact this
/-- sum of a tuple -/
def rSumT (K : PySem.W.Frag) : List V → Hp → VK → Prop := fun vs H Q => ∃ (a : Addr) (ns : List Int), vs = [V.ref a] ∧ SqT K H a (ns.map V.int) ∧ Q (.int ns.sum) H
theorem cr_sumT {X : Cx} (hc : X.calm = true) : CallR X (.builtin "sum") (rSumT X.K) := by
  intro pins s σ H vs us Q I r h
  obtain ⟨a, ns, rfl, hs, q⟩ := h
  obtain ⟨its, rv, hl, _⟩ := I.tuple hs
  rw [Vals.ref1 r]
  exact sum_rawT (I.ok.hd hc) (show s.heap.IsTuple a its.toArray from hl) rv.ints fun h' tk t' hk => ⟨.int _, H, I.kept hk, ⟨_, rfl⟩, q⟩
def rSumA (K : PySem.W.Frag) : List V → Hp → VK → Prop := fun vs H Q => rSum K vs H Q ∨ rSumT K vs H Q
theorem sumOk {K : PySem.W.Frag} : BiOk K (rSumA K) (biW .sum) (.f 2) := by
  intro fl ρ σ Fp C M H mu Q xs z vs e s r g
  have e : sumW xs = some z := e
  unfold sumW at e
  split at e
  · obtain ⟨ns, en, e⟩ := Option.map_eq_some_iff.mp e
    subst e
    obtain ⟨v, rfl, h⟩ := args1 r
    obtain ⟨a, us, e1, h1, h2, h3⟩ := rep_lst h
    exact .inl ⟨a, ns, by rw [e1], .inl (.inl (by have q := h3.ints en; subst q; exact h1)), g.int s⟩
  · obtain ⟨ns, en, e⟩ := Option.map_eq_some_iff.mp e
    subst e
    obtain ⟨v, rfl, h⟩ := args1 r
    obtain ⟨a, us, e1, h1, h2, h3⟩ := rep_tup h
    exact .inr ⟨a, ns, by rw [e1], .inl (.inl (by have q := h3.ints en; subst q; exact h1)), g.int s⟩
  · cases e
theorem anyOk {K : PySem.W.Frag} : BiOk K (rAny K) (biW .any) (.f 2) := by
  intro fl ρ σ Fp C M H mu Q xs z vs e s r g
  have e : anyW xs = some z := e
  unfold anyW at e
  split at e
  · obtain ⟨ns, en, e⟩ := Option.map_eq_some_iff.mp e
    subst e
    obtain ⟨v, rfl, h⟩ := args1 r
    obtain ⟨a, us, e1, h1, h2, h3⟩ := rep_lst h
    exact ⟨a, ns, by rw [e1], .inl (.inl (by have q := h3.bls en; subst q; exact h1)), g.bl s⟩
  · cases e
theorem allOk {K : PySem.W.Frag} : BiOk K (rAll K) (biW .all) (.f 2) := by
  intro fl ρ σ Fp C M H mu Q xs z vs e s r g
  have e : allW xs = some z := e
  unfold allW at e
  split at e
  · obtain ⟨ns, en, e⟩ := Option.map_eq_some_iff.mp e
    subst e
    obtain ⟨v, rfl, h⟩ := args1 r
    obtain ⟨a, us, e1, h1, h2, h3⟩ := rep_lst h
    exact ⟨a, ns, by rw [e1], .inl (.inl (by have q := h3.bls en; subst q; exact h1)), g.bl s⟩
  · cases e
theorem maxL_mem : ∀ (n : Int) (ns : List Int), maxL (n :: ns) ∈ n :: ns ∧ ∀ y ∈ n :: ns, y ≤ maxL (n :: ns)
  | n, [] => ⟨by simp [maxL], fun y hy => by simp at hy; subst hy; exact Int.le_refl _⟩
  | n, m :: ns => by
    obtain ⟨h1, h2⟩ := maxL_mem m ns
    have e : maxL (n :: m :: ns) = max n (maxL (m :: ns)) := rfl
    rw [e]
    refine ⟨?_, fun y hy => ?_⟩
    · by_cases h : n ≤ maxL (m :: ns)
      · rw [Int.max_eq_right h]; exact List.mem_cons_of_mem _ h1
      · rw [Int.max_eq_left (by omega)]; exact List.mem_cons_self
    · rcases List.mem_cons.mp hy with rfl | hy
      · exact Int.le_max_left _ _
      · exact Int.le_trans (h2 y hy) (Int.le_max_right _ _)
theorem minL_mem : ∀ (n : Int) (ns : List Int), minL (n :: ns) ∈ n :: ns ∧ ∀ y ∈ n :: ns, minL (n :: ns) ≤ y
  | n, [] => ⟨by simp [minL], fun y hy => by simp at hy; subst hy; exact Int.le_refl _⟩
  | n, m :: ns => by
    obtain ⟨h1, h2⟩ := minL_mem m ns
    have e : minL (n :: m :: ns) = min n (minL (m :: ns)) := rfl
    rw [e]
    refine ⟨?_, fun y hy => ?_⟩
    · by_cases h : n ≤ minL (m :: ns)
      · rw [Int.min_eq_left h]; exact List.mem_cons_self
      · rw [Int.min_eq_right (by omega)]; exact List.mem_cons_of_mem _ h1
    · rcases List.mem_cons.mp hy with rfl | hy
      · exact Int.min_le_left _ _
      · exact Int.le_trans (Int.min_le_right _ _) (h2 y hy)
def rMaxA (K : PySem.W.Frag) : List V → Hp → VK → Prop := fun xs H Q => (∃ i j, xs = [.int i, .int j] ∧ Q (.int (if j > i then j else i)) H) ∨ rMax K xs H Q ∨ rNuC3 nuMax3 xs H Q
def rMinA (K : PySem.W.Frag) : List V → Hp → VK → Prop := fun xs H Q => (∃ i j, xs = [.int i, .int j] ∧ Q (.int (if j < i then j else i)) H) ∨ rMin K xs H Q
theorem maxOk {K : PySem.W.Frag} : BiOk K (rMaxA K) (biW .max) (.f 2) := by
  intro fl ρ σ Fp C M H mu Q xs z vs e s r g
  have e : maxW xs = some z := e
  unfold maxW at e
  split at e
  · cases e
    obtain ⟨v, u, rfl, h, h'⟩ := args2 r
    exact .inl ⟨_, _, by rw [rep_int h, rep_int h'], g.int s⟩
  · cases e
    obtain ⟨v, u, w, rfl, h, h', h''⟩ := args3 r
    refine .inr (.inr ⟨v, u, w, _, rfl, ?_, g.int s⟩)
    rw [rep_int h, rep_int h', rep_int h'']
    rename_i i j k
    show ((some (decide (i < j))).map fun c => if c = true then V.int j else V.int i).bind (fun m => (nuLt m (V.int k)).map fun c => if c = true then V.int k else m) = _
    by_cases h1 : i < j
    · by_cases h2 : j < k
      · simp [h1, h2, nuLt, nuCB]
      · simp [h1, h2, nuLt, nuCB]
    · by_cases h2 : i < k
      · simp [h1, h2, nuLt, nuCB]
      · simp [h1, h2, nuLt, nuCB]
  · split at e
    · rename_i n ns en
      cases e
      obtain ⟨v, rfl, h⟩ := args1 r
      obtain ⟨a, us, e1, h1, h2, h3⟩ := rep_lst h
      refine .inr (.inl ⟨a, n :: ns, by rw [e1], .inl (.inl (by have q := h3.ints en; subst q; exact h1)), by simp, fun m hm hle => ?_⟩)
      obtain ⟨k1, k2⟩ := maxL_mem n ns
      have em : maxL (n :: ns) = m := Int.le_antisymm (hle _ k1) (k2 m hm)
      rw [em] at g
      exact g.int s
    · cases e
  · cases e
theorem minOk {K : PySem.W.Frag} : BiOk K (rMinA K) (biW .min) (.f 2) := by
  intro fl ρ σ Fp C M H mu Q xs z vs e s r g
  have e : minW xs = some z := e
  unfold minW at e
  split at e
  · cases e
    obtain ⟨v, u, rfl, h, h'⟩ := args2 r
    exact .inl ⟨_, _, by rw [rep_int h, rep_int h'], g.int s⟩
  · split at e
    · rename_i n ns en
      cases e
      obtain ⟨v, rfl, h⟩ := args1 r
      obtain ⟨a, us, e1, h1, h2, h3⟩ := rep_lst h
      refine .inr ⟨a, n :: ns, by rw [e1], .inl (.inl (by have q := h3.ints en; subst q; exact h1)), by simp, fun m hm hle => ?_⟩
      obtain ⟨k1, k2⟩ := minL_mem n ns
      have em : minL (n :: ns) = m := Int.le_antisymm (k2 m hm) (hle _ k1)
      rw [em] at g
      exact g.int s
    · cases e
  · cases e
/-! sorted -/
theorem sort_one {α : Type} {le : α → α → Bool} (anti : ∀ a b, le a b = true → le b a = true → a = b) (trans : ∀ a b c, le a b = true → le b c = true → le a c = true) (total : ∀ a b, (le a b || le b a) = true) {xs ys : List α} (hp : ys.Perm xs)
    (hs : ys.Pairwise fun a b => le a b = true) : ys = xs.mergeSort le :=
  List.Perm.eq_of_pairwise (fun a b _ _ h1 h2 => anti a b h1 h2) hs (List.pairwise_mergeSort trans total xs) (hp.trans (List.mergeSort_perm xs le).symm)
theorem leInt_anti : ∀ a b : Int, leInt a b = true → leInt b a = true → a = b := fun a b h1 h2 => by simp [leInt] at h1 h2; omega
theorem leInt_trans : ∀ a b c : Int, leInt a b = true → leInt b c = true → leInt a c = true := fun a b c h1 h2 => by simp [leInt] at *; omega
theorem leInt_total : ∀ a b : Int, (leInt a b || leInt b a) = true := fun a b => by simp [leInt]; omega
theorem strs_eq {x y : Str} (h : x.cps.toList = y.cps.toList) : x = y := by
  cases x; cases y
  simp only [Str.mk.injEq]
  exact Array.toList_inj.mp h
theorem leStr_anti : ∀ a b : Str, leStr a b = true → leStr b a = true → a = b := fun a b h1 h2 => by
  simp only [leStr, decide_eq_true_eq] at h1 h2
  exact strs_eq (List.le_antisymm h1 h2)
theorem leStr_trans : ∀ a b c : Str, leStr a b = true → leStr b c = true → leStr a c = true := fun a b c h1 h2 => by
  simp only [leStr, decide_eq_true_eq] at *
  exact List.le_trans h1 h2
theorem leStr_total : ∀ a b : Str, (leStr a b || leStr b a) = true := fun a b => by
  simp only [leStr, Bool.or_eq_true, decide_eq_true_eq]
  exact List.le_total _ _
end Mi
end Mi5_

section Mi6_
set_option linter.all false
set_option Elab.async false
/-! Mi6: each expression's rule. -/
namespace Mi
open PySem PySem.Spec PyProof.Rows L2

section
variable {w : Wish} {fl : List Fg} {ρ : Env} {σ : L2.St} {Fp : List (List Addr)} {C : Addr → Prop}
/-- what an outcome's meaning must bear -/
structure IsOut (w : Wish) (fl : List Fg) (ρ : Env) (σ : L2.St) (Fp : List (List Addr)) (C : Addr → Prop) {β : Type} (out : Hp → List Addr → R β → Prop) : Prop where
  no : ∀ H mu, ¬ out H mu .no
  ex : ∀ H mu x M, out H mu (.ex x M) → ∀ H' mu', Po w.K fl ρ σ Fp C H mu C M H' mu' → ∀ cls d, ExcOk w.cm x cls d → w.W cls d σ H'
  sh : ∀ H mu M1 H1 mu1 r, Po w.K fl ρ σ Fp C H mu C M1 H1 mu1 → out H mu r → out H1 mu1 r
theorem Po.back {K : PySem.W.Frag} {H H1 : Hp} {mu mu1 : List Addr} {C1 : Addr → Prop} {M1 : List W} (p : Po K fl ρ σ Fp C H mu C1 M1 H1 mu1) {a : Addr} (e : H1 a = none) : H a = none := by
  cases z : H a with
  | none => rfl
  | some o =>
    by_cases hm : a ∈ mu
    · obtain ⟨o', e'⟩ := p.sr.tr a (List.mem_append_left _ (p.mum a hm))
      rw [e] at e'; cases e'
    · rw [p.ext a o z hm] at e; cases e
theorem isOutV {lv : Lv} {Q : VK} : IsOut w fl ρ σ Fp C fun H mu r => OutV w fl lv ρ σ Fp C H mu r Q where
  no := fun H mu h => h
  ex := fun H mu x M h => h
  sh := fun H mu M1 H1 mu1 r p h => by
    cases r with
    | no => exact h
    | ex x M => exact fun H' mu' q => h H' mu' (p.trans q)
    | ok x M => exact fun v H' mu' S q nd fr hv => h v H' mu' S (p.trans q) nd (fun a ha => p.back (fr a ha)) hv
theorem isOutR {d : Nat} {Q : VK} : IsOut w fl ρ σ Fp C fun H mu r => OutR w fl d ρ σ Fp C H mu r Q where
  no := fun H mu h => h
  ex := fun H mu x M h => h
  sh := fun H mu M1 H1 mu1 r p h => by
    cases r with
    | no => exact h
    | ex x M => exact fun H' mu' q => h H' mu' (p.trans q)
    | ok x M => exact fun v H' mu' q hv => h v H' mu' (p.trans q) hv
theorem isOutL {ds : List Nat} {Q : List V → Hp → Prop} : IsOut w fl ρ σ Fp C fun H mu r => OutL w fl ds ρ σ Fp C H mu r Q where
  no := fun H mu h => h
  ex := fun H mu x M h => h
  sh := fun H mu M1 H1 mu1 r p h => by
    cases r with
    | no => exact h
    | ex x M => exact fun H' mu' q => h H' mu' (p.trans q)
    | ok x M => exact fun v H' mu' q hv => h v H' mu' (p.trans q) hv
theorem isOutB {Q : Bool → Hp → Prop} : IsOut w fl ρ σ Fp C fun H mu r => OutB w fl ρ σ Fp C H mu r Q where
  no := fun H mu h => h
  ex := fun H mu x M h => h
  sh := fun H mu M1 H1 mu1 r p h => by
    cases r with
    | no => exact h
    | ex x M => exact fun H' mu' q => h H' mu' (p.trans q)
    | ok x M => exact fun H' mu' q => h H' mu' (p.trans q)
end

section
variable {X : Cx} {cl : Nat → List W → List W → R W} {w : Wish} {fl : List Fg} {C : Addr → Prop} {ρ : Env} {M : List Mi.W} {σ : L2.St} {H : Hp} {Fp : List (List Addr)} {mu : List Addr} {Q : VK} {lv : Lv}
  {β : Type} {out : Hp → List Addr → R β → Prop}

theorem bindR {a : E} {da : Nat} {g : Mi.W → List Mi.W → R β} {P : V → Hp → Prop} (o : IsOut w fl ρ σ Fp C out) (s : SR w.K C fl ρ M σ H Fp mu) (q : out H mu ((ev cl a ρ M).bind g))
    (k : ∀ x v M' H' mu', Po w.K fl ρ σ Fp C H mu C M' H' mu' → Rep (gT w.K H' C Fp mu') x da v → out H' mu' (g x M') → P v H') : TR cl w fl da a σ H P := by
  refine ⟨C, ρ, M, Fp, mu, s, ?_⟩
  show OutR w fl da ρ σ Fp C H mu (ev cl a ρ M) P
  revert q
  cases ev cl a ρ M with
  | no => exact fun q => o.no _ _ q
  | ex x M' => exact fun q => o.ex _ _ _ _ q
  | ok x M' => exact fun q v H' mu' p r => k x v M' H' mu' p r (o.sh _ _ _ _ _ _ p q)
theorem bindB {t : T} {g : Bool → List Mi.W → R β} {P : Bool → Hp → Prop} (o : IsOut w fl ρ σ Fp C out) (s : SR w.K C fl ρ M σ H Fp mu) (q : out H mu ((evT cl t ρ M).bind g))
    (k : ∀ b M' H' mu', Po w.K fl ρ σ Fp C H mu C M' H' mu' → out H' mu' (g b M') → P b H') : TB cl w fl t σ H P := by
  refine ⟨C, ρ, M, Fp, mu, s, ?_⟩
  show OutB w fl ρ σ Fp C H mu (evT cl t ρ M) P
  revert q
  cases evT cl t ρ M with
  | no => exact fun q => o.no _ _ q
  | ex x M' => exact fun q => o.ex _ _ _ _ q
  | ok x M' => exact fun q H' mu' p => k x M' H' mu' p (o.sh _ _ _ _ _ _ p q)
/-- the arguments, each read to its depth -/
def RepDs (G : Gh) (ds : List Nat) (xs : List W) (vs : List V) : Prop :=
  ds.length = xs.length ∧ vs.length = xs.length ∧ ∀ (i : Nat) (x : Mi.W) (v : V) (d : Nat), xs[i]? = some x → vs[i]? = some v → ds[i]? = some d → Rep G x d v
theorem bindL {es : List E} {ds : List Nat} {g : List Mi.W → List Mi.W → R β} {P : List V → Hp → Prop} (o : IsOut w fl ρ σ Fp C out) (s : SR w.K C fl ρ M σ H Fp mu) (q : out H mu ((evs cl es ρ M).bind g))
    (k : ∀ xs vs M' H' mu', Po w.K fl ρ σ Fp C H mu C M' H' mu' → RepDs (gT w.K H' C Fp mu') ds xs vs → out H' mu' (g xs M') → P vs H') : TL cl w fl ds es σ H P := by
  refine ⟨C, ρ, M, Fp, mu, s, ?_⟩
  show OutL w fl ds ρ σ Fp C H mu (evs cl es ρ M) P
  revert q
  cases evs cl es ρ M with
  | no => exact fun q => o.no _ _ q
  | ex x M' => exact fun q => o.ex _ _ _ _ q
  | ok x M' => exact fun q v H' mu' p r => k x v M' H' mu' p r (o.sh _ _ _ _ _ _ p q)
theorem RepDs.all {G : Gh} {d : Nat} : ∀ {ds : List Nat} {xs : List Mi.W} {vs : List V}, RepDs G ds xs vs → (∀ k ∈ ds, k = d) → RepL G xs d vs
  | [], xs, vs, h, _ => by
    obtain ⟨h1, h2, _⟩ := h
    have e1 : xs = [] := List.length_eq_zero_iff.mp h1.symm
    subst e1
    have e2 : vs = [] := List.length_eq_zero_iff.mp h2
    subst e2
    exact .nil
  | k :: ds, [], vs, h, _ => by simp [RepDs] at h
  | k :: ds, x :: xs, [], h, _ => by simp [RepDs] at h
  | k :: ds, x :: xs, v :: vs, h, hk => by
    obtain ⟨h1, h2, h3⟩ := h
    have e := hk k List.mem_cons_self
    subst e
    exact .cons (h3 0 x v k rfl rfl rfl) (RepDs.all ⟨by simpa using h1, by simpa using h2, fun i x' v' d' a b c => h3 (i + 1) x' v' d' (by simpa using a) (by simpa using b) (by simpa using c)⟩ fun j hj => hk j (List.mem_cons_of_mem _ hj))

/-! ### lists of expressions -/
theorem pa_e {ps : List Expr} (h : ps = []) : PA X ps (TL cl w fl [] []) := by
  subst h
  refine PA.weak pa_nil fun σ H Q ⟨C, ρ, M, Fp, mu, s, q⟩ => ?_
  exact q [] H mu (Po.refl s) ⟨rfl, rfl, fun i x v d e => by simp at e⟩
theorem pa_c {p : Expr} {ps : List Expr} {e : E} {es : List E} {d : Nat} {ds : List Nat} (he : PE X p (TR cl w fl d e)) (hr : PA X ps (TL cl w fl ds es)) (hs : starEach (p :: ps) X.env = (false, eval p X.env) :: starEach ps X.env) :
    PA X (p :: ps) (TL cl w fl (d :: ds) (e :: es)) := by
  refine PA.weak (pa_cons he hr hs) fun σ H Q ⟨C, ρ, M, Fp, mu, s, q⟩ => ?_
  have q : OutL w fl (d :: ds) ρ σ Fp C H mu (evs cl (e :: es) ρ M) Q := q
  unfold evs at q
  refine bindR isOutL s q fun x v M1 H1 mu1 p1 r1 q1 => ?_
  refine bindL isOutL p1.sr q1 fun xs vs M2 H2 mu2 p2 r2 q2 => ?_
  refine q2 (v :: vs) H2 mu2 (Po.refl p2.sr) ?_
  obtain ⟨k1, k2, k3⟩ := r2
  refine ⟨by simp [k1], by simp [k2], fun i y u c a b e => ?_⟩
  cases i with
  | zero => simp at a b e; subst a b e; exact r1.to p2.toT
  | succ i => exact k3 i y u c (by simpa using a) (by simpa using b) (by simpa using e)

/-! ### names, constants -/
theorem OutV.ok {x : Mi.W} (q : OutV w fl lv ρ σ Fp C H mu (.ok x M) Q) : Give w.K fl ρ σ Fp C M H mu lv x Q := q
theorem pe_cn {p : Expr} {e : E} {x : Mi.W} {v : V} (h : PE X p (tC v)) (he : ∀ ρ M, ev cl e ρ M = .ok x M) (hw : ∀ ws, x ≠ .lst ws) (hd : ∀ ks, x ≠ .dct ks) (hr : ∀ G, Rep G x 0 v) : PE X p (TV cl w fl (.f 2) e) := by
  refine PE.weak h fun σ H Q ⟨C, ρ, M, Fp, mu, s, q⟩ => ?_
  have q : OutV w fl (.f 2) ρ σ Fp C H mu (ev cl e ρ M) Q := q
  rw [he] at q
  exact q.ok.f s hw hd (hr _)
def lvOf : Fg → Option Lv
  | .pl => some (.t 0)
  | .bo d => some (.t d)
  | .ow d => some (.t d)
  | .lk d => some (.t d)
  | .dd => none
theorem pe_vr {p : Expr} {i : Nat} {g : Fg} (h : PE X p (tVar i)) (hg : fl[i]? = some g) (hl : lvOf g = some lv) : PE X p (TV cl w fl lv (.var i)) := by
  refine PE.weak h fun σ H Q ⟨C, ρ, M, Fp, mu, s, q⟩ => ?_
  have q : OutV w fl lv ρ σ Fp C H mu (ev cl (.var i) ρ M) Q := q
  unfold ev at q
  split at q
  · rename_i x ex
    have h1 := s.sl i g x hg ex
    have fin : ∀ {n : Nat} {v : V}, lv = .t n → σ[i]?.join = some v → Rep (gT w.K H C Fp mu) x n v → tVar i σ H Q := fun {n v} el e r => by
      subst el
      refine ⟨v, ?_, q.ok.t s r⟩
      cases z : σ[i]? with
      | none => rw [z] at e; cases e
      | some o => rw [z] at e; exact congrArg some e
    have nm : ∀ a ∈ Fp[i]?.getD [], a ∉ mu := fun a ha hm => by
      have hf : a ∈ Fp.flatten := by
        cases z : Fp[i]? with
        | none => rw [z] at ha; simp at ha
        | some l => rw [z] at ha; exact List.mem_flatten.mpr ⟨l, List.mem_of_getElem? z, ha⟩
      exact (List.nodup_append.mp s.nd).2.2 a hm a hf rfl
    cases g with
    | pl =>
      obtain ⟨v, e, r⟩ := h1
      simp [lvOf] at hl
      exact fin hl.symm e (r.to gS_gT)
    | bo d =>
      obtain ⟨v, e, r⟩ := h1
      simp [lvOf] at hl
      exact fin hl.symm e (r.to gS_gT)
    | ow d =>
      obtain ⟨v, e, r⟩ := h1
      simp [lvOf] at hl
      exact fin hl.symm e ((r.to gS_gT fun _ _ _ z => z).rep gT_b nm)
    | lk d =>
      obtain ⟨v, e, r⟩ := h1
      simp [lvOf] at hl
      exact fin hl.symm e ((r.to gS_gT fun _ _ _ z => z).rep gT_b nm)
    | dd => cases hl
  · exact q.elim

/-! ### displays -/
theorem pe_tp {ps : List Expr} {es : List E} {ds : List Nat} {k : Nat} {pos : Pos} (h : PA X ps (TL cl w fl ds es)) (h0 : ∀ d ∈ ds, d = 0) (hl : ds.length ≤ 1000) : PE X (.Tuple ps k pos) (TV cl w fl (.f 2) (.tup es)) := by
  refine PE.weak (pe_tup h) fun σ H Q ⟨C, ρ, M, Fp, mu, s, q⟩ => ?_
  have q : OutV w fl (.f 2) ρ σ Fp C H mu (ev cl (.tup es) ρ M) Q := q
  unfold ev at q
  refine bindL isOutV s q fun xs vs M' H' mu' p r q' => ?_
  have hv : vs.length ≤ sizeLine := by have := r.1; have := r.2.1; rw [sizeLine_eq]; omega
  exact ⟨hv, fun a ha => q'.ok.tup p.sr (r.all h0) hv ha⟩
theorem pe_ls {ps : List Expr} {es : List E} {ds : List Nat} {pos : Pos} (h : PA X ps (TL cl w fl ds es)) (h0 : ∀ d ∈ ds, d = 0) (hl : ds.length ≤ 1000) : PE X (.List ps pos) (TV cl w fl (.f 1) (.lst es)) := by
  refine PE.weak (pe_lst h) fun σ H Q ⟨C, ρ, M, Fp, mu, s, q⟩ => ?_
  have q : OutV w fl (.f 1) ρ σ Fp C H mu (ev cl (.lst es) ρ M) Q := q
  unfold ev at q
  refine bindL isOutV s q fun xs vs M' H' mu' p r q' => ?_
  have hv : vs.length ≤ sizeLine := by have := r.1; have := r.2.1; rw [sizeLine_eq]; omega
  exact ⟨hv, fun a ha => q'.ok.lst p.sr (r.all h0) hv ha⟩

/-! ### operators -/
theorem pe_ng {p : Expr} {a : E} {pos : Pos} (h : PE X p (TR cl w fl 2 a)) : PE X (.UnaryOp .USub p pos) (TV cl w fl (.f 2) (.neg a)) := by
  refine PE.weak (pe_un un_neg h) fun σ H Q ⟨C, ρ, M, Fp, mu, s, q⟩ => ?_
  have q : OutV w fl (.f 2) ρ σ Fp C H mu (ev cl (.neg a) ρ M) Q := q
  unfold ev at q
  refine bindR isOutV s q fun x v M' H' mu' p r q' => ?_
  cases x with
  | int i => exact ⟨i, rep_int r, q'.ok.int p.sr⟩
  | _ => exact q'.elim
theorem OutV.bl {b : Option Bool} (q : OutV w fl lv ρ σ Fp C H mu (R.of (b.map .bl) M) Q) : ∃ c, b = some c ∧ Give w.K fl ρ σ Fp C M H mu lv (.bl c) Q := by
  cases b with
  | none => exact q.elim
  | some c => exact ⟨c, rfl, q⟩
theorem pe_cp {pa pb : Expr} {op : CmpOp} {o : Cop} {a b : E} {pos : Pos} {r : R2} (ho : OpR X (compareOp op) r) (hk : CmpOk w.K r (cmpW o)) (ha : PE X pa (TR cl w fl 2 a)) (hb : PE X pb (TR cl w fl 2 b)) (hm : behindInMarks op pb = false) :
    PE X (.Compare pa [op] [pb] pos) (TV cl w fl (.f 2) (.cmp o a b)) := by
  refine PE.weak (pe_cmpR ho ha hb hm) fun σ H Q ⟨C, ρ, M, Fp, mu, s, q⟩ => ?_
  have q : OutV w fl (.f 2) ρ σ Fp C H mu (ev cl (.cmp o a b) ρ M) Q := q
  unfold ev at q
  refine bindR isOutV s q fun x vx M1 H1 mu1 p1 r1 q1 => bindR isOutV p1.sr q1 fun y vy M2 H2 mu2 p2 r2 q2 => ?_
  obtain ⟨c, ec, g⟩ := q2.bl
  exact hk fl ρ σ Fp C M2 H2 mu2 Q x y c vx vy ec p2.sr (r1.to p2.toT) r2 (g.bl p2.sr)
theorem OutB.bl {b : Option Bool} {Q : Bool → Hp → Prop} (s : SR w.K C fl ρ M σ H Fp mu) (q : OutB w fl ρ σ Fp C H mu (R.of b M) Q) : ∃ c, b = some c ∧ Q c H := by
  cases b with
  | none => exact q.elim
  | some c => exact ⟨c, rfl, q H mu (Po.refl s)⟩
theorem pt_cp {pa pb : Expr} {op : CmpOp} {o : Cop} {a b : E} {pos : Pos} {r : R2} (ho : OpR X (compareOp op) r) (hk : CmpOk w.K r (cmpW o)) (ha : PE X pa (TR cl w fl 2 a)) (hb : PE X pb (TR cl w fl 2 b)) (hm : behindInMarks op pb = false) :
    PT X (.Compare pa [op] [pb] pos) (TB cl w fl (.cmp o a b)) := by
  refine PT.weak (pt_cmpR ho ha hb hm) fun σ H Q ⟨C, ρ, M, Fp, mu, s, q⟩ => ?_
  have q : OutB w fl ρ σ Fp C H mu (evT cl (.cmp o a b) ρ M) Q := q
  unfold evT at q
  refine bindR isOutB s q fun x vx M1 H1 mu1 p1 r1 q1 => bindR isOutB p1.sr q1 fun y vy M2 H2 mu2 p2 r2 q2 => ?_
  obtain ⟨c, ec, g⟩ := q2.bl p2.sr
  exact hk fl ρ σ Fp C M2 H2 mu2 _ x y c vx vy ec p2.sr (r1.to p2.toT) r2 ⟨c, rfl, g⟩
theorem pt_cp2 {pa pb pc : Expr} {op op' : CmpOp} {o o' : Cop} {a b c : E} {pos : Pos} {r r' : R2} (ho : OpR X (compareOp op) r) (ho' : OpR X (compareOp op') r') (hk : CmpOk w.K r (cmpW o)) (hk' : CmpOk w.K r' (cmpW o'))
    (ha : PE X pa (TR cl w fl 2 a)) (hb : PE X pb (TR cl w fl 2 b)) (hc : PE X pc (TR cl w fl 2 c)) (hm : lastMarks [op, op'] [pb, pc] = false) :
    PT X (.Compare pa [op, op'] [pb, pc] pos) (TB cl w fl (.cmp2 o o' a b c)) := by
  refine PT.weak (pt_chain ho ho' ha hb hc hm) fun σ H Q ⟨C, ρ, M, Fp, mu, s, q⟩ => ?_
  have q : OutB w fl ρ σ Fp C H mu (evT cl (.cmp2 o o' a b c) ρ M) Q := q
  unfold evT at q
  refine bindR isOutB s q fun x vx M1 H1 mu1 p1 r1 q1 => bindR isOutB p1.sr q1 fun y vy M2 H2 mu2 p2 r2 q2 => ?_
  cases ec : cmpW o x y with
  | none => rw [ec] at q2; exact q2.elim
  | some k =>
    rw [ec] at q2
    refine hk fl ρ σ Fp C M2 H2 mu2 _ x y k vx vy ec p2.sr (r1.to p2.toT) r2 ⟨k, rfl, ?_⟩
    cases k with
    | false => exact iteF ⟨false, rfl, q2 H2 mu2 (Po.refl p2.sr)⟩
    | true =>
      refine iteT (bindR isOutB p2.sr q2 fun z vz M3 H3 mu3 p3 r3 q3 => ?_)
      obtain ⟨c', ec', g⟩ := q3.bl p3.sr
      exact hk' fl ρ σ Fp C M3 H3 mu3 _ y z c' vy vz ec' p3.sr (r2.to p3.toT) r3 ⟨c', rfl, g⟩
theorem pe_cp2 {pa pb pc : Expr} {op op' : CmpOp} {o o' : Cop} {a b c : E} {pos : Pos} {r r' : R2} (ho : OpR X (compareOp op) r) (ho' : OpR X (compareOp op') r') (hk : CmpOk w.K r (cmpW o)) (hk' : CmpOk w.K r' (cmpW o'))
    (ha : PE X pa (TR cl w fl 2 a)) (hb : PE X pb (TR cl w fl 2 b)) (hc : PE X pc (TR cl w fl 2 c)) (hm : lastMarks [op, op'] [pb, pc] = false) :
    PE X (.Compare pa [op, op'] [pb, pc] pos) (TV cl w fl (.f 2) (.cmp2 o o' a b c)) := by
  refine PE.weak (pe_chain ho ho' ha hb hc hm) fun σ H Q ⟨C, ρ, M, Fp, mu, s, q⟩ => ?_
  have q : OutV w fl (.f 2) ρ σ Fp C H mu (ev cl (.cmp2 o o' a b c) ρ M) Q := q
  unfold ev at q
  refine bindR isOutV s q fun x vx M1 H1 mu1 p1 r1 q1 => bindR isOutV p1.sr q1 fun y vy M2 H2 mu2 p2 r2 q2 => ?_
  cases ec : cmpW o x y with
  | none => rw [ec] at q2; exact q2.elim
  | some k =>
    rw [ec] at q2
    refine hk fl ρ σ Fp C M2 H2 mu2 _ x y k vx vy ec p2.sr (r1.to p2.toT) r2 ⟨k, rfl, ?_⟩
    cases k with
    | false => exact iteF (q2.ok.bl p2.sr)
    | true =>
      refine iteT (bindR isOutV p2.sr q2 fun z vz M3 H3 mu3 p3 r3 q3 => ?_)
      obtain ⟨c', ec', g⟩ := q3.bl
      exact hk' fl ρ σ Fp C M3 H3 mu3 Q y z c' vy vz ec' p3.sr (r2.to p3.toT) r3 (g.bl p3.sr)

/-! ### truth -/
theorem tru_rep {K : PySem.W.Frag} {x : Mi.W} {d : Nat} {v : V} {b : Bool} (e : truW x = some b) (r : Rep (gT K H C Fp mu) x d v) : TruV K v H b := by
  cases x with
  | non => rw [rep_non r]; cases e; rfl
  | bl c => rw [rep_bl r]; cases e; rfl
  | int c => rw [rep_int r]; cases e; rfl
  | str c => rw [(rep_str r).1]; cases e; exact ⟨(rep_str r).2.2, rfl⟩
  | lst ws =>
    obtain ⟨a, vs, e1, h1, h2, h3⟩ := rep_lst r
    cases e
    rw [e1]
    refine .inl ⟨vs, .inl (.inl h1), ?_⟩
    have := h3.len
    cases ws <;> cases vs <;> simp_all
  | tup ws =>
    obtain ⟨a, vs, e1, h1, h2, h3⟩ := rep_tup r
    cases e
    rw [e1]
    refine .inr (.inl ⟨vs, .inl (.inl h1), ?_⟩)
    have := h3.len
    cases ws <;> cases vs <;> simp_all
  | _ => cases e
theorem pt_tr {p : Expr} {e : E} {d : Nat} (hk : w.K = X.K) (h : PE X p (TR cl w fl d e)) (he : ∀ whole, isTrue p X.env whole = (do let v ← whole; standAt p.pos; holding [v] (truthy v))) : PT X p (TB cl w fl (.v e)) := by
  refine PT.weak (pt_truth h he) fun σ H Q ⟨C, ρ, M, Fp, mu, s, q⟩ => ?_
  have q : OutB w fl ρ σ Fp C H mu (evT cl (.v e) ρ M) Q := q
  unfold evT at q
  refine bindR isOutB s q fun x v M1 H1 mu1 p1 r1 q1 => ?_
  cases ec : truW x with
  | none => rw [ec] at q1; exact q1.elim
  | some b =>
    rw [ec] at q1
    rw [← hk]
    exact ⟨b, tru_rep ec r1, q1 H1 mu1 (Po.refl p1.sr)⟩
theorem pt_nt {p : Expr} {t : T} {pos : Pos} (h : PT X p (TB cl w fl t)) : PT X (.UnaryOp .Not p pos) (TB cl w fl (.not t)) := by
  refine PT.weak (pt_not h) fun σ H Q ⟨C, ρ, M, Fp, mu, s, q⟩ => ?_
  have q : OutB w fl ρ σ Fp C H mu (evT cl (.not t) ρ M) Q := q
  unfold evT at q
  exact bindB isOutB s q fun b M1 H1 mu1 p1 q1 => q1 H1 mu1 (Po.refl p1.sr)
theorem pw_an {p q' : Expr} {rest : List Expr} {a b : T} {pos : Pos} (ha : PT X p (TB cl w fl a)) (hb : PW X (.BoolOp .And (q' :: rest) pos) (TB cl w fl b)) : PW X (.BoolOp .And (p :: q' :: rest) pos) (TB cl w fl (.and a b)) := by
  refine PW.weak (pw_and ha hb) fun σ H Q ⟨C, ρ, M, Fp, mu, s, q⟩ => ?_
  have q : OutB w fl ρ σ Fp C H mu (evT cl (.and a b) ρ M) Q := q
  unfold evT at q
  refine bindB isOutB s q fun k M1 H1 mu1 p1 q1 => ?_
  cases k with
  | true => exact iteT ⟨C, ρ, M1, Fp, mu1, p1.sr, q1⟩
  | false => exact iteF (q1 H1 mu1 (Po.refl p1.sr))
theorem pw_or' {p q' : Expr} {rest : List Expr} {a b : T} {pos : Pos} (ha : PT X p (TB cl w fl a)) (hb : PW X (.BoolOp .Or (q' :: rest) pos) (TB cl w fl b)) : PW X (.BoolOp .Or (p :: q' :: rest) pos) (TB cl w fl (.or a b)) := by
  refine PW.weak (pw_or ha hb) fun σ H Q ⟨C, ρ, M, Fp, mu, s, q⟩ => ?_
  have q : OutB w fl ρ σ Fp C H mu (evT cl (.or a b) ρ M) Q := q
  unfold evT at q
  refine bindB isOutB s q fun k M1 H1 mu1 p1 q1 => ?_
  cases k with
  | false => exact iteF ⟨C, ρ, M1, Fp, mu1, p1.sr, q1⟩
  | true => exact iteT (q1 H1 mu1 (Po.refl p1.sr))
theorem pe_nt {p : Expr} {a : E} {pos : Pos} (hk : w.K = X.K) (h : PE X p (TR cl w fl 2 a)) : PE X (.UnaryOp .Not p pos) (TV cl w fl (.f 2) (.not a)) := by
  refine PE.weak (pe_notT h) fun σ H Q ⟨C, ρ, M, Fp, mu, s, q⟩ => ?_
  have q : OutV w fl (.f 2) ρ σ Fp C H mu (ev cl (.not a) ρ M) Q := q
  unfold ev at q
  refine bindR isOutV s q fun x v M1 H1 mu1 p1 r1 q1 => ?_
  cases ec : truW x with
  | none => rw [ec] at q1; exact q1.elim
  | some b =>
    rw [ec] at q1
    exact ⟨b, by rw [← hk]; exact tru_rep ec r1, q1.ok.bl p1.sr⟩
theorem pe_if {pc pa pb : Expr} {c : T} {a b : E} {pos : Pos} (hc : PT X pc (TB cl w fl c)) (ha : PE X pa (TV cl w fl lv a)) (hb : PE X pb (TV cl w fl lv b)) : PE X (.IfExp pc pa pb pos) (TV cl w fl lv (.ite c a b)) := by
  refine PE.weak (pe_ifExp hc ha hb) fun σ H Q ⟨C, ρ, M, Fp, mu, s, q⟩ => ?_
  have q : OutV w fl lv ρ σ Fp C H mu (ev cl (.ite c a b) ρ M) Q := q
  unfold ev at q
  refine bindB isOutV s q fun k M1 H1 mu1 p1 q1 => ?_
  cases k with
  | true => exact iteT ⟨C, ρ, M1, Fp, mu1, p1.sr, q1⟩
  | false => exact iteF ⟨C, ρ, M1, Fp, mu1, p1.sr, q1⟩
/-- a level weakened to a persistent one -/
theorem pe_t {p : Expr} {e : E} {n : Nat} (h : PE X p (TV cl w fl lv e)) (hd : asD lv n = true) : PE X p (TV cl w fl (.t n) e) := by
  refine PE.weak (pe_r h hd) fun σ H Q ⟨C, ρ, M, Fp, mu, s, q⟩ => ⟨C, ρ, M, Fp, mu, s, ?_⟩
  show OutR w fl n ρ σ Fp C H mu (ev cl e ρ M) Q
  have q : OutV w fl (.t n) ρ σ Fp C H mu (ev cl e ρ M) Q := q
  revert q
  cases ev cl e ρ M with
  | no => exact id
  | ex x M' => exact id
  | ok x M' => exact fun q v H' mu' p r => (isOutV.sh _ _ _ _ _ _ p q).ok.t p.sr r
theorem pe_an {p q' : Expr} {rest : List Expr} {a b : E} {pos : Pos} (hk : w.K = X.K) (ha : PE X p (TR cl w fl 0 a)) (hb : PE X (.BoolOp .And (q' :: rest) pos) (TV cl w fl (.t 0) b)) : PE X (.BoolOp .And (p :: q' :: rest) pos) (TV cl w fl (.t 0) (.and a b)) := by
  refine PE.weak (pe_andT ha hb) fun σ H Q ⟨C, ρ, M, Fp, mu, s, q⟩ => ?_
  have q : OutV w fl (.t 0) ρ σ Fp C H mu (ev cl (.and a b) ρ M) Q := q
  unfold ev at q
  refine bindR isOutV s q fun x v M1 H1 mu1 p1 r1 q1 => ?_
  cases ec : truW x with
  | none => rw [ec] at q1; exact q1.elim
  | some k =>
    rw [ec] at q1
    refine ⟨k, by rw [← hk]; exact tru_rep ec r1, ?_⟩
    cases k with
    | true => exact iteT ⟨C, ρ, M1, Fp, mu1, p1.sr, q1⟩
    | false => exact iteF (q1.ok.t p1.sr r1)
theorem pe_or' {p q' : Expr} {rest : List Expr} {a b : E} {pos : Pos} (hk : w.K = X.K) (ha : PE X p (TR cl w fl 0 a)) (hb : PE X (.BoolOp .Or (q' :: rest) pos) (TV cl w fl (.t 0) b)) : PE X (.BoolOp .Or (p :: q' :: rest) pos) (TV cl w fl (.t 0) (.or a b)) := by
  refine PE.weak (pe_orT ha hb) fun σ H Q ⟨C, ρ, M, Fp, mu, s, q⟩ => ?_
  have q : OutV w fl (.t 0) ρ σ Fp C H mu (ev cl (.or a b) ρ M) Q := q
  unfold ev at q
  refine bindR isOutV s q fun x v M1 H1 mu1 p1 r1 q1 => ?_
  cases ec : truW x with
  | none => rw [ec] at q1; exact q1.elim
  | some k =>
    rw [ec] at q1
    refine ⟨k, by rw [← hk]; exact tru_rep ec r1, ?_⟩
    cases k with
    | false => exact iteF ⟨C, ρ, M1, Fp, mu1, p1.sr, q1⟩
    | true => exact iteT (q1.ok.t p1.sr r1)
end
end Mi
end Mi6_

section Mi7_
set_option linter.all false
set_option Elab.async false
/-! Mi7: subscripts, slices, calls, built-ins, methods. -/
namespace Mi
open PySem PySem.Spec PyProof.Rows L2

section
variable {X : Cx} {cl : Nat → List W → List W → R W} {w : Wish} {fl : List Fg} {C : Addr → Prop} {ρ : Env} {M : List Mi.W} {σ : L2.St} {H : Hp} {Fp : List (List Addr)} {mu : List Addr} {Q : VK} {lv : Lv}

/-! ### subscripts -/
abbrev gX (K : PySem.W.Frag) (H : Hp) (C : Addr → Prop) (Fp : List (List Addr)) (mu : List Addr) : Gh := ⟨K, H, mu, allB C Fp mu, fun _ => False⟩
theorem SR.cell (s : SR w.K C fl ρ M σ H Fp mu) {n : Nat} {c : Mi.W} {a : Addr} (e : M[n]? = some c) (ea : mu[n]? = some a) : Rep (gX w.K H C Fp mu) c 1 (.ref a) := by
  have h := s.ce n c a e ea
  have t : (gT w.K H C Fp mu).To (gX w.K H C Fp mu) := ⟨rfl, fun _ _ e k => ⟨e, k⟩, fun _ _ e k => ⟨e, fun z => z⟩, fun _ _ e => e⟩
  exact (h.to t fun _ _ _ q => q).rep (fun _ z => False.elim z) fun _ _ z => z
theorem gX_gT0 : (gX w.K H C Fp mu).To0 (gT w.K H C Fp mu) := ⟨rfl, fun _ _ e k => ⟨e, k⟩, fun _ _ e => e⟩
theorem deref_rep (s : SR w.K C fl ρ M σ H Fp mu) {x c : Mi.W} {d : Nat} {v : V} (r : Rep (gT w.K H C Fp mu) x d v) (e : deref M x = some c) :
    (Rep (gT w.K H C Fp mu) c d v ∧ c = x) ∨ Rep (gX w.K H C Fp mu) c 1 v := by
  cases x with
  | loc n =>
    have e : M[n]? = some c := e
    unfold Rep at r
    obtain ⟨a, ev, ea⟩ := r
    rw [ev]
    exact .inr (s.cell e ea)
  | _ => cases e; exact .inl ⟨r, rfl⟩
theorem pe_sub {pa pi : Expr} {a i : E} {d : Nat} {pos : Pos} (hk : w.K = X.K) (hu : X.A.units + 1 < cLine) (ha : PE X pa (TR cl w fl d a)) (hi : PE X pi (TR cl w fl 2 i)) (hs : PlainIx pi) : PE X (.Subscript pa pi pos) (TV cl w fl (.t (d - 1)) (.ix a i)) := by
  refine PE.weak (pe_ix (ix_any hu) ha hi hs) fun σ H Q ⟨C, ρ, M, Fp, mu, s, q⟩ => ?_
  have q : OutV w fl (.t (d - 1)) ρ σ Fp C H mu (ev cl (.ix a i) ρ M) Q := q
  unfold ev at q
  refine bindR isOutV s q fun x vx M1 H1 mu1 p1 r1 q1 => bindR isOutV p1.sr q1 fun y vy M2 H2 mu2 p2 r2 q2 => ?_
  cases ed : deref M2 x with
  | none => rw [ed] at q2; exact q2.elim
  | some c =>
    rw [ed] at q2
    obtain ⟨z, ez, g⟩ := q2.give
    rw [← hk]
    rcases deref_rep p2.sr (r1.to p2.toT) ed with ⟨r, _⟩ | r
    · exact ix_rep (G := gT w.K H2 C Fp mu2) (G2 := gT w.K H2 C Fp mu2) gT_b rfl ez r r2 fun v rv => g.t p2.sr rv
    · exact ix_rep (G := gX w.K H2 C Fp mu2) (G2 := gT w.K H2 C Fp mu2) (fun _ z => False.elim z) rfl ez r r2 fun v rv => g.t p2.sr ((rv.to0 gX_gT0).mono gT_b (Nat.zero_le _))

/-! ### slices -/
def OutP (w : Wish) (fl : List Fg) (ρ : Env) (σ : L2.St) (Fp : List (List Addr)) (C : Addr → Prop) (H : Hp) (mu : List Addr) (r : R (Option Int)) (Q : Option Int → Hp → Prop) : Prop :=
  match r with
  | .ok b M' => ∀ H' mu', Po w.K fl ρ σ Fp C H mu C M' H' mu' → Q b H'
  | .ex x M' => ∀ H' mu', Po w.K fl ρ σ Fp C H mu C M' H' mu' → ∀ cls d, ExcOk w.cm x cls d → w.W cls d σ H'
  | .no => False
theorem isOutP {Q : Option Int → Hp → Prop} : IsOut w fl ρ σ Fp C fun H mu r => OutP w fl ρ σ Fp C H mu r Q where
  no := fun H mu h => h
  ex := fun H mu x M h => h
  sh := fun H mu M1 H1 mu1 r p h => by
    cases r with
    | no => exact h
    | ex x M => exact fun H' mu' q => h H' mu' (p.trans q)
    | ok x M => exact fun H' mu' q => h H' mu' (p.trans q)
def TP' (cl : Nat → List Mi.W → List Mi.W → R Mi.W) (w : Wish) (fl : List Fg) (p : P) : TO := fun σ H Q => At w.K fl σ H fun ρ M Fp C mu => OutP w fl ρ σ Fp C H mu (evP cl p ρ M) Q
theorem po_n : PO X none (TP' cl w fl .no) := ⟨fun pins s σ H Q I ⟨C, ρ, M, Fp, mu, sr, q⟩ => po_none.run pins s σ H Q I (q H mu (Po.refl sr))⟩
theorem po_v {p : Expr} {e : E} (h : PE X p (TR cl w fl 2 e)) : PO X (some p) (TP' cl w fl (.v e)) := by
  refine ⟨fun pins s σ H Q I ⟨C, ρ, M, Fp, mu, sr, q⟩ => (po_some h).run pins s σ H Q I ?_⟩
  have q : OutP w fl ρ σ Fp C H mu (evP cl (.v e) ρ M) Q := q
  unfold evP at q
  refine bindR isOutP sr q fun x v M1 H1 mu1 p1 r1 q1 => ?_
  cases x with
  | int i => exact ⟨i, rep_int r1, q1 H1 mu1 (Po.refl p1.sr)⟩
  | _ => exact q1.elim
theorem bindP {β : Type} {out : Hp → List Addr → R β → Prop} {t : P} {g : Option Int → List Mi.W → R β} {P : Option Int → Hp → Prop} (o : IsOut w fl ρ σ Fp C out) (s : SR w.K C fl ρ M σ H Fp mu) (q : out H mu ((evP cl t ρ M).bind g))
    (k : ∀ b M' H' mu', Po w.K fl ρ σ Fp C H mu C M' H' mu' → out H' mu' (g b M') → P b H') : TP' cl w fl t σ H P := by
  refine ⟨C, ρ, M, Fp, mu, s, ?_⟩
  show OutP w fl ρ σ Fp C H mu (evP cl t ρ M) P
  revert q
  cases evP cl t ρ M with
  | no => exact fun q => o.no _ _ q
  | ex x M' => exact fun q => o.ex _ _ _ _ q
  | ok x M' => exact fun q H' mu' p => k x M' H' mu' p (o.sh _ _ _ _ _ _ p q)
theorem pe_sli {pa : Expr} {pl ph : Option Expr} {a : E} {lo hi : P} {p2 pos : Pos} (hk : w.K = X.K) (ha : PE X pa (TR cl w fl 1 a)) (hl : PO X pl (TP' cl w fl lo)) (hh : PO X ph (TP' cl w fl hi)) :
    PE X (.Subscript pa (.Slice pl ph none p2) pos) (TV cl w fl (.f 1) (.sl a lo hi)) := by
  refine PE.weak (pe_slice sl_any ha hl hh) fun σ H Q ⟨C, ρ, M, Fp, mu, s, q⟩ => ?_
  have q : OutV w fl (.f 1) ρ σ Fp C H mu (ev cl (.sl a lo hi) ρ M) Q := q
  unfold ev at q
  refine bindR isOutV s q fun x vx M1 H1 mu1 p1 r1 q1 => bindP isOutV p1.sr q1 fun l M2 H2 mu2 p2 q2 => bindP isOutV p2.sr q2 fun h M3 H3 mu3 p3 q3 => ?_
  obtain ⟨z, ez, g⟩ := q3.give
  rw [← hk]
  exact sl_give ez p3.sr ((r1.to p2.toT).to p3.toT) g

/-! ### calls -/
/-- the promise of a def, by its number -/
def spF (K : PySem.W.Frag) (cm : CM) (cl : Nat → List Mi.W → List Mi.W → R Mi.W) (f : Nat) (F : Fn) : Sp := fun vs H Q E =>
  ∃ (C : Addr → Prop) (M : List Mi.W) (mu : List Addr) (xs : List Mi.W), SR K C [] [] M [] H [] mu ∧ RepDs (gT K H C [] mu) F.pd xs vs ∧ F.pd.length = F.np ∧
    OutV ⟨K, cm, fun cls d _ H' => E cls d H'⟩ [] F.ret [] [] [] C H mu (cl f xs M) Q
theorem allB_call {a : Addr} : allB (fun a => C a ∨ a ∈ Fp.flatten) [] mu a ↔ allB C Fp mu a := by
  unfold allB
  simp only [List.flatten_nil, List.not_mem_nil, false_or]
  constructor
  · rintro (h | h | h)
    · exact .inl h
    · exact .inr (.inr h)
    · exact .inr (.inl h)
  · rintro (h | h | h)
    · exact .inl h
    · exact .inr (.inr h)
    · exact .inr (.inl h)
theorem to_call {K : PySem.W.Frag} : (gT K H C Fp mu).To (gT K H (fun a => C a ∨ a ∈ Fp.flatten) [] mu) :=
  ⟨rfl, fun _ _ h k => ⟨h, fun z => k (allB_call.mp z)⟩, fun _ _ h k => ⟨h, k⟩, fun _ _ h => h⟩
/-- into a call -/
theorem SR.into (s : SR w.K C fl ρ M σ H Fp mu) : SR w.K (fun a => C a ∨ a ∈ Fp.flatten) [] [] M [] H [] mu := by
  refine ⟨rfl, Nat.le_refl _, rfl, ?_, fun a h => ?_, fun a h => ?_, fun a h => ?_, s.cl, fun n c a e ea => ?_, fun i g x e => by simp at e⟩
  · simp only [List.flatten_nil, List.append_nil]; exact (List.nodup_append.mp s.nd).1
  · simp only [List.flatten_nil, List.append_nil] at h
    rintro (z | z)
    · exact s.cd a (List.mem_append_left _ h) z
    · exact (List.nodup_append.mp s.nd).2.2 a h a z rfl
  · rcases h with h | h
    · exact s.ct' a h
    · exact s.tr' a (List.mem_append_right _ h)
  · simp only [List.flatten_nil, List.append_nil] at h
    exact s.tr' a (List.mem_append_left _ h)
  · exact (s.ce n c a e ea).to to_call fun _ _ _ h => h
theorem of_call {K : PySem.W.Frag} {S : List Addr} : (gT K H (fun a => (C a ∨ a ∈ Fp.flatten) ∨ a ∈ S) [] mu).To (gT K H (fun a => C a ∨ a ∈ S) Fp mu) := by
  refine ⟨rfl, fun _ _ h k => ⟨h, fun z => k ?_⟩, fun _ _ h k => ⟨h, k⟩, fun _ _ h => h⟩
  rcases z with z | z | z | z
  · exact .inl z
  · exact .inr (.inr (.inl (.inr z)))
  · exact .inr (.inr (.inl (.inl z)))
  · exact .inr (.inr (.inr z))
/-- and behind it -/
theorem SR.behind {M' : List Mi.W} {H' : Hp} {mu' S : List Addr} (s : SR w.K C fl ρ M σ H Fp mu) (p : Po w.K [] [] [] [] (fun a => C a ∨ a ∈ Fp.flatten) H mu (fun a => (C a ∨ a ∈ Fp.flatten) ∨ a ∈ S) M' H' mu') (fr : ∀ a ∈ S, H a = none) :
    Po w.K fl ρ σ Fp C H mu (fun a => C a ∨ a ∈ S) M' H' mu' := by
  have nS : ∀ a o, H a = some o → a ∉ S := fun a o e z => by rw [fr a z] at e; cases e
  have nm : ∀ a o, H a = some o → a ∈ mu' → a ∈ mu := fun a o e z => p.mur e z
  have t : (gS w.K H C Fp mu).To (gS w.K H' (fun a => C a ∨ a ∈ S) Fp mu') := by
    refine ⟨rfl, fun a o h k => ⟨p.ext a o h fun z => k (.inl z), fun z => ?_⟩, fun a o h k => ⟨p.ext a o h fun z => k (.inl z), fun z => ?_⟩, fun n a h => ?_⟩
    · rcases z with z | z | z | z
      · exact k (.inl (nm a o h z))
      · exact k (.inr (.inl z))
      · exact k (.inr (.inr z))
      · exact nS a o h z
    · rcases z with z | z
      · exact k (.inl (nm a o h z))
      · exact k (.inr z)
    · exact p.toT.mu n a h
  have nd' : mu'.Nodup := by have := p.sr.nd; simp only [List.flatten_nil, List.append_nil] at this; exact this
  refine ⟨p.ext, p.pre, fun a z => z.elim .inl fun z => .inr (fr a z), fun a z => .inl z, ⟨s.lr, s.lp, s.lf, ?_, fun a h => ?_, fun a h => ?_, fun a h => ?_, p.sr.cl, fun n c a e ea => ?_, fun i g x e1 e2 => ?_⟩⟩
  · refine List.nodup_append.mpr ⟨nd', (List.nodup_append.mp s.nd).2.1, fun a ha b hb e => ?_⟩
    subst e
    exact p.sr.cd a (by simpa using ha) (.inl (.inr hb))
  · rcases List.mem_append.mp h with h | h
    · rintro (z | z)
      · exact p.sr.cd a (by simpa using h) (.inl (.inl z))
      · exact p.sr.cd a (by simpa using h) (.inr z)
    · rintro (z | z)
      · exact s.cd a (List.mem_append_right _ h) z
      · obtain ⟨o, e⟩ := s.tr a (List.mem_append_right _ h)
        exact nS a o e z
  · rcases h with h | h
    · exact p.sr.ct' a (.inl (.inl h))
    · exact p.sr.ct' a (.inr h)
  · rcases List.mem_append.mp h with h | h
    · exact p.sr.tr' a (by simpa using h)
    · exact p.sr.ct' a (.inl (.inr h))
  · exact (p.sr.ce n c a e ea).to of_call fun _ _ _ h => h
  · have q := s.sl i g x e1 e2
    cases g with
    | pl => obtain ⟨v, e, r⟩ := q; exact ⟨v, e, r.to t⟩
    | bo d => obtain ⟨v, e, r⟩ := q; exact ⟨v, e, r.to t⟩
    | dd => trivial
    | ow d =>
      obtain ⟨v, e, r⟩ := q
      refine ⟨v, e, r.to t fun a o ha h => p.ext a o h fun z => ?_⟩
      have hf : a ∈ Fp.flatten := by
        cases y : Fp[i]? with
        | none => rw [y] at ha; simp at ha
        | some l => rw [y] at ha; exact List.mem_flatten.mpr ⟨l, List.mem_of_getElem? y, ha⟩
      exact (List.nodup_append.mp s.nd).2.2 a z a hf rfl
    | lk d =>
      obtain ⟨v, e, r⟩ := q
      refine ⟨v, e, r.to t fun a o ha h => p.ext a o h fun z => ?_⟩
      have hf : a ∈ Fp.flatten := by
        cases y : Fp[i]? with
        | none => rw [y] at ha; simp at ha
        | some l => rw [y] at ha; exact List.mem_flatten.mpr ⟨l, List.mem_of_getElem? y, ha⟩
      exact (List.nodup_append.mp s.nd).2.2 a z a hf rfl
theorem pe_cl {p : Expr} {ps : List Expr} {x : Str} {pp pos : Pos} {es : List E} {f : Nat} {F : Fn} {fa : Addr} {fd : FuncData} {prm : List Str} {k : Nat} (hk : w.K = X.K) (tk : Takes X w.W)
    (hF : FnOk X.prog X.w X.K X.mg X.base (L2.CX X.prog X.w) k fa fd prm (spF w.K w.cm cl f F)) (hr : Room k X.A) (hg : Gl X x) (hm : X.mg x = some (.ref fa)) (hkp : PySem.W.keepIn X.K (.ref fa) = true) (hb : Binds X.K fd prm [])
    (ha : PA X (p :: ps) (TL cl w fl F.pd es)) (hdb : (x == ("__debug__" : Str)) = false) (he : starEach (p :: ps) X.env = (false, eval p X.env) :: starEach ps X.env) (hpl : (backTo pos (starEach ps X.env)).any (·.1) = false) (hnp : F.pd.length = F.np) :
    PE X (.Call (.Name x pp) (p :: ps) [] pos) (TV cl w fl F.ret (.call f es)) := by
  refine PE.weak (pe_callS (E := fun σ => WE w.W σ) hF hr hg hm hkp hb (fun σ => passAt tk σ) ha hdb he hpl) fun σ H Q ⟨C, ρ, M, Fp, mu, s, q⟩ => ?_
  have q : OutV w fl F.ret ρ σ Fp C H mu (ev cl (.call f es) ρ M) Q := q
  unfold ev at q
  refine bindL isOutV s q fun xs vs M1 H1 mu1 p1 r1 q1 => ?_
  refine ⟨fun a => C a ∨ a ∈ Fp.flatten, M1, mu1, xs, p1.sr.into, ?_, hnp, ?_⟩
  · obtain ⟨k1, k2, k3⟩ := r1
    exact ⟨k1, k2, fun i y v d a b c => (k3 i y v d a b c).to to_call⟩
  · revert q1
    cases cl f xs M1 with
    | no => exact id
    | ex x M2 =>
      intro q1 H2 mu2 p2 cls d e
      have p3 := p1.sr.behind (S := []) (p2.weak (C1 := fun a => (C a ∨ a ∈ Fp.flatten) ∨ a ∈ ([] : List Addr)) (fun _ z => .inl z) fun _ z => z.elim id fun z => absurd z List.not_mem_nil) fun _ z => absurd z List.not_mem_nil
      exact q1 H2 mu2 (p3.weak (fun _ z => z) fun _ z => .inl z) cls d e
    | ok z M2 =>
      intro q1 v H2 mu2 S p2 nd fr hv
      have p3 := p1.sr.behind p2 fr
      refine q1 v H2 mu2 S p3 nd fr ?_
      have t : (gT w.K H2 (fun a => (C a ∨ a ∈ Fp.flatten) ∨ a ∈ S) [] mu2).To (gT w.K H2 (fun a => C a ∨ a ∈ S) Fp mu2) := of_call
      revert hv
      cases F.ret with
      | t n => exact fun hv => ⟨hv.1, hv.2.to t⟩
      | f n => exact fun hv => Own.to t hv fun _ _ _ h => h

/-! ### built-ins -/
theorem pe_bi {p : Expr} {ps : List Expr} {x : Str} {id : String} {pp pos : Pos} {es : List E} {b : Bi} {ds : List Nat} {r : List V → Hp → VK → Prop} (hc : CallR X (.builtin id) r) (hb : BiOk w.K r (biW b) lv) (hg : Gl X x) (hm : X.mg x = none) (hv : bootBuiltins x = some (.builtin id))
    (ha : PA X (p :: ps) (TL cl w fl ds es)) (hd : ∀ d ∈ ds, d = 1) (hn : x ≠ "__name__") (hdb : (x == ("__debug__" : Str)) = false) (he : starEach (p :: ps) X.env = (false, eval p X.env) :: starEach ps X.env) (hpl : (backTo pos (starEach ps X.env)).any (·.1) = false) :
    PE X (.Call (.Name x pp) (p :: ps) [] pos) (TV cl w fl lv (.bi b es)) := by
  refine PE.weak (pe_callB hc hg hm hv ha hn hdb he hpl) fun σ H Q ⟨C, ρ, M, Fp, mu, s, q⟩ => ?_
  have q : OutV w fl lv ρ σ Fp C H mu (ev cl (.bi b es) ρ M) Q := q
  unfold ev at q
  refine bindL isOutV s q fun xs vs M1 H1 mu1 p1 r1 q1 => ?_
  obtain ⟨z, ez, g⟩ := q1.give
  exact hb fl ρ σ Fp C M1 H1 mu1 Q xs z vs ez p1.sr (r1.all hd) g
theorem pe_bt {p : Expr} {ps : List Expr} {x : Str} {id : String} {pp pos : Pos} {es : List E} {b : Bi} {ds : List Nat} {r : List V → Hp → VK → Prop} (hc : CallR X (.type id) r) (hb : BiOk w.K r (biW b) lv) (hg : Gl X x) (hm : X.mg x = none) (hv : bootBuiltins x = some (.type id))
    (ha : PA X (p :: ps) (TL cl w fl ds es)) (hd : ∀ d ∈ ds, d = 1) (hn : x ≠ "__name__") (hdb : (x == ("__debug__" : Str)) = false) (he : starEach (p :: ps) X.env = (false, eval p X.env) :: starEach ps X.env) (hpl : (backTo pos (starEach ps X.env)).any (·.1) = false) :
    PE X (.Call (.Name x pp) (p :: ps) [] pos) (TV cl w fl lv (.bi b es)) := by
  refine PE.weak (pe_callTy hc hg hm hv ha hn hdb he hpl) fun σ H Q ⟨C, ρ, M, Fp, mu, s, q⟩ => ?_
  have q : OutV w fl lv ρ σ Fp C H mu (ev cl (.bi b es) ρ M) Q := q
  unfold ev at q
  refine bindL isOutV s q fun xs vs M1 H1 mu1 p1 r1 q1 => ?_
  obtain ⟨z, ez, g⟩ := q1.give
  exact hb fl ρ σ Fp C M1 H1 mu1 Q xs z vs ez p1.sr (r1.all hd) g
end
end Mi
end Mi7_

section Mi8_
set_option linter.all false
set_option Elab.async false
/-! Mi8: sorted, isinstance, methods. -/
namespace Mi
open PySem PySem.Spec PyProof.Rows L2

theorem R.bind_assoc {α β γ : Type} (r : R α) (f : α → List W → R β) (g : β → List W → R γ) : (r.bind f).bind g = r.bind fun a M => (f a M).bind g := by
  cases r <;> rfl
theorem le_of_ltCps {x y : Str} (h : (!ltCps x.cps.toList y.cps.toList) = true) : leStr y x = true := by
  rw [PyProof.Rows.ltCps_eq] at h
  unfold leStr
  simp only [Bool.not_eq_true', decide_eq_false_iff_not] at h
  exact decide_eq_true h
theorem rising_pair : ∀ (l : List Str) (p : Str), risingS p l = true → (p :: l).Pairwise fun a b => leStr a b = true
  | [], p, _ => by simp
  | x :: r, p, h => by
    unfold risingS at h
    rw [Bool.and_eq_true] at h
    have ih := rising_pair r x h.2
    have h1 : leStr p x = true := le_of_ltCps h.1
    refine List.pairwise_cons.mpr ⟨fun y hy => ?_, ih⟩
    rcases List.mem_cons.mp hy with rfl | hy
    · exact h1
    · exact leStr_trans _ _ _ h1 ((List.pairwise_cons.mp ih).1 y hy)
theorem sortedS_pair {l : List Str} (h : sortedS l = true) : l.Pairwise fun a b => leStr a b = true := by
  cases l with
  | nil => exact .nil
  | cons x r => exact rising_pair r x h
def rSortA (K : PySem.W.Frag) : List V → Hp → VK → Prop := fun vs H Q => rSortedS K vs H Q ∨ rSortedI K vs H Q
theorem call_sortA {X : Cx} : CallR X (.builtin "sorted") (rSortA X.K) := cr_sortedS.or cr_sortedI
theorem sortedOk {K : PySem.W.Frag} : BiOk K (rSortA K) (biW .sorted) (.f 1) := by
  intro fl ρ σ Fp C M H mu Q xs z vs e s r g
  have e : sortedW xs = some z := e
  unfold sortedW at e
  split at e
  · obtain ⟨v, rfl, h⟩ := args1 r
    obtain ⟨a, us, e1, h1, h2, h3⟩ := rep_lst h
    unfold sortW at e
    split at e
    · rename_i ss es
      split at e
      · rename_i h64
        cases e
        obtain ⟨k1, k2⟩ := h3.strs es
        subst k1
        refine .inl ⟨a, ss, by rw [e1], .inl (.inl h1), h64, fun ys p hp hs hn => ?_⟩
        have ey : ys = ss.mergeSort leStr := sort_one leStr_anti leStr_trans leStr_total hp (sortedS_pair hs)
        subst ey
        exact g.lst s (RepL.of_strs fun x hx => k2 x (hp.mem_iff.mp hx)) (by rw [List.length_map, hp.length_eq]; rw [List.length_map] at h2; exact h2) hn
      · cases e
    · split at e
      · rename_i ns en
        cases e
        have k1 := h3.ints en
        subst k1
        refine .inr ⟨a, ns, by rw [e1], .inl (.inl h1), fun ys p hp hs hn => ?_⟩
        have ey : ys = ns.mergeSort leInt := sort_one leInt_anti leInt_trans leInt_total hp (hs.imp fun h => decide_eq_true h)
        subst ey
        exact g.lst s RepL.of_ints (by rw [List.length_map, hp.length_eq]; rw [List.length_map] at h2; exact h2) hn
      · cases e
  · cases e
theorem absOk {K : PySem.W.Frag} : BiOk K (fun xs H Q => ∃ i, xs = [.int i] ∧ Q (.int (if i < 0 then -i else i)) H) (biW .abs) (.f 2) := by
  intro fl ρ σ Fp C M H mu Q xs z vs e s r g
  have e : absW xs = some z := e
  unfold absW at e
  split at e
  · cases e
    obtain ⟨v, rfl, h⟩ := args1 r
    exact ⟨_, by rw [rep_int h], g.int s⟩
  · cases e

/-! ### isinstance -/
def Ty.name : Ty → String
  | .int => "int" | .str => "str" | .tuple => "tuple" | .list => "list" | .bool => "bool" | .dict => "dict"
def W.kind : W → String
  | .non => "NoneType" | .bl _ => "bool" | .int _ => "int" | .str _ => "str" | .tup _ => "tuple" | .lst _ => "list" | .dct _ => "dict" | _ => ""
theorem kit_is (x : W) (t : Ty) (h : x.kind ≠ "") : kitB x.kind t.name = some (x.is t) := by
  cases x with
  | non => cases t <;> (show kitB _ _ = _; decide +kernel)
  | bl b => cases t <;> (show kitB "bool" _ = _; simp only [W.is]; decide +kernel)
  | int b => cases t <;> (show kitB "int" _ = _; simp only [W.is]; decide +kernel)
  | str b => cases t <;> (show kitB "str" _ = _; simp only [W.is]; decide +kernel)
  | tup b => cases t <;> (show kitB "tuple" _ = _; simp only [W.is]; decide +kernel)
  | lst b => cases t <;> (show kitB "list" _ = _; simp only [W.is]; decide +kernel)
  | dct b => cases t <;> (show kitB "dict" _ = _; simp only [W.is]; decide +kernel)
  | frz b => exact absurd rfl h
  | loc b => exact absurd rfl h
/-- a locked dict of tuple keys has its type, too -/
def TyM (K : PySem.W.Frag) (H : Hp) (v : V) (t : Value) : Prop := TyX K H v t ∨ ∃ (a : Addr) (o : Obj) (ys : List (List L2.Key × V)), v = .ref a ∧ H a = some (.frz o (.dT ys)) ∧ t = .type "dict"
theorem kind_rep {G : Gh} {x : W} {d : Nat} {v : V} (h : Rep G x d v) (hk : x.kind ≠ "") : TyM G.K G.H v (.type x.kind) := by
  cases x with
  | non => rw [rep_non h]; exact .inl (.base .non)
  | bl b => rw [rep_bl h]; exact .inl (.base (.bl b))
  | int b => rw [rep_int h]; exact .inl (.base (.int b))
  | str b => rw [(rep_str h).1]; exact .inl (.base (.str b))
  | tup ws => obtain ⟨a, vs, e, h1, _⟩ := rep_tup h; rw [e]; exact .inl (.base (.tup h1))
  | lst ws => obtain ⟨a, vs, e, h1, _⟩ := rep_lst h; rw [e]; exact .inl (.base (.lst h1))
  | dct ws =>
    obtain ⟨a, xs, e, h1, _⟩ := rep_dct h
    rw [e]
    rcases h1 with (⟨ys, e1, _⟩ | ⟨ys, e1, _⟩) | ⟨_, o, ⟨ys, e1, _⟩ | ⟨ys, e1, _⟩⟩
    · exact .inl (.base (.dK e1))
    · exact .inl (.base (.dT e1))
    · exact .inl (.fDict e1)
    · exact .inr ⟨a, o, ys, rfl, e1, rfl⟩
  | frz b => exact absurd rfl hk
  | loc b => exact absurd rfl hk

section
variable {X : Cx} {cl : Nat → List W → List W → R W} {w : Wish} {fl : List Fg} {C : Addr → Prop} {ρ : Env} {M : List Mi.W} {σ : L2.St} {H : Hp} {Fp : List (List Addr)} {mu : List Addr} {Q : VK} {lv : Lv}

theorem isi_kind {t : Ty} {x z : Mi.W} (e : isiW t [x] = some z) : x.kind ≠ "" ∧ z = .bl (x.is t) := by
  cases x with
  | loc n => cases e
  | frz n => cases e
  | non => cases e; exact ⟨by decide, rfl⟩
  | bl _ => cases e; exact ⟨by show "bool" ≠ ""; decide, rfl⟩
  | int _ => cases e; exact ⟨by show "int" ≠ ""; decide, rfl⟩
  | str _ => cases e; exact ⟨by show "str" ≠ ""; decide, rfl⟩
  | tup _ => cases e; exact ⟨by show "tuple" ≠ ""; decide, rfl⟩
  | lst _ => cases e; exact ⟨by show "list" ≠ ""; decide, rfl⟩
  | dct _ => cases e; exact ⟨by show "dict" ≠ ""; decide, rfl⟩

def rIsiM (K : PySem.W.Frag) : List V → Hp → VK → Prop := fun xs H Q => ∃ (x c : V) (t u : Value) (b : Bool), xs = [x, c] ∧ ClsV c u ∧ TyM K H x t ∧ PySem.W.kitOne K t u = some b ∧ Q (.bl b) H
theorem call_isiM : CallR X (.builtin "isinstance") (rIsiM X.K) := by
  intro pins s σ H xs us Q I r h
  obtain ⟨x, c, t, u, b, rfl, k, ty, e, q⟩ := h
  rcases ty with ty | ⟨a, o, ys, rfl, ea, rfl⟩
  · exact call_isi pins s σ H _ us Q I r ⟨x, c, t, u, b, rfl, k, ty, e, q⟩
  · obtain ⟨u1, u2, rfl, r1, r2⟩ := vals2 r
    have e2 := k.eq r2
    subst e2
    cases (show u1 = Value.ref a from r1)
    obtain ⟨_, _, xs, _, d⟩ := dt_rd I.hok (.inr ⟨o, ea⟩)
    obtain ⟨o', es, ep, h1, h2, _⟩ := d
    exact PySem.W.kia_one PySem.W.kitx_dict I.kIn ⟨o', h1, h2.1⟩ e (fun z => nomatch z) fun tk => ⟨.bl b, H, I.tok tk, rfl, q⟩
theorem pe_isi {p pt : Expr} {pp pos : Pos} {a : E} {t : Ty} (hk : w.K = X.K) (ha : PE X p (TR cl w fl 2 a)) (hT : PE X pt (tC (.ty t.name))) (hg : Gl X "isinstance") (hm : X.mg "isinstance" = none)
    (he : starEach [p, pt] X.env = (false, eval p X.env) :: starEach [pt] X.env) (he2 : starEach [pt] X.env = (false, eval pt X.env) :: starEach [] X.env) (hpl : (backTo pos (starEach [pt] X.env)).any (·.1) = false) :
    PE X (.Call (.Name "isinstance" pp) [p, pt] [] pos) (TV cl w fl (.f 2) (.bi (.isi t) [a])) := by
  refine PE.weak (pe_callB call_isiM hg hm PyProof.Rows.boot_isinstance (pa_cons ha (pa_cons hT pa_nil he2) he) (by decide) (by decide) he hpl) fun σ H Q ⟨C, ρ, M, Fp, mu, s, q⟩ => ?_
  have q : OutV w fl (.f 2) ρ σ Fp C H mu (ev cl (.bi (.isi t) [a]) ρ M) Q := q
  unfold ev evs evs at q
  simp only [R.bind_assoc, R.bind_ok] at q
  refine bindR isOutV s q fun x v M1 H1 mu1 p1 r1 q1 => ?_
  obtain ⟨z, ez, g⟩ := q1.give
  obtain ⟨h1, h2⟩ := isi_kind ez
  subst h2
  rw [← hk]
  exact ⟨v, .ty t.name, .type x.kind, .type t.name, x.is t, rfl, .ty _, kind_rep r1 h1, kit_ty (kit_is x t h1), g.bl p1.sr⟩

/-! ### methods -/
theorem findIx_spec : ∀ (ys : List Mi.W) (y : Mi.W) (n : Nat), findIx ys y = some n → (∃ z, ys[n]? = some z ∧ weq z y = true) ∧ ∀ (m : Nat) (z' : Mi.W), m < n → ys[m]? = some z' → weq z' y = false
  | [], y, n, h => by cases h
  | u :: ys, y, n, h => by
    unfold findIx at h
    by_cases hu : weq u y = true
    · rw [if_pos hu] at h
      cases h
      exact ⟨⟨u, rfl, hu⟩, fun m z' hm => absurd hm (Nat.not_lt_zero m)⟩
    · rw [if_neg hu] at h
      obtain ⟨k, ek, e⟩ := Option.map_eq_some_iff.mp h
      subst e
      obtain ⟨⟨z, hz, hz2⟩, hno⟩ := findIx_spec ys y k ek
      refine ⟨⟨z, by simpa using hz, hz2⟩, fun m z' hm hz' => ?_⟩
      cases m with
      | zero => simp at hz'; subst hz'; exact Bool.eq_false_iff.mpr hu
      | succ m => exact hno m z' (by omega) (by simpa using hz')
theorem flat_all_get {ys : List Mi.W} (h : ys.all W.flat = true) {j : Nat} {z : Mi.W} (e : ys[j]? = some z) : z.flat = true := List.all_eq_true.mp h z (List.mem_of_getElem? e)
theorem pe_ixm {p p2 : Expr} {apos cpos : Pos} {a b : E} (hk : w.K = X.K) (hu : X.A.units + 65 < cLine) (ha : PE X p (TR cl w fl 1 a)) (hb : PE X p2 (TR cl w fl 2 b))
    (hbase : attributeBase p "index" X.env (eval p X.env) = eval p X.env)
    (hfew : ((backTo cpos (starEach [p2] X.env)).all (fun x => !x.1) && (backToKw cpos (keywordEach [] X.env)).all (fun x => x.1.isSome) && decide (([p2] : List Expr).length + ([] : List Keyword).length + (if ([] : List Keyword).isEmpty then 0 else 1) < 30)) = true)
    (hline : (apos.endLine == cpos.line) = true) (hs : starEach [p2] X.env = (false, eval p2 X.env) :: starEach [] X.env) (hpl : (backTo cpos (starEach [] X.env)).any (·.1) = false) :
    PE X (.Call (.Attribute p "index" apos) [p2] [] cpos) (TV cl w fl (.f 2) (.mt .index a [b])) := by
  refine PE.weak (pe_bm PySem.F.plainAttrs_list PySem.F.slot_list_index PySem.F.type_list_index (mt_index.or (mt_indexD hu)) ha (pa_cons hb pa_nil hs) hbase hfew hline hs hpl) fun σ H Q ⟨C, ρ, M, Fp, mu, s, q⟩ => ?_
  have q : OutV w fl (.f 2) ρ σ Fp C H mu (ev cl (.mt .index a [b]) ρ M) Q := q
  unfold ev at q
  refine bindR isOutV s q fun x v M1 H1 mu1 p1 r1 q1 => ?_
  cases x with
  | lst ws =>
    have q1 : OutV w fl (.f 2) ρ σ Fp C H1 mu1 ((evs cl [b] ρ M1).bind fun ws' M => R.of (mtW .index (.lst ws :: ws')) M) Q := q1
    unfold evs evs at q1
    simp only [R.bind_assoc, R.bind_ok] at q1
    obtain ⟨c, vs, e1, h1, h2, h3⟩ := rep_lst r1
    refine ⟨by rw [e1]; exact .inl ⟨rfl, vs, .inl (.inl h1)⟩, bindR isOutV p1.sr q1 fun y u M2 H2 mu2 p2 r2 q2 => ?_⟩
    obtain ⟨z, ez, g⟩ := q2.give
    have r1' := r1.to p2.toT
    obtain ⟨c', vs', e1', h1', h2', h3'⟩ := rep_lst r1'
    have ez : indexW [.lst ws, y] = some z := ez
    unfold indexW at ez
    simp only at ez
    split at ez
    · rename_i hf
      obtain ⟨n, en, e⟩ := Option.map_eq_some_iff.mp ez
      subst e
      obtain ⟨⟨z1, hz1, hz2⟩, hno⟩ := findIx_spec _ _ _ en
      obtain ⟨v1, hv1, rv1⟩ := h3'.get hz1
      refine .inl ⟨c', vs', u, n, v1, e1', rfl, .inl (.inl h1'), flat_rep r2 hf.1, flat_all h3' hf.2, hv1, ?_, fun m z' hm hz' => ?_, g.int p2.sr⟩
      · rw [flat_eq rv1 r2 (flat_all_get hf.2 hz1) hf.1]; exact hz2
      · have hml : m < ws.length := by
          have := h3'.len
          have := (List.getElem?_eq_some_iff.mp hz').1
          omega
        obtain ⟨v2, hv2, rv2⟩ := h3'.get (i := m) (w := ws[m]) (by simp [hml])
        rw [hz'] at hv2
        cases hv2
        rw [flat_eq rv2 r2 (flat_all_get hf.2 (j := m) (by simp [hml])) hf.1]
        exact hno m _ hm (by simp [hml])
    · split at ez
      · rename_i hd
        obtain ⟨n, en, e⟩ := Option.map_eq_some_iff.mp ez
        subst e
        obtain ⟨⟨z1, hz1, hz2⟩, hno⟩ := findIx_spec _ _ _ en
        obtain ⟨k1, k2⟩ := r2.shaped hd.1
        obtain ⟨j1, j2⟩ := r1'.shaped hd.2
        rw [← hk]
        refine .inr ⟨c', u, dat y, datL ws, n, dat z1, e1', rfl, by rw [← e1']; exact j1, k1, j2, k2, ?_, ?_, fun m z' hm hz' => ?_, g.int p2.sr⟩
        · rw [datL_get, List.getElem?_map, hz1]; rfl
        · rw [dat_eqv]; exact hz2
        · rw [datL_get, List.getElem?_map] at hz'
          obtain ⟨z2, e2, e3⟩ := Option.map_eq_some_iff.mp hz'
          subst e3
          rw [dat_eqv]
          exact hno m z2 hm e2
      · cases ez
  | _ => exact q1.elim
def rGetA : V → List V → Hp → VK → Prop := fun x xs H Q => ∃ a ys k y z, x = .ref a ∧ xs = [y, z] ∧ DAtR H a ys ∧ (ys.all fun p => p.1.flat == k.flat) = true ∧ kyV k H y ∧ Q ((getV ys k).getD z) H
/-- the receiver is a dict, maybe a locked one -/
theorem dat_is {pins : List (Addr × Obj)} {s : Shared} {σ : L2.St} {H : Hp} {a : Addr} {xs : List (Ky × V)} (I : Inv X pins σ H s) (h : DAtR H a xs) : s.TypeIs (.ref a) "dict" ∧ ∀ b, Value.ref a = .ref b → ∃ ob, s.heap.get? b = some ob ∧ ob.dict = none := by
  have z : ∃ o, s.heap.get? a = some o ∧ o.ExactDict := by
    have k : (∃ ys, Rd H a (.dK ys)) ∨ ∃ ys, Rd H a (.dT ys) := by
      rcases h with (⟨ys, e1, _⟩ | ⟨ys, e1, _⟩) | ⟨_, o, ⟨ys, e1, _⟩ | ⟨ys, e1, _⟩⟩
      · exact .inl ⟨ys, .inl e1⟩
      · exact .inr ⟨ys, .inl e1⟩
      · exact .inl ⟨ys, .inr ⟨o, e1⟩⟩
      · exact .inr ⟨ys, .inr ⟨o, e1⟩⟩
    rcases k with ⟨ys, k⟩ | ⟨ys, k⟩
    · obtain ⟨_, _, vs, _, o, es, ep, e, ex, _⟩ := dk_rd I.hok k
      exact ⟨o, e, ex⟩
    · obtain ⟨_, _, vs, _, o, es, ep, e, ex, _⟩ := dt_rd I.hok k
      exact ⟨o, e, ex⟩
  obtain ⟨o, e, ex⟩ := z
  refine ⟨⟨o, e, ex.1⟩, fun b e2 => ?_⟩
  cases e2
  exact ⟨o, e, ex.2.1⟩
def tBMd (r : V → List V → Hp → VK → Prop) (to : TE) (t : TA) : TE := fun σ H Q => to σ H fun x H1 => (∃ a xs, x = .ref a ∧ DAtR H1 a xs) ∧ t σ H1 fun xs H2 => r x xs H2 Q
theorem pe_bmD {name : Str} {id : String} {r : V → List V → Hp → VK → Prop} {o e : Expr} {es : List Expr} {to : TE} {t : TA} {apos cpos : Pos} (slot : Slot "dict" name id) (hty : typeOf (.builtin id) = pure (.type "method_descriptor")) (hm : MtR X id r) (ho : PE X o to) (ha : PA X (e :: es) t)
    (hbase : attributeBase o name X.env (eval o X.env) = eval o X.env)
    (hfew : ((backTo cpos (starEach (e :: es) X.env)).all (fun x => !x.1) && (backToKw cpos (keywordEach [] X.env)).all (fun x => x.1.isSome)
      && decide ((e :: es).length + ([] : List Keyword).length + (if ([] : List Keyword).isEmpty then 0 else 1) < 30)) = true)
    (hline : (apos.endLine == cpos.line) = true) (hs : starEach (e :: es) X.env = (false, eval e X.env) :: starEach es X.env) (hplain : (backTo cpos (starEach es X.env)).any (·.1) = false) :
    PE X (.Call (.Attribute o name apos) (e :: es) [] cpos) (tBMd r to t) := by
  refine ⟨fun pins s σ H Q I h => ?_⟩
  refine wpAny_Call_method_late hbase hfew hline rfl (thn (ho.run pins s σ H _ I h) fun v s1 ⟨x, H1, I1, r1, ty, q1⟩ => ?_)
  obtain ⟨a, xs, rfl, hd⟩ := ty
  cases r1
  obtain ⟨h1, h2⟩ := dat_is I1 hd
  refine ⟨"dict", id, PySem.F.plainAttrs_dict, slot, hty, h1, h2, ?_⟩
  have hA := ha.run cpos pins s1 σ H1 _ I1 q1
  rw [hs] at hA ⊢
  refine Calls.callWith_builtin (by show (false || (backTo cpos (starEach es X.env)).any (·.1)) = false; rw [hplain] <;> rfl) (Calls.evalArgs_plain ?_)
  exact thn hA fun us s2 ⟨vs, H2, I2, r2, q2⟩ => hm pins s2 σ H2 (.ref a) vs (.ref a) us Q I2 rfl r2 q2
theorem mt_getA (hu : X.A.units + 1 < cLine) : MtR X "dict.get" rGetA := by
  intro pins s σ H x xs v us Q I rx rs h
  obtain ⟨a, ys, k, y, z, rfl, rfl, hd, hk, hv, q⟩ := h
  cases rx
  obtain ⟨u, u', rfl, r1, r2⟩ := vals2 rs
  refine at_dictR I hd hk hv fun H' s' es I' g back => ?_
  subst es
  exact d_get2 hu I' g r1 r2 fun w' s'' I'' r => ⟨_, H, back _ I'', r, q⟩
theorem pe_get {p p2 p3 : Expr} {apos cpos : Pos} {a b c : E} {d : Nat} (hk : w.K = X.K) (hu : X.A.units + 1 < cLine) (ha : PE X p (TR cl w fl d a)) (hb : PE X p2 (TR cl w fl 2 b)) (hc : PE X p3 (TR cl w fl (d - 1) c))
    (hbase : attributeBase p "get" X.env (eval p X.env) = eval p X.env)
    (hfew : ((backTo cpos (starEach [p2, p3] X.env)).all (fun x => !x.1) && (backToKw cpos (keywordEach [] X.env)).all (fun x => x.1.isSome) && decide (([p2, p3] : List Expr).length + ([] : List Keyword).length + (if ([] : List Keyword).isEmpty then 0 else 1) < 30)) = true)
    (hline : (apos.endLine == cpos.line) = true) (hs : starEach [p2, p3] X.env = (false, eval p2 X.env) :: starEach [p3] X.env) (hs2 : starEach [p3] X.env = (false, eval p3 X.env) :: starEach [] X.env) (hpl : (backTo cpos (starEach [p3] X.env)).any (·.1) = false) :
    PE X (.Call (.Attribute p "get" apos) [p2, p3] [] cpos) (TV cl w fl (.t (d - 1)) (.mt .get a [b, c])) := by
  refine PE.weak (pe_bmD PySem.F.slot_dict_get PySem.F.type_dict_get (mt_getA hu) ha (pa_cons hb (pa_cons hc pa_nil hs2) hs) hbase hfew hline hs hpl) fun σ H Q ⟨C, ρ, M, Fp, mu, s, q⟩ => ?_
  have q : OutV w fl (.t (d - 1)) ρ σ Fp C H mu (ev cl (.mt .get a [b, c]) ρ M) Q := q
  unfold ev at q
  refine bindR isOutV s q fun x v M1 H1 mu1 p1 r1 q1 => ?_
  cases x with
  | dct kvs =>
    have q1 : OutV w fl (.t (d - 1)) ρ σ Fp C H1 mu1 ((evs cl [b, c] ρ M1).bind fun ws' M => R.of (mtW .get (.dct kvs :: ws')) M) Q := q1
    unfold evs evs evs at q1
    simp only [R.bind_assoc, R.bind_ok] at q1
    obtain ⟨e, xs, e1, h1, h2, h3⟩ := rep_dct r1
    refine ⟨?_, bindR isOutV p1.sr q1 fun y u M2 H2 mu2 p2 r2 q2 => bindR isOutV p2.sr q2 fun y' u' M3 H3 mu3 p3 r3 q3 => ?_⟩
    · exact ⟨e, xs, e1, h1⟩
    · obtain ⟨z, ez, g⟩ := q3.give
      obtain ⟨e', xs', e1', h1', h2', h3'⟩ := rep_dct ((r1.to p2.toT).to p3.toT)
      have ez : getW [.dct kvs, y, y'] = some z := ez
      unfold getW at ez
      simp only at ez
      split at ez
      · rename_i k ek
        split at ez
        · rename_i hf
          cases ez
          refine ⟨e', xs', k, u, u', e1', rfl, h1', by rw [flats h3']; exact hf, key_rep (r2.to p3.toT) ek, ?_⟩
          obtain ⟨i1, i2⟩ := getK_rep (k := k) h3'
          cases eg : getK kvs k with
          | none => rw [eg] at g; rw [i2 eg]; exact g.t p3.sr r3
          | some w' => rw [eg] at g; obtain ⟨v', ev', rv'⟩ := i1 _ eg; rw [ev']; exact g.t p3.sr rv'
        · cases ez
      · cases ez
  | _ => exact q1.elim
theorem strOk_join {a : Str} (ha : PyData.strOk a = true) : ∀ {ys : List Str}, (∀ y ∈ ys, PyData.strOk y = true ∧ y.length ≤ sizeLine) → PyData.strOk (Str.join a ys) = true
  | [], _ => by show PyData.strOk Str.empty = true; decide +kernel
  | [y], h => (h y List.mem_cons_self).1
  | y :: y' :: r, h => strOk_append (strOk_append (h y List.mem_cons_self).1 ha) (strOk_join ha fun z hz => h z (List.mem_cons_of_mem _ hz))
theorem pe_jn {p p2 : Expr} {apos cpos : Pos} {a b : E} (hk : w.K = X.K) (ha : PE X p (TR cl w fl 2 a)) (hb : PE X p2 (TR cl w fl 2 b)) (hs : starEach [p2] X.env = [(false, eval p2 X.env)]) (hbase : attributeBase p "join" X.env (eval p X.env) = eval p X.env)
    (hline : (apos.endLine == cpos.line) = true) : PE X (.Call (.Attribute p "join" apos) [p2] [] cpos) (TV cl w fl (.f 2) (.mt .join a [b])) := by
  refine PE.weak (pe_join ha hb hs hbase hline) fun σ H Q ⟨C, ρ, M, Fp, mu, s, q⟩ => ?_
  have q : OutV w fl (.f 2) ρ σ Fp C H mu (ev cl (.mt .join a [b]) ρ M) Q := q
  unfold ev at q
  refine bindR isOutV s q fun x v M1 H1 mu1 p1 r1 q1 => ?_
  cases x with
  | str y =>
    have q1 : OutV w fl (.f 2) ρ σ Fp C H1 mu1 ((evs cl [b] ρ M1).bind fun ws' M => R.of (mtW .join (.str y :: ws')) M) Q := q1
    unfold evs evs at q1
    simp only [R.bind_assoc, R.bind_ok] at q1
    obtain ⟨e1, h1, h2⟩ := rep_str r1
    refine ⟨⟨y, e1⟩, bindR isOutV p1.sr q1 fun x2 v2 M2 H2 mu2 p2 r2 q2 => ?_⟩
    obtain ⟨z, ez, g⟩ := q2.give
    have ez : joinW [.str y, x2] = some z := ez
    cases x2 with
    | lst wl =>
      unfold joinW at ez
      simp only at ez
      split at ez
      · rename_i ss es
        split at ez
        · rename_i hz
          cases ez
          obtain ⟨c, vs, e2, k1, k2, k3⟩ := rep_lst r2
          obtain ⟨j1, j2⟩ := k3.strs es
          subst j1
          refine ⟨y, c, ss, e1, by rw [e2], .inl (.inl (.inl k1)), by rw [← sizeLine_eq]; exact hz, ?_⟩
          rw [TL.join_eq]
          exact g.str p2.sr (strOk_join h1 j2) (Nat.le_trans (StrLaws.join_length_le _ _) hz)
        · cases ez
      · cases ez
    | _ => cases ez
  | _ => exact q1.elim
theorem pe_spl {p p2 : Expr} {apos cpos : Pos} {a b : E} (hk : w.K = X.K) (ha : PE X p (TR cl w fl 2 a)) (hb : PE X p2 (TR cl w fl 2 b)) (hs : starEach [p2] X.env = [(false, eval p2 X.env)]) (hbase : attributeBase p "split" X.env (eval p X.env) = eval p X.env)
    (hline : (apos.endLine == cpos.line) = true) : PE X (.Call (.Attribute p "split" apos) [p2] [] cpos) (TV cl w fl (.f 1) (.mt .split a [b])) := by
  refine PE.weak (pe_split ha hb hs hbase hline) fun σ H Q ⟨C, ρ, M, Fp, mu, s, q⟩ => ?_
  have q : OutV w fl (.f 1) ρ σ Fp C H mu (ev cl (.mt .split a [b]) ρ M) Q := q
  unfold ev at q
  refine bindR isOutV s q fun x v M1 H1 mu1 p1 r1 q1 => ?_
  cases x with
  | str y =>
    have q1 : OutV w fl (.f 1) ρ σ Fp C H1 mu1 ((evs cl [b] ρ M1).bind fun ws' M => R.of (mtW .split (.str y :: ws')) M) Q := q1
    unfold evs evs at q1
    simp only [R.bind_assoc, R.bind_ok] at q1
    obtain ⟨e1, h1, h2⟩ := rep_str r1
    refine ⟨⟨y, e1⟩, bindR isOutV p1.sr q1 fun x2 v2 M2 H2 mu2 p2 r2 q2 => ?_⟩
    obtain ⟨z, ez, g⟩ := q2.give
    have ez : splitW [.str y, x2] = some z := ez
    cases x2 with
    | str yb =>
      unfold splitW at ez
      simp only at ez
      split at ez
      · rename_i hz
        cases ez
        obtain ⟨e2, k1, k2⟩ := rep_str r2
        refine ⟨y, _, e1, by rw [e2], hz.1, hz.2.1, fun l hl => ?_⟩
        have hall := hz.2.2.2
        rw [List.all_eq_true] at hall
        exact g.lst p2.sr (RepL.of_strs fun x hx => by
          have := hall x hx
          rw [Bool.and_eq_true, decide_eq_true_eq] at this
          exact this) (by rw [List.length_map]; exact hz.2.2.1) hl
      · cases ez
    | _ => cases ez
  | _ => exact q1.elim
end
end Mi
end Mi8_

section Mi9_
set_option linter.all false
set_option Elab.async false
/-! Mi9: slots; targets; what is walked. -/
namespace Mi
open PySem PySem.Spec PyProof.Rows L2

/-! ### slots -/
section
variable {K : PySem.W.Frag} {C C' : Addr → Prop} {fl fl' : List Fg} {ρ : Env} {M : List W} {σ : L2.St} {H : Hp} {Fp Fp' : List (List Addr)} {mu : List Addr}
theorem gS_gT0 : (gT K H C Fp mu).To0 (gS K H C Fp mu) := ⟨rfl, fun _ _ e k => ⟨e, k⟩, fun _ _ e => e⟩
/-- a persistent value is laid in the slot i -/
theorem SR.setPl (s : SR K C fl ρ M σ H Fp mu) {i : Nat} {x : W} {v : V} (hi : i < ρ.length) (hf : fl[i]? = some .pl) (r : Rep (gT K H C Fp mu) x 0 v) : SR K C fl (ρ.set i (some x)) M (σ.set i (some v)) H Fp mu := by
  refine ⟨by simp [s.lr], by simpa using s.lp, by simpa using s.lf, s.nd, s.cd, s.ct', s.tr', s.cl, s.ce, fun j g y hg hy => ?_⟩
  by_cases e : i = j
  · subst e
    rw [hf] at hg; cases hg
    rw [List.getElem?_set_self hi] at hy
    cases hy
    refine ⟨v, ?_, r.to0 gS_gT0⟩
    rw [List.getElem?_set_self (by rw [← s.lr]; exact hi)]; rfl
  · rw [List.getElem?_set_ne e] at hy
    rw [List.getElem?_set_ne e]
    exact s.sl j g y hg hy
/-- slots forgotten -/
theorem SR.wipe (s : SR K C fl ρ M σ H Fp mu) : ∀ vs : List Nat, SR K C fl (wipeE ρ vs) M (L2.wipe σ vs) H Fp mu
  | [] => s
  | k :: vs => by
    have h := s.wipe vs
    unfold wipeE L2.wipe
    refine ⟨by simp [h.lr], by simpa using h.lp, by simpa using h.lf, s.nd, s.cd, s.ct', s.tr', s.cl, s.ce, fun j g y hg hy => ?_⟩
    by_cases e : k = j
    · subst e
      by_cases hk : k < (wipeE ρ vs).length
      · rw [List.getElem?_set_self hk] at hy; cases hy
      · rw [List.getElem?_eq_none (by simpa using hk)] at hy; cases hy
    · rw [List.getElem?_set_ne e] at hy
      rw [List.getElem?_set_ne e]
      exact h.sl j g y hg hy
/-- other flags for slots that hold nothing -/
theorem SR.flags (s : SR K C fl ρ M σ H Fp mu) (hl : fl'.length = fl.length) (h : ∀ (i : Nat) (g : Fg) (x : W), fl'[i]? = some g → ρ[i]? = some (some x) → g = .dd ∨ fl[i]? = some g) : SR K C fl' ρ M σ H Fp mu :=
  ⟨s.lr, s.lp, by rw [hl]; exact s.lf, s.nd, s.cd, s.ct', s.tr', s.cl, s.ce, fun i g x hg hx => by
    rcases h i g x hg hx with e | e
    · subst e; trivial
    · exact s.sl i g x e hx⟩
end

/-! ### targets -/
mutual
def Tg.vars : Tg → List Nat
  | .nm i => [i]
  | .tp ts => varsL ts
def varsL : List Tg → List Nat
  | [] => []
  | t :: ts => t.vars ++ varsL ts
end
/-- the target's slots alone have changed -/
def Only (vs : List Nat) (σ σ' : L2.St) : Prop := σ'.length = σ.length ∧ ∀ i, i ∉ vs → σ'[i]? = σ[i]?
def OnlyE (vs : List Nat) (σ σ' : Env) : Prop := σ'.length = σ.length ∧ ∀ i, i ∉ vs → σ'[i]? = σ[i]?
theorem Only.trans {vs us : List Nat} {a b c : L2.St} (h : Only vs a b) (k : Only us b c) : Only (vs ++ us) a c :=
  ⟨k.1.trans h.1, fun i hi => by
    rw [List.mem_append, not_or] at hi
    rw [k.2 i hi.2, h.2 i hi.1]⟩
theorem OnlyE.trans {vs us : List Nat} {a b c : Env} (h : OnlyE vs a b) (k : OnlyE us b c) : OnlyE (vs ++ us) a c :=
  ⟨k.1.trans h.1, fun i hi => by
    rw [List.mem_append, not_or] at hi
    rw [k.2 i hi.2, h.2 i hi.1]⟩
theorem wipe_only {vs : List Nat} : ∀ {ws : List Nat} {a b : L2.St}, Only vs a b → (∀ i ∈ vs, i ∈ ws) → L2.wipe b ws = L2.wipe a ws := by
  intro ws a b h hs
  refine List.ext_getElem? fun i => ?_
  have key : ∀ (ws : List Nat) (c : L2.St) (i : Nat), i ∈ ws → (L2.wipe c ws)[i]? = if i < c.length then some none else none := by
    intro ws
    induction ws with
    | nil => intro c i hi; cases hi
    | cons w ws ih =>
      intro c i hi
      unfold L2.wipe
      by_cases e : w = i
      · subst e
        by_cases hl : w < (L2.wipe c ws).length
        · rw [List.getElem?_set_self hl]
          rw [L2.wipe_length] at hl
          rw [if_pos hl]
        · rw [List.getElem?_eq_none (by simpa using hl)]
          rw [L2.wipe_length] at hl
          rw [if_neg hl]
      · rw [List.getElem?_set_ne e]
        rcases List.mem_cons.mp hi with z | z
        · exact absurd z.symm e
        · exact ih c i z
  have out : ∀ (ws : List Nat) (c : L2.St) (i : Nat), i ∉ ws → (L2.wipe c ws)[i]? = c[i]? := by
    intro ws
    induction ws with
    | nil => intro c i _; rfl
    | cons w ws ih =>
      intro c i hi
      rw [List.mem_cons, not_or] at hi
      unfold L2.wipe
      rw [List.getElem?_set_ne (fun e => hi.1 e.symm)]
      exact ih c i hi.2
  by_cases hi : i ∈ ws
  · rw [key ws b i hi, key ws a i hi, h.1]
  · rw [out ws b i hi, out ws a i hi]
    exact h.2 i fun z => hi (hs i z)

section
variable {X : Cx} {w : Wish} {fl : List Fg}
/-- the item read 0 deep; what follows holds of the state with the target bound -/
def TGt (w : Wish) (fl : List Fg) (tg : Tg) : TG := fun v σ H Q => ∃ (C : Addr → Prop) (ρ ρ' : Env) (M : List Mi.W) (Fp : List (List Addr)) (mu : List Addr) (x : Mi.W),
  SR w.K C fl ρ M σ H Fp mu ∧ Rep (gT w.K H C Fp mu) x 0 v ∧ bindT tg x ρ = some ρ' ∧ ∀ σ', SR w.K C fl ρ' M σ' H Fp mu → Only tg.vars σ σ' → OnlyE tg.vars ρ ρ' → Q σ' H
def TGts (w : Wish) (fl : List Fg) (ts : List Tg) : TGs := fun vs σ H Q => ∃ (C : Addr → Prop) (ρ ρ' : Env) (M : List Mi.W) (Fp : List (List Addr)) (mu : List Addr) (xs : List Mi.W),
  SR w.K C fl ρ M σ H Fp mu ∧ RepL (gT w.K H C Fp mu) xs 0 vs ∧ bindTs ts xs ρ = some ρ' ∧ ∀ σ', SR w.K C fl ρ' M σ' H Fp mu → Only (varsL ts) σ σ' → OnlyE (varsL ts) ρ ρ' → Q σ' H
theorem PG.weak {e : Expr} {t t' : TG} (h : PG X e t) (k : ∀ v σ H Q, t' v σ H Q → t v σ H Q) : PG X e t' := ⟨fun pins s σ H v u Q I r q => h.run pins s σ H v u Q I r (k v σ H Q q)⟩
theorem PGs.weak {e : List Expr} {t t' : TGs} (h : PGs X e t) (k : ∀ v σ H Q, t' v σ H Q → t v σ H Q) : PGs X e t' := ⟨fun pins s σ H v u Q I r q => h.run pins s σ H v u Q I r (k v σ H Q q)⟩
theorem pg_nm {p : Expr} {i : Nat} (h : PG X p (gName i)) (hf : fl[i]? = some .pl) : PG X p (TGt w fl (.nm i)) := by
  refine PG.weak h fun v σ H Q ⟨C, ρ, ρ', M, Fp, mu, x, s, r, b, q⟩ => ?_
  unfold bindT at b
  split at b
  · rename_i hi
    cases b
    refine q _ (s.setPl hi hf r) ⟨by simp, fun j hj => ?_⟩ ⟨by simp, fun j hj => ?_⟩
    · rw [List.getElem?_set_ne (fun e => hj (by simp [Tg.vars, e]))]
    · rw [List.getElem?_set_ne (fun e => hj (by simp [Tg.vars, e]))]
  · cases b
theorem pg_tps {es : List Expr} {k : Nat} {pos : Pos} {ts : List Tg} (hk : w.K = X.K) (hc : X.calm = true) (h : PGs X es (TGts w fl ts)) (hl : es.length = ts.length)
    (hn : (assignEach es X.env).length = es.length) (hst : (assignEach es X.env).findIdx? (·.1) = none) : PG X (.Tuple es k pos) (TGt w fl (.tp ts)) := by
  refine PG.weak (pg_tup hc h hn hst) fun v σ H Q ⟨C, ρ, ρ', M, Fp, mu, x, s, r, b, q⟩ => ?_
  cases x with
  | tup ws =>
    obtain ⟨a, vs, e, h1, h2, h3⟩ := rep_tup r
    have b : bindTs ts ws ρ = some ρ' := b
    have len : ∀ (ts : List Tg) (ws : List Mi.W) (ρ ρ' : Env), bindTs ts ws ρ = some ρ' → ws.length = ts.length := by
      intro ts
      induction ts with
      | nil => intro ws ρ ρ' h; cases ws with
        | nil => rfl
        | cons _ _ => cases h
      | cons t ts ih => intro ws ρ ρ' h; cases ws with
        | nil => cases h
        | cons w ws =>
          unfold bindTs at h
          split at h
          · rw [List.length_cons, List.length_cons, ih _ _ _ h]
          · cases h
    refine ⟨a, vs, e, .inl (.inl h1), ?_, C, ρ, ρ', M, Fp, mu, ws, s, h3, b, q⟩
    rw [h3.len, len _ _ _ _ b, hl]
  | _ => cases b
theorem pgs_n : PGs X [] (TGts w fl []) := by
  refine PGs.weak pgs_nil fun v σ H Q ⟨C, ρ, ρ', M, Fp, mu, x, s, r, b, q⟩ => ?_
  cases x with
  | nil =>
    unfold RepL at r
    cases b
    exact ⟨r, q σ s ⟨rfl, fun _ _ => rfl⟩ ⟨rfl, fun _ _ => rfl⟩⟩
  | cons _ _ => cases b
theorem pgs_c {e : Expr} {es : List Expr} {t : Tg} {ts : List Tg} (h1 : PG X e (TGt w fl t)) (h2 : PGs X es (TGts w fl ts)) (hs : (assignEach (e :: es) X.env).map (·.2) = assign e X.env :: (assignEach es X.env).map (·.2)) : PGs X (e :: es) (TGts w fl (t :: ts)) := by
  refine PGs.weak (pgs_cons h1 h2 hs) fun v σ H Q ⟨C, ρ, ρ', M, Fp, mu, x, s, r, b, q⟩ => ?_
  cases x with
  | nil => cases b
  | cons y ys =>
    unfold RepL at r
    obtain ⟨u, vr, e, r1, r2⟩ := r
    unfold bindTs at b
    split at b
    · rename_i ρ1 e1
      refine ⟨u, vr, e, C, ρ, ρ1, M, Fp, mu, y, s, r1, e1, fun σ1 s1 o1 o1' => ⟨C, ρ1, ρ', M, Fp, mu, ys, s1, r2, b, fun σ2 s2 o2 o2' => ?_⟩⟩
      exact q σ2 s2 (o1.trans o2) (o1'.trans o2')
    · cases b
end
end Mi
end Mi9_

section MiA_
set_option linter.all false
set_option Elab.async false
/-! MiA: enumerate of a tuple; what is walked, of any kind. -/
namespace Mi
open PySem PySem.Spec PyProof.Rows L2

/-! ### enumerate(tuple) -/
theorem meets_enumT (l : Addr) (items : Array Value) :
    Meets (Builtin.«enumerate.__new__» ⟨[.type "enumerate", .ref l], []⟩) (fun _ R s => s.heap.IsTuple l items ∧
      R (.ok (.ret (.ref (s.heap.push { cls := .type "tuple_iterator", data := .fields #[.ref l, .int 0 0] }).objs.size)))
        { s with heap := (s.heap.push { cls := .type "tuple_iterator", data := .fields #[.ref l, .int 0 0] }).push { cls := .type "enumerate", data := .fields #[.none, .bool false, .ref s.heap.objs.size, rawInt 0, .none, .none] } }) :=
  .of_wp fun prog w A R s h => by
    obtain ⟨hp, g, d, tk, os⟩ := s
    obtain ⟨hL, h⟩ := h
    have hsub := sub_enumerate
    obtain ⟨o, ho, hc, n, hd⟩ := id hL
    obtain ⟨c, dct, dt, sl⟩ := o
    have hc : c = .type "tuple" := hc
    have hd : dt = .seq items n := hd
    subst hc hd
    have ho : hp.get? l = some { cls := .type "tuple", dict := dct, data := .seq items n, slots := sl } := ho
    wp_walk using AutoSeq1.wpAny_loadPart' ho
    refine wpAny_stack_any fun st => wpAny_pure ?_
    split
    · rename_i c _ _ _ _ _
      cases (c == Value.type "enumerate")
      · wp_walk using AutoSeq1.wpAny_loadPart' ho, wpAny_pyIter_tuple hL
        exact ⟨_, rfl, h⟩
      · wp_walk using AutoSeq1.wpAny_loadPart' ho, wpAny_pyIter_tuple hL
        exact ⟨_, rfl, h⟩
    · wp_walk using AutoSeq1.wpAny_loadPart' ho, wpAny_pyIter_tuple hL
      exact ⟨_, rfl, h⟩
section
variable {prog : Program} {w : World} {A : Around} {E : Value → Shared → Prop} {s : Shared}
theorem call_enumT {l : Addr} {items : Array Value} {Q : Value → Shared → Prop} (hL : s.heap.IsTuple l items)
    (h : ∀ h', IsEnum h' (s.heap.objs.size + 1) s.heap.objs.size 0 .none → h'.IsTupleIter s.heap.objs.size l 0 → h'.objs.size = s.heap.objs.size + 2 →
      (∀ b o, s.heap.get? b = some o → h'.get? b = some o) → Q (.ref (s.heap.objs.size + 1)) { s with heap := h' }) :
    wpAny (model prog w) A (call (.type "enumerate") [.ref l]) Q E s := by
  refine callType_new F.called_enumerate (by decide) (F.typeCall_enumerate_1 _) (F.newCall_enumerate_1 _) (fun obj => F.args_object_init_2 obj _) F.entry_enumerate_new (meets_enumT l items) ⟨hL, ?_⟩
  generalize e1 : s.heap.push { cls := .type "tuple_iterator", data := .fields #[.ref l, .int 0 0] } = g
  have hz : g.objs.size = s.heap.objs.size + 1 := by rw [← e1]; exact Heap.size_push ..
  have gi : g.get? s.heap.objs.size = some { cls := .type "tuple_iterator", data := .fields #[.ref l, .int 0 0] } := by rw [← e1]; exact Heap.get?_push_size _ rfl
  have gk : ∀ b o, s.heap.get? b = some o → g.get? b = some o := fun b o x => by rw [← e1]; exact Heap.get?_push_of_some _ x
  show _ ∧ _
  rw [hz]
  generalize e2 : g.push { cls := .type "enumerate", data := .fields #[.none, .bool false, .ref s.heap.objs.size, rawInt 0, .none, .none] } = g'
  have he : IsEnum g' (s.heap.objs.size + 1) s.heap.objs.size 0 .none := by
    rw [← hz, ← e2]
    exact Heap.get?_push_size _ rfl
  have kk : ∀ b o, g.get? b = some o → g'.get? b = some o := fun b o x => by rw [← e2]; exact Heap.get?_push_of_some _ x
  refine ⟨⟨_, he, rfl⟩, h _ he ⟨_, kk _ _ gi, rfl, rfl⟩ ?_ fun b o x => kk b o (gk b o x)⟩
  rw [← e2, Heap.size_push, hz]
end
/-- the tuple at a as it stands at each turn, each item in a new pair -/
def IteT (K : PySem.W.Frag) (a : Addr) : It :=
  ⟨fun i H => ∃ (xs : List V) (x : V), SqT K H a xs ∧ xs[i]? = some x, fun i H v H' => ∃ T x, v = .ref T ∧ H T = none ∧ H' = upd H T (.tup [.int (i : Nat), x]) ∧ ∀ xs, SqT K H a xs → xs[i]? = some x, fun i H => ∃ xs : List V, SqT K H a xs ∧ xs.length ≤ i⟩
theorem tup_ne {h : Heap} {a b : Addr} {items : Array Value} {o : Obj} (ht : h.IsTuple a items) (ho : h.get? b = some o) (hc : o.cls ≠ .type "tuple") : b ≠ a := fun e => by
  obtain ⟨o', e', c, _⟩ := ht
  rw [e, e'] at ho
  cases ho
  exact hc c
theorem turn_enumT {P : Program} {w : World} {K : PySem.W.Frag} {elts : List Expr} {kk : Nat} {tpos : Pos} (a e it : Addr) :
    Turn P w K (.Tuple elts kk tpos) (IteT K a) [e, it] e (fun i h => (∃ old, IsEnum h e it ((i : Nat) : Int) old) ∧ h.IsTupleIter it a i ∧ e ≠ it) where
  mem := by simp
  obj := fun i h st b hb => by
    obtain ⟨⟨old, he⟩, ⟨o, ho, hc, hd⟩, _⟩ := st
    rcases List.mem_cons.mp hb with z | z
    · subst z; exact ⟨_, he, fun v q => nomatch q⟩
    · rw [List.mem_singleton.mp z]
      exact ⟨o, ho, fun v q => by rw [hd] at q; cases q⟩
  keep := fun i h h' st k => by
    obtain ⟨⟨old, he⟩, ⟨o, ho, r⟩, hne⟩ := st
    exact ⟨⟨old, k e List.mem_cons_self _ he⟩, ⟨o, k it (by simp) o ho, r⟩, hne⟩
  item := by
    intro X hP hw hK hc i pins s σ H E I hf st hg
    subst hP hw hK
    obtain ⟨⟨old, he⟩, hit, hne⟩ := st
    obtain ⟨xs, x, hq, hx⟩ := hg
    obtain ⟨its, rv, p, hz⟩ := I.tuple hq
    obtain ⟨u, hu, ru⟩ := rv.get hx
    have hh : X.A.in1.handled = none := I.ok.hd hc
    have pt : s.heap.IsTuple a its.toArray := p
    obtain ⟨oi, ei, ci, di⟩ := id hit
    have n1 : e ≠ a := tup_ne pt he (show Value.type "enumerate" ≠ Value.type "tuple" by decide)
    have n2 : it ≠ a := tup_ne pt ei (by rw [ci]; decide)
    have hel : e < s.heap.objs.size := Heap.lt_size he
    have hil : it < s.heap.objs.size := Heap.lt_size ei
    have hlt : i < its.toArray.size := by
      have := (List.getElem?_eq_some_iff.mp hu).1
      simpa using this
    refine wpAny_pyNext_enum_itemD (Draws.tuple hh it a (Ne.symm n2) its.toArray) he ⟨hit, pt⟩ hlt hne (by simp [hne, n1]) fun x' h' tk px ho st' hT hsz hk => ?_
    have ex : x' = u := by
      have px : its.toArray[i]? = some x' := px
      rw [List.getElem?_toArray, hu] at px
      exact (Option.some.inj px).symm
    subst ex
    refine ⟨_, rfl, wpAny_letOwnedTupleGo_enum (s := { s with heap := h', toks := tk + 1 }) ho fun h'' he' sb => ?_⟩
    have hT2 : h''.get? s.heap.objs.size = some { cls := .type "tuple", data := .seq #[.int i tk, x'] } := (sb.2 _ (Nat.ne_of_gt hel)).trans hT
    have new : ObjOk X.prog X.w (upd H s.heap.objs.size (.tup [.int (i : Nat), x])) h'' s.heap.objs.size (.tup [.int (i : Nat), x]) :=
      ⟨by show 2 ≤ sizeLine; decide, [.int i tk, x'], .cons ⟨_, rfl⟩ (.cons ru .nil), ⟨_, hT2, rfl, _, rfl⟩⟩
    have I1 : Inv X pins σ (upd H s.heap.objs.size (.tup [.int (i : Nat), x])) { s with heap := h'', toks := tk + 1 } := by
      refine I.turnedNew (ch := [e, it]) (fun b ob hb q => ?_) hf (Nat.le_refl _) new
      rw [List.mem_cons, List.mem_singleton, not_or] at hb
      exact (sb.2 b hb.1).trans (hk b ob hb.1 hb.2 q)
    obtain ⟨os, es, rs⟩ := st'.1
    refine ⟨.ref s.heap.objs.size, _, I1, rfl, ⟨_, x, rfl, I.hok.fresh (Nat.le_refl _), rfl, fun ys hy => by rw [I.tuple_inj hy hq]; exact hx⟩, ⟨⟨x', ?_⟩, ⟨os, (sb.2 it (Ne.symm hne)).trans es, rs⟩, hne⟩, fun b hb => ?_⟩
    · have e1 : ((i + 1 : Nat) : Int) = (i : Int) + 1 := by omega
      rw [e1]; exact he'
    · have hb' : b < s.heap.objs.size := by
        rcases List.mem_cons.mp hb with z | z
        · rw [z]; exact hel
        · rw [List.mem_singleton.mp z]; exact hil
      rw [upd_ne (Nat.ne_of_lt hb')]
      exact (hf b hb).1
  done := by
    intro X hP hw hK hc i pins s σ H E I hf st hg
    subst hP hw hK
    obtain ⟨⟨old, he⟩, hit, hne⟩ := st
    obtain ⟨xs, hq, hx⟩ := hg
    obtain ⟨its, rv, p, hz⟩ := I.tuple hq
    obtain ⟨f0, f1, f2, f3, f4, f5⟩ := hf it (by simp)
    have hl := rv.length
    have hh : X.A.in1.handled = none := I.ok.hd hc
    obtain ⟨oi, ei, ci, di⟩ := id hit
    have n2 : it ≠ a := tup_ne (show s.heap.IsTuple a its.toArray from p) ei (by rw [ci]; decide)
    have hT : s.TypeIs (.ref e) "enumerate" := ⟨_, he, rfl⟩
    unfold pyNext
    refine wpAny_bind (wpAny_attempt (wpAny_callSpecial?_slot (name := Str.ofString "__next__") hT F.slot_enumerate_next (wpAny_call_entry F.slot_enumerate_next hT F.entry_enumerate_next ?_ (F.args_enumerate_next_1 _))))
    show wpAny _ _ (field (.ref e) 2 >>= _) _ _ _
    refine wpAny_bind (wpAny_field he rfl (x := .ref it) rfl ?_)
    refine wpAny_bind (wpAny_nextOf_tuple_end hh hit (show s.heap.IsTuple a its.toArray from p) (by simp; omega) fun h' q hx' hq' => ?_)
    obtain ⟨o, ho, hc'⟩ := hq'
    refine wpAny_bind (wpAny_isInstance (T := "StopIteration") (b := true) ⟨o, ho, hc'⟩ isSubtype_stop ?_)
    exact wpAny_pure ⟨rfl, I.turned (t' := s.toks) (fun b o hb q => hx' b o hb q) f0 f1 f3 f4 f5⟩
  self := fun A i s Q E st h => by
    obtain ⟨⟨_, he⟩, _⟩ := st
    exact wpAny_pyIter_enum he h
theorem walk_enumT {K : PySem.W.Frag} {a : Addr} {xs : List V} : Walk (IteT K a) xs.length (fun H => SqT K H a xs) (YPair (fun i => some (.int (i : Nat))) (fun i => xs[i]?)) := by
  refine ⟨fun i _ hi q => ⟨xs, xs[i], q, by simp [hi]⟩, fun _ q => ⟨xs, q, Nat.le_refl _⟩, fun i H v H' _ q y => ?_⟩
  obtain ⟨T, x, h1, h2, h3, h4⟩ := y
  exact ⟨T, .int (i : Nat), x, h1, h2, h3, rfl, h4 xs q⟩
end Mi
end MiA_

section MiB_
set_option linter.all false
set_option Elab.async false
/-! MiB: what is walked. -/
namespace Mi
open PySem PySem.Spec PyProof.Rows L2

/-- stable: against every expression (gT), against every statement (gS) -/
def gk (b : Bool) (K : PySem.W.Frag) (H : Hp) (C : Addr → Prop) (Fp : List (List Addr)) (mu : List Addr) : Gh := if b then gS K H C Fp mu else gT K H C Fp mu
theorem gk_K {b : Bool} {K : PySem.W.Frag} {H : Hp} {C : Addr → Prop} {Fp : List (List Addr)} {mu : List Addr} : (gk b K H C Fp mu).K = K ∧ (gk b K H C Fp mu).H = H := by cases b <;> exact ⟨rfl, rfl⟩
theorem gk_b {b : Bool} {K : PySem.W.Frag} {H : Hp} {C : Addr → Prop} {Fp : List (List Addr)} {mu : List Addr} : ∀ a, (gk b K H C Fp mu).B1 a → (gk b K H C Fp mu).B0 a := by
  cases b
  · exact gT_b
  · exact gS_b
/-- what a turn gives -/
def Item (G : Gh) (ws : List W) (i : Nat) (x : V) (H2 : Hp) : Prop :=
  ∃ w, ws[i]? = some w ∧ ((H2 = G.H ∧ Rep G w 0 x) ∨ ∃ (T : Addr) (y z : V) (wy wz : W), x = .ref T ∧ G.H T = none ∧ H2 = upd G.H T (.tup [y, z]) ∧ w = .tup [wy, wz] ∧ Rep G wy 0 y ∧ Rep G wz 0 z)
/-- an iterator that gives the values ws, whatever keeps the ghost -/
def Wk (G : Gh) (J : It) (ws : List W) : Prop := ws.length ≤ sizeLine ∧ ∃ (Gd : Hp → Prop) (Y : Nat → Hp → V → Hp → Prop), Walk J ws.length Gd Y ∧ (∀ G', G.To G' → Gd G'.H) ∧ ∀ G' i x H2, G.To G' → (∀ b vs, G'.H b = some (.tup vs) → ¬ G'.B0 b) → i < ws.length → Y i G'.H x H2 → Item G' ws i x H2
theorem wk_list {G : Gh} {a : Addr} {ws : List W} {vs : List V} (h : ∀ G', G.To G' → SqL G'.K G'.H a vs) (hr : RepL G ws 0 vs) (hz : vs.length ≤ sizeLine) : Wk G (Itl G.K a) ws := by
  refine ⟨by rw [← hr.len]; exact hz, fun H => SqL G.K H a vs, YAt vs, ?_, fun G' t => by have := h G' t; rw [t.K] at this; exact this, fun G' i x H2 t _ hi y => ?_⟩
  · rw [← hr.len]; exact walk_list
  · obtain ⟨e, y⟩ := y
    obtain ⟨v, ev, rv⟩ := hr.get (i := i) (w := ws[i]) (by simp [hi])
    rw [y] at ev; cases ev
    exact ⟨ws[i], by simp [hi], .inl ⟨e, rv.to t⟩⟩
theorem wk_tup {G : Gh} {a : Addr} {ws : List W} {vs : List V} (h : ∀ G', G.To G' → SqT G'.K G'.H a vs) (hr : RepL G ws 0 vs) (hz : vs.length ≤ sizeLine) : Wk G (Itt G.K a) ws := by
  refine ⟨by rw [← hr.len]; exact hz, fun H => SqT G.K H a vs, YAt vs, ?_, fun G' t => by have := h G' t; rw [t.K] at this; exact this, fun G' i x H2 t _ hi y => ?_⟩
  · rw [← hr.len]; exact walk_tup
  · obtain ⟨e, y⟩ := y
    obtain ⟨v, ev, rv⟩ := hr.get (i := i) (w := ws[i]) (by simp [hi])
    rw [y] at ev; cases ev
    exact ⟨ws[i], by simp [hi], .inl ⟨e, rv.to t⟩⟩
theorem enumL_get : ∀ (ws : List W) (k i : Nat) , (enumL k ws)[i]? = (ws[i]?).map fun w => W.tup [.int ((k + i : Nat) : Int), w]
  | [], _, _ => rfl
  | w :: ws, k, 0 => rfl
  | w :: ws, k, i + 1 => by
    show (enumL (k + 1) ws)[i]? = _
    rw [enumL_get ws (k + 1) i]
    have e : k + 1 + i = k + (i + 1) := by omega
    rw [e]; rfl
theorem enumL_len : ∀ (ws : List W) (k : Nat), (enumL k ws).length = ws.length
  | [], _ => rfl
  | w :: ws, k => by
    show (enumL (k + 1) ws).length + 1 = _
    rw [enumL_len ws (k + 1)]; rfl
theorem item_enum {G G' : Gh} {ws : List W} {vs : List V} {i : Nat} {x : V} {H2 : Hp} (hr : RepL G ws 0 vs) (t : G.To G') (hi : i < ws.length) (y : YPair (fun i => some (V.int (i : Nat))) (fun i => vs[i]?) i G'.H x H2) : Item G' (enumL 0 ws) i x H2 := by
  obtain ⟨T, u, z, e1, e2, e3, e4, e5⟩ := y
  cases e4
  obtain ⟨v, ev, rv⟩ := hr.get (i := i) (w := ws[i]) (by simp [hi])
  have e5 : vs[i]? = some z := e5
  rw [e5] at ev; cases ev
  refine ⟨.tup [.int (i : Nat), ws[i]], ?_, .inr ⟨T, _, z, _, _, e1, e2, e3, rfl, by unfold Rep; rfl, rv.to t⟩⟩
  rw [enumL_get, List.getElem?_eq_getElem hi]
  simp
theorem wk_enumL {G : Gh} {a : Addr} {ws : List W} {vs : List V} (h : ∀ G', G.To G' → SqL G'.K G'.H a vs) (hr : RepL G ws 0 vs) (hz : vs.length ≤ sizeLine) : Wk G (Ite G.K a) (enumL 0 ws) := by
  refine ⟨by rw [enumL_len, ← hr.len]; exact hz, fun H => SqL G.K H a vs, YPair (fun i => some (V.int (i : Nat))) (fun i => vs[i]?), ?_, fun G' t => by have := h G' t; rw [t.K] at this; exact this, fun G' i x H2 t _ hi y => ?_⟩
  · rw [enumL_len, ← hr.len]; exact walk_enum
  · rw [enumL_len] at hi
    exact item_enum hr t hi y
theorem wk_enumT {G : Gh} {a : Addr} {ws : List W} {vs : List V} (h : ∀ G', G.To G' → SqT G'.K G'.H a vs) (hr : RepL G ws 0 vs) (hz : vs.length ≤ sizeLine) : Wk G (IteT G.K a) (enumL 0 ws) := by
  refine ⟨by rw [enumL_len, ← hr.len]; exact hz, fun H => SqT G.K H a vs, YPair (fun i => some (V.int (i : Nat))) (fun i => vs[i]?), ?_, fun G' t => by have := h G' t; rw [t.K] at this; exact this, fun G' i x H2 t _ hi y => ?_⟩
  · rw [enumL_len, ← hr.len]; exact walk_enumT
  · rw [enumL_len] at hi
    exact item_enum hr t hi y
theorem wk_range {G : Gh} {lo : Int} {n : Nat} (hn : n ≤ sizeLine) : Wk G (Itr lo n) ((List.range n).map fun k : Nat => W.int (lo + k)) := by
  refine ⟨by rw [List.length_map, List.length_range]; exact hn, fun _ => True, YFn fun i => V.int (lo + i), ?_, fun _ _ => trivial, fun G' i x H2 t _ hi y => ?_⟩
  · rw [List.length_map, List.length_range]; exact walk_range
  · obtain ⟨e, y⟩ := y
    rw [List.length_map, List.length_range] at hi
    refine ⟨.int (lo + i), ?_, .inl ⟨e, ?_⟩⟩
    · rw [List.getElem?_map, List.getElem?_range hi]; rfl
    · unfold Rep; exact y
theorem wk_str {G : Gh} {z : Str} (hz : PyData.strOk z = true) (hn : z.length ≤ sizeLine) : Wk G (Its z) (z.cps.toList.map fun c => W.str ⟨#[c]⟩) := by
  refine ⟨by rw [List.length_map, Array.length_toList]; exact hn, fun _ => True, fun i H v H' => H' = H ∧ ∃ c, z.cps[i]? = some c ∧ v = .str ⟨#[c]⟩, ?_, fun _ _ => trivial, fun G' i x H2 t _ hi y => ?_⟩
  · rw [List.length_map, Array.length_toList]; exact walk_str
  · obtain ⟨e, c, ec, y⟩ := y
    have ec' : z.cps.toList[i]? = some c := by rw [Array.getElem?_toList]; exact ec
    refine ⟨.str ⟨#[c]⟩, ?_, .inl ⟨e, ?_⟩⟩
    · rw [List.getElem?_map, ec']; rfl
    · unfold Rep; exact ⟨y, strOk_one hz (List.mem_of_getElem? ec'), one_line⟩
theorem SqL.frz {G : Gh} {ns : List Int} {a : Addr} (h : (∃ o, G.H a = some (.frz o (.lst (ns.map V.int))) ∧ ¬ G.B0 a) ∨ KLst G.K a (ns.map V.int)) : ∀ G', G.To G' → SqL G'.K G'.H a (ns.map V.int) := by
  intro G' t
  rcases h with ⟨o, h1, h2⟩ | h
  · exact .inl (.inr ⟨o, (t.h0 _ _ h1 h2).1⟩)
  · rw [← t.K] at h
    exact .inr h

section
variable {X : Cx} {cl : Nat → List W → List W → R W} {w : Wish} {fl : List Fg} {C : Addr → Prop} {ρ : Env} {M : List Mi.W} {σ : L2.St} {H : Hp} {Fp : List (List Addr)} {mu : List Addr}
/-- .. read one deep by the ghost of b -/
def OutK (b : Bool) (w : Wish) (fl : List Fg) (ρ : Env) (σ : L2.St) (Fp : List (List Addr)) (C : Addr → Prop) (H : Hp) (mu : List Addr) (r : R Mi.W) (Q : VK) : Prop :=
  match r with
  | .ok x M' => ∀ v H' mu', Po w.K fl ρ σ Fp C H mu C M' H' mu' → Rep (gk b w.K H' C Fp mu') x 1 v → Q v H'
  | .ex x M' => ∀ H' mu', Po w.K fl ρ σ Fp C H mu C M' H' mu' → ∀ cls d, ExcOk w.cm x cls d → w.W cls d σ H'
  | .no => False
def OutI (b : Bool) (w : Wish) (fl : List Fg) (ρ : Env) (σ : L2.St) (Fp : List (List Addr)) (C : Addr → Prop) (H : Hp) (mu : List Addr) (r : R (List Mi.W)) (Q : It → Hp → Prop) : Prop :=
  match r with
  | .ok xs M' => ∀ J H' mu', Po w.K fl ρ σ Fp C H mu C M' H' mu' → Wk (gk b w.K H' C Fp mu') J xs → Q J H'
  | .ex x M' => ∀ H' mu', Po w.K fl ρ σ Fp C H mu C M' H' mu' → ∀ cls d, ExcOk w.cm x cls d → w.W cls d σ H'
  | .no => False
def TK (b : Bool) (cl : Nat → List Mi.W → List Mi.W → R Mi.W) (w : Wish) (fl : List Fg) (e : E) : TE := fun σ H Q => At w.K fl σ H fun ρ M Fp C mu => OutK b w fl ρ σ Fp C H mu (ev cl e ρ M) Q
def TIt (b : Bool) (cl : Nat → List Mi.W → List Mi.W → R Mi.W) (w : Wish) (fl : List Fg) (it : I) : TI := fun σ H R => At w.K fl σ H fun ρ M Fp C mu => OutI b w fl ρ σ Fp C H mu (evI cl it ρ M) R
theorem isOutI {b : Bool} {Q : It → Hp → Prop} : IsOut w fl ρ σ Fp C fun H mu r => OutI b w fl ρ σ Fp C H mu r Q where
  no := fun H mu h => h
  ex := fun H mu x M h => h
  sh := fun H mu M1 H1 mu1 r p h => by
    cases r with
    | no => exact h
    | ex x M => exact fun H' mu' q => h H' mu' (p.trans q)
    | ok x M => exact fun v H' mu' q hv => h v H' mu' (p.trans q) hv
theorem PI.weak {tg iter : Expr} {t t' : TI} (h : PI X tg iter t) (k : ∀ σ H R, t' σ H R → t σ H R) : PI X tg iter t' := ⟨fun pins s σ H R I q => h.run pins s σ H R I (k σ H R q)⟩
theorem pk_f {p : Expr} {e : E} (h : PE X p (TR cl w fl 1 e)) : PE X p (TK false cl w fl e) := PE.weak h fun σ H Q q => q
/-- persistent: stable -/
theorem pk_0 {p : Expr} {e : E} {b : Bool} (h : PE X p (TR cl w fl 0 e)) : PE X p (TK b cl w fl e) := by
  refine PE.weak h fun σ H Q ⟨C, ρ, M, Fp, mu, s, q⟩ => ⟨C, ρ, M, Fp, mu, s, ?_⟩
  have q : OutK b w fl ρ σ Fp C H mu (ev cl e ρ M) Q := q
  show OutR w fl 0 ρ σ Fp C H mu (ev cl e ρ M) Q
  revert q
  cases ev cl e ρ M with
  | no => exact id
  | ex x M' => exact id
  | ok x M' =>
    intro q v H' mu' p r
    refine q v H' mu' p ?_
    cases b with
    | false => exact r.mono gT_b (Nat.zero_le 1)
    | true => exact (r.to0 gS_gT0).mono gS_b (Nat.zero_le 1)
/-- borrowed: stable -/
theorem pk_b {p : Expr} {i : Nat} {b : Bool} (h : PE X p (tVar i)) (hg : fl[i]? = some (.bo 1)) : PE X p (TK b cl w fl (.var i)) := by
  refine PE.weak h fun σ H Q ⟨C, ρ, M, Fp, mu, s, q⟩ => ?_
  have q : OutK b w fl ρ σ Fp C H mu (ev cl (.var i) ρ M) Q := q
  unfold ev at q
  split at q
  · rename_i x ex
    obtain ⟨v, e, r⟩ := s.sl i _ x hg ex
    refine ⟨v, ?_, q v H mu (Po.refl s) ?_⟩
    · cases z : σ[i]? with
      | none => rw [z] at e; cases e
      | some o => rw [z] at e; exact congrArg some e
    · cases b with
      | false => exact r.to gS_gT
      | true => exact r
  · exact q.elim

/-! ### the kinds -/
theorem pi_rng1 {tg a : Expr} {e : E} {p pos : Pos} {b : Bool} (hg : Gl X "range") (hm : X.mg "range" = none) (ha : PA X [a] (TL cl w fl [2] [e])) (hs : starEach [a] X.env = [(false, eval a X.env)]) : PI X tg (.Call (.Name "range" p) [a] [] pos) (TIt b cl w fl (.range [e])) := by
  refine PI.weak (pi_range1 hg hm ha hs) fun σ H R ⟨C, ρ, M, Fp, mu, s, q⟩ => ?_
  have q : OutI b w fl ρ σ Fp C H mu (evI cl (.range [e]) ρ M) R := q
  unfold evI at q
  refine bindL isOutI s q fun xs vs M1 H1 mu1 p1 r1 q1 => ?_
  have r2 := r1.all (d := 2) (by simp)
  unfold rangeL at q1
  split at q1
  · rename_i n
    obtain ⟨v, e1, h⟩ := args1 r2
    split at q1
    · rename_i hn
      have hz : (sizeLine : Int) = 16777216 := by rw [sizeLine_eq]; rfl
      have q1 : ∀ J H' mu', Po w.K fl ρ σ Fp C H1 mu1 C M1 H' mu' → Wk (gk b w.K H' C Fp mu') J ((List.range n.toNat).map fun k : Nat => W.int k) → R J H' := q1
      refine ⟨n, by rw [e1, rep_int h], hn.1, by have := hn.2; omega, q1 _ H1 mu1 (Po.refl p1.sr) ?_⟩
      have e2 : ((List.range n.toNat).map fun k : Nat => W.int k) = (List.range n.toNat).map fun k : Nat => W.int (0 + k) := by simp
      rw [e2]
      exact wk_range (by have := hn.2; omega)
    · exact q1.elim
  · rename_i i j
    have := r2.len
    have := r1.1
    simp at this
  · exact q1.elim
theorem pi_rng2 {tg a c : Expr} {e e2 : E} {p pos : Pos} {b : Bool} (hg : Gl X "range") (hm : X.mg "range" = none) (ha : PA X [a, c] (TL cl w fl [2, 2] [e, e2])) (hs : starEach [a, c] X.env = [(false, eval a X.env), (false, eval c X.env)]) (hs2 : starEach [c] X.env = [(false, eval c X.env)]) :
    PI X tg (.Call (.Name "range" p) [a, c] [] pos) (TIt b cl w fl (.range [e, e2])) := by
  refine PI.weak (pi_range2 hg hm ha hs hs2) fun σ H R ⟨C, ρ, M, Fp, mu, s, q⟩ => ?_
  have q : OutI b w fl ρ σ Fp C H mu (evI cl (.range [e, e2]) ρ M) R := q
  unfold evI at q
  refine bindL isOutI s q fun xs vs M1 H1 mu1 p1 r1 q1 => ?_
  have r2 := r1.all (d := 2) (by simp)
  unfold rangeL at q1
  split at q1
  · have := r1.1
    simp at this
  · rename_i i j
    obtain ⟨v, u, e1, h, h'⟩ := args2 r2
    split at q1
    · rename_i hn
      have q1 : ∀ J H' mu', Po w.K fl ρ σ Fp C H1 mu1 C M1 H' mu' → Wk (gk b w.K H' C Fp mu') J ((List.range (j - i).toNat).map fun k : Nat => W.int (i + k)) → R J H' := q1
      exact ⟨i, j, by rw [e1, rep_int h, rep_int h'], ⟨hn.1, hn.2.1, hn.2.2.1, hn.2.2.2.1⟩, q1 _ H1 mu1 (Po.refl p1.sr) (wk_range (by have := hn.2.2.2.2; omega))⟩
    · exact q1.elim
  · exact q1.elim
/-- a value that is walked -/
def iAny (K : PySem.W.Frag) (te : TE) : TI := fun σ H R => te σ H fun x H1 => (∃ a, x = .ref a ∧ (∃ xs, SqL K H1 a xs) ∧ R (Itl K a) H1) ∨ (∃ a, x = .ref a ∧ (∃ xs, SqT K H1 a xs) ∧ R (Itt K a) H1) ∨ ∃ z, x = .str z ∧ R (Its z) H1
theorem pi_any {tg p : Expr} {te : TE} (h : PE X p te) : PI X tg p (iAny X.K te) := by
  refine ⟨fun pins s σ H R I q => ?_⟩
  refine thn (h.run pins s σ H _ I q) fun v s1 ⟨x, H1, I1, r1, q1⟩ => ?_
  rcases q1 with ⟨a, e, ⟨xs, hq⟩, q⟩ | ⟨a, e, ⟨xs, hq⟩, q⟩ | ⟨z, e, q⟩
  · subst e
    cases r1
    obtain ⟨its, rv, pl, hz⟩ := I1.list hq
    exact wpAny_pyIter_list pl.isList (pi_one (tk := s1.toks) I1 _ (turn_list a _) ⟨_, Heap.get?_push_size _ rfl, rfl, rfl⟩ q)
  · subst e
    cases r1
    obtain ⟨its, rv, pl, hz⟩ := I1.tuple hq
    exact wpAny_pyIter_tuple (show s1.heap.IsTuple a its.toArray from pl) (pi_one (tk := s1.toks) I1 _ (turn_tuple a _) ⟨_, Heap.get?_push_size _ rfl, rfl, rfl⟩ q)
  · subst e
    obtain ⟨t, rfl⟩ := r1
    cases ha : z.cps.all (· < 128) with
    | false => exact wpAny_pyIter_wide ha (pi_one (tk := s1.toks) I1 _ (turn_str _ z t "str_iterator" (.inr rfl)) ⟨_, Heap.get?_push_size _ rfl, rfl, rfl⟩ q)
    | true => exact wpAny_pyIter_ascii ha (pi_one (tk := s1.toks) I1 _ (turn_str _ z t "str_ascii_iterator" (.inl rfl)) ⟨_, Heap.get?_push_size _ rfl, rfl, rfl⟩ q)
theorem rep_frz {G : Gh} {ns : List Int} {d : Nat} {v : V} (h : Rep G (.frz ns) d v) : ∃ a, v = .ref a ∧ ns.length ≤ sizeLine ∧ ((∃ o, G.H a = some (.frz o (.lst (ns.map V.int))) ∧ ¬ G.B0 a) ∨ KLst G.K a (ns.map V.int)) := by unfold Rep at h; exact h
theorem seq_stable {G : Gh} {ws : List Mi.W} {v : V} (h : Rep G (.lst ws) 1 v) : ∃ a vs, v = .ref a ∧ (RepL G ws 0 vs ∧ vs.length ≤ sizeLine) ∧ ∀ G', G.To G' → SqL G'.K G'.H a vs := by
  unfold Rep at h
  obtain ⟨a, vs, e, h1, h2, h3, h4⟩ := h
  exact ⟨a, vs, e, ⟨h4, h3⟩, fun G' t => .inl (.inl (t.ok h1 h2).1)⟩
theorem seq_stableT {G : Gh} {ws : List Mi.W} {d : Nat} {v : V} (h : Rep G (.tup ws) d v) : ∃ a vs, v = .ref a ∧ (RepL G ws 0 vs ∧ vs.length ≤ sizeLine) ∧ ∀ G', G.To G' → SqT G'.K G'.H a vs := by
  unfold Rep at h
  obtain ⟨a, vs, e, h1, h2, h3, h4⟩ := h
  exact ⟨a, vs, e, ⟨h4, h3⟩, fun G' t => .inl (.inl (t.h0 _ _ h1 h2).1)⟩
theorem bindK {b : Bool} {β : Type} {out : Hp → List Addr → R β → Prop} {a : E} {g : Mi.W → List Mi.W → R β} {P : V → Hp → Prop} (o : IsOut w fl ρ σ Fp C out) (s : SR w.K C fl ρ M σ H Fp mu) (q : out H mu ((ev cl a ρ M).bind g))
    (k : ∀ x v M' H' mu', Po w.K fl ρ σ Fp C H mu C M' H' mu' → Rep (gk b w.K H' C Fp mu') x 1 v → out H' mu' (g x M') → P v H') : TK b cl w fl a σ H P := by
  refine ⟨C, ρ, M, Fp, mu, s, ?_⟩
  show OutK b w fl ρ σ Fp C H mu (ev cl a ρ M) P
  revert q
  cases ev cl a ρ M with
  | no => exact fun q => o.no _ _ q
  | ex x M' => exact fun q => o.ex _ _ _ _ q
  | ok x M' => exact fun q v H' mu' p r => k x v M' H' mu' p r (o.sh _ _ _ _ _ _ p q)
theorem Gh.To.refl (G : Gh) : G.To G := ⟨rfl, fun _ _ h k => ⟨h, k⟩, fun _ _ h k => ⟨h, k⟩, fun _ _ h => h⟩
theorem pi_v {tg p : Expr} {e : E} {b : Bool} (hk : w.K = X.K) (h : PE X p (TK b cl w fl e)) : PI X tg p (TIt b cl w fl (.v e)) := by
  refine PI.weak (pi_any h) fun σ H R ⟨C, ρ, M, Fp, mu, s, q⟩ => ?_
  have q : OutI b w fl ρ σ Fp C H mu (evI cl (.v e) ρ M) R := q
  unfold evI at q
  refine bindK isOutI s q fun x v M1 H1 mu1 p1 r1 q1 => ?_
  have fin : ∀ ws, items? x = some ws → ∀ J, Wk (gk b w.K H1 C Fp mu1) J ws → R J H1 := fun ws e J k => by
    rw [e] at q1
    exact q1 J H1 mu1 (Po.refl p1.sr) k
  obtain ⟨gk1, gk2⟩ := gk_K (b := b) (K := w.K) (H := H1) (C := C) (Fp := Fp) (mu := mu1)
  rw [← hk]
  cases x with
  | lst ws =>
    obtain ⟨a, vs, e1, h1, h2⟩ := seq_stable r1
    have z := h2 _ (Gh.To.refl _)
    rw [gk1, gk2] at z
    have k := wk_list h2 h1.1 h1.2
    rw [gk1] at k
    exact .inl ⟨a, e1, ⟨vs, z⟩, fin ws rfl _ k⟩
  | tup ws =>
    obtain ⟨a, vs, e1, h1, h2⟩ := seq_stableT r1
    have z := h2 _ (Gh.To.refl _)
    rw [gk1, gk2] at z
    have k := wk_tup h2 h1.1 h1.2
    rw [gk1] at k
    exact .inr (.inl ⟨a, e1, ⟨vs, z⟩, fin ws rfl _ k⟩)
  | str y =>
    obtain ⟨e1, h1, h2⟩ := rep_str r1
    exact .inr (.inr ⟨y, e1, fin _ rfl _ (wk_str h1 h2)⟩)
  | frz ns =>
    obtain ⟨a, e1, h0, h1⟩ := rep_frz r1
    have h2 := SqL.frz h1
    have z := h2 _ (Gh.To.refl _)
    rw [gk1, gk2] at z
    have k := wk_list h2 RepL.of_ints (by rw [List.length_map]; exact h0)
    rw [gk1] at k
    exact .inl ⟨a, e1, ⟨_, z⟩, fin _ rfl _ k⟩
  | _ => exact q1.elim
def iEnA (K : PySem.W.Frag) (te : TE) : TI := fun σ H R => tCons te tNil σ H fun vs H1 => ∃ x, vs = [x] ∧ ((∃ a, x = .ref a ∧ (∃ xs, SqL K H1 a xs) ∧ R (Ite K a) H1) ∨ ∃ a, x = .ref a ∧ (∃ xs, SqT K H1 a xs) ∧ R (IteT K a) H1)
theorem pi_enA {e : Expr} {te : TE} {p pos tpos : Pos} {elts : List Expr} {kk : Nat} (hg : Gl X "enumerate") (hm : X.mg "enumerate" = none) (he : PE X e te) (hs : starEach [e] X.env = [(false, eval e X.env)]) :
    PI X (.Tuple elts kk tpos) (.Call (.Name "enumerate" p) [e] [] pos) (iEnA X.K te) := by
  refine ⟨fun pins s σ H R I h => ?_⟩
  have ha : PA X [e] (tCons te tNil) := pa_cons he pa_nil hs
  refine Call_ (ld_blt I hg hm boot_enumerate (PyProof.Rows.callWith_type1 (thn (ha.run pos pins s σ H _ I h) fun us s1 ⟨vs, H1, I1, r1, q1⟩ => ?_) hs rfl))
  obtain ⟨x, ex, q1⟩ := q1
  subst ex
  cases r1 with
  | cons r rr =>
    cases rr
    have fp : ∀ b ∈ [s1.heap.objs.size + 1, s1.heap.objs.size], FpOk X pins H1 b := fun b hb => by
      have hle : s1.heap.objs.size ≤ b := by
        rcases List.mem_cons.mp hb with z | z
        · omega
        · rw [List.mem_singleton.mp z]; exact Nat.le_refl _
      exact I1.fpOk hle (I1.hok.fresh hle)
    rcases q1 with ⟨a, e1, ⟨xs, hq⟩, q⟩ | ⟨a, e1, ⟨xs, hq⟩, q⟩
    · subst e1
      cases r
      obtain ⟨its, rv, p', hz⟩ := I1.list hq
      refine call_enumerate_list p'.isList fun h' hn hit hsz hk => wpAny_pyIter_enum hn ?_
      exact ⟨s1.heap.objs.size + 1, _, _, _, H1, rfl, I1.kept (t' := s1.toks) hk, turn_enum a (s1.heap.objs.size + 1) s1.heap.objs.size, ⟨⟨.none, hn⟩, hit, Nat.succ_ne_self _⟩, fp, q⟩
    · subst e1
      cases r
      obtain ⟨its, rv, p', hz⟩ := I1.tuple hq
      refine call_enumT (show s1.heap.IsTuple a its.toArray from p') fun h' hn hit hsz hk => wpAny_pyIter_enum hn ?_
      exact ⟨s1.heap.objs.size + 1, _, _, _, H1, rfl, I1.kept (t' := s1.toks) hk, turn_enumT a (s1.heap.objs.size + 1) s1.heap.objs.size, ⟨⟨.none, hn⟩, hit, Nat.succ_ne_self _⟩, fp, q⟩
theorem pi_en {p : Expr} {e : E} {b : Bool} {pp pos tpos : Pos} {elts : List Expr} {kk : Nat} (hk : w.K = X.K) (hg : Gl X "enumerate") (hm : X.mg "enumerate" = none) (h : PE X p (TK b cl w fl e)) (hs : starEach [p] X.env = [(false, eval p X.env)]) :
    PI X (.Tuple elts kk tpos) (.Call (.Name "enumerate" pp) [p] [] pos) (TIt b cl w fl (.enum e)) := by
  refine PI.weak (pi_enA hg hm h hs) fun σ H R ⟨C, ρ, M, Fp, mu, s, q⟩ => ?_
  have q : OutI b w fl ρ σ Fp C H mu (evI cl (.enum e) ρ M) R := q
  unfold evI at q
  show TK b cl w fl e σ H fun x H1 => ∃ y, [x] = [y] ∧ _
  refine bindK isOutI s q fun x v M1 H1 mu1 p1 r1 q1 => ⟨v, rfl, ?_⟩
  have fin : ∀ ws, seq? x = some ws → ∀ J, Wk (gk b w.K H1 C Fp mu1) J (enumL 0 ws) → R J H1 := fun ws e J k => by
    rw [e] at q1
    exact q1 J H1 mu1 (Po.refl p1.sr) k
  obtain ⟨gk1, gk2⟩ := gk_K (b := b) (K := w.K) (H := H1) (C := C) (Fp := Fp) (mu := mu1)
  rw [← hk]
  cases x with
  | lst ws =>
    obtain ⟨a, vs, e1, h1, h2⟩ := seq_stable r1
    have z := h2 _ (Gh.To.refl _)
    rw [gk1, gk2] at z
    have k := wk_enumL h2 h1.1 h1.2
    rw [gk1] at k
    exact .inl ⟨a, e1, ⟨vs, z⟩, fin ws rfl _ k⟩
  | tup ws =>
    obtain ⟨a, vs, e1, h1, h2⟩ := seq_stableT r1
    have z := h2 _ (Gh.To.refl _)
    rw [gk1, gk2] at z
    have k := wk_enumT h2 h1.1 h1.2
    rw [gk1] at k
    exact .inr ⟨a, e1, ⟨vs, z⟩, fin ws rfl _ k⟩
  | _ => exact q1.elim
end
end Mi
end MiB_

section MiC_
set_option linter.all false
set_option Elab.async false
/-! MiC: comprehensions. -/
namespace Mi
open PySem PySem.Spec PyProof.Rows L2

theorem Own.to0 {G G' : Gh} (t : G.To0 G') : ∀ {d : Nat} {w : W} {v : V} {S : List Addr}, Own G d w v S → (∀ a o, a ∈ S → G.H a = some o → G'.H a = some o) → Own G' d w v S
  | 0, w, v, S, h, _ => by
    unfold Own at h ⊢
    exact ⟨h.1, h.2.to0 t⟩
  | d + 1, .lst ws, v, S, h, hs => by
    unfold Own at h ⊢
    obtain ⟨a, vs, Ss, e, h1, h2, h3, h4⟩ := h
    subst h4
    exact ⟨a, vs, Ss, e, hs _ _ List.mem_cons_self h1, h2, h3.imp fun w v s hm q => Own.to0 t q fun a o ha => hs a o (List.mem_cons_of_mem _ (flatten_mem hm ha)), rfl⟩
  | d + 1, .dct ws, v, S, h, hs => by
    unfold Own at h ⊢
    obtain ⟨a, vs, Ss, e, h1, h2, h3, h5, h4⟩ := h
    subst h4
    exact ⟨a, vs, Ss, e, h1.to fun o q => hs _ _ List.mem_cons_self q, h2, h3, h5.imp fun w v s hm q => Own.to0 t q fun a o ha => hs a o (List.mem_cons_of_mem _ (flatten_mem hm ha)), rfl⟩
  | d + 1, .non, v, S, h, _ => by unfold Own at h ⊢; exact ⟨h.1, h.2.to0 t⟩
  | d + 1, .bl _, v, S, h, _ => by unfold Own at h ⊢; exact ⟨h.1, h.2.to0 t⟩
  | d + 1, .int _, v, S, h, _ => by unfold Own at h ⊢; exact ⟨h.1, h.2.to0 t⟩
  | d + 1, .str _, v, S, h, _ => by unfold Own at h ⊢; exact ⟨h.1, h.2.to0 t⟩
  | d + 1, .tup _, v, S, h, _ => by unfold Own at h ⊢; exact ⟨h.1, h.2.to0 t⟩
  | d + 1, .frz _, v, S, h, _ => by unfold Own at h ⊢; exact ⟨h.1, h.2.to0 t⟩
  | d + 1, .loc _, v, S, h, _ => by unfold Own at h ⊢; exact ⟨h.1, h.2.to0 t⟩

section
variable {K : PySem.W.Frag} {C C' : Addr → Prop} {fl fl' : List Fg} {ρ ρ' : Env} {M M' M2 : List W} {σ σ' : L2.St} {H H2 : Hp} {Fp : List (List Addr)} {mu mu2 : List Addr}
theorem mem_flat {i : Nat} {a : Addr} {Fp : List (List Addr)} (h : a ∈ Fp[i]?.getD []) : a ∈ Fp.flatten := by
  cases z : Fp[i]? with
  | none => rw [z] at h; simp at h
  | some l => rw [z] at h; exact List.mem_flatten.mpr ⟨l, List.mem_of_getElem? z, h⟩
/-- a slot's value carried along -/
theorem Sl.to {G G' : Gh} {ov : Option V} {g : Fg} {x : W} {S : List Addr} (h : Sl G ov g x S) (t : G.To G') (hs : ∀ a o, a ∈ S → G.H a = some o → G'.H a = some o) : Sl G' ov g x S := by
  cases g with
  | pl => obtain ⟨v, e, r⟩ := h; exact ⟨v, e, r.to t⟩
  | bo d => obtain ⟨v, e, r⟩ := h; exact ⟨v, e, r.to t⟩
  | ow d => obtain ⟨v, e, r⟩ := h; exact ⟨v, e, r.to t hs⟩
  | lk d => obtain ⟨v, e, r⟩ := h; exact ⟨v, e, r.to t hs⟩
  | dd => trivial
/-- the slots as they were, past a step of others -/
theorem SR.along (s : SR K C fl ρ M σ H Fp mu) (p : Po K fl' ρ' σ' Fp C H mu C M2 H2 mu2) : SR K C fl ρ M2 σ H2 Fp mu2 := by
  refine ⟨s.lr, s.lp, s.lf, p.sr.nd, p.sr.cd, p.sr.ct', p.sr.tr', p.sr.cl, p.sr.ce, fun i g x e1 e2 => ?_⟩
  have t : (gS K H C Fp mu).To (gS K H2 C Fp mu2) := by
    refine ⟨rfl, fun a o h k => p.toT.h0 a o h k, fun a o h k => ⟨p.ext a o h fun z => k (.inl z), fun z => ?_⟩, p.toT.mu⟩
    rcases z with z | z
    · exact k (.inl (p.mur h z))
    · exact k (.inr z)
  exact (s.sl i g x e1 e2).to t fun a o ha h => p.ext a o h fun z => (List.nodup_append.mp s.nd).2.2 a z a (mem_flat ha) rfl
theorem flatten_snoc (Fp : List (List Addr)) (S : List Addr) : (Fp ++ [S]).flatten = Fp.flatten ++ S := by simp
theorem mem_snoc {a D : Addr} {Fp : List (List Addr)} : a ∈ (Fp ++ [[D]]).flatten ↔ a ∈ Fp.flatten ∨ a = D := by rw [flatten_snoc, List.mem_append, List.mem_singleton]
/-- a new node tracked on top -/
theorem SR.push (s : SR K C fl ρ M σ H Fp mu) {D : Addr} {o : HO} (hD : H D = none) (hn : NT o) : SR K C fl ρ M σ (upd H D o) (Fp ++ [[D]]) mu := by
  have ne : ∀ a o', H a = some o' → a ≠ D := fun a o' e z => by rw [z, hD] at e; cases e
  have up : ∀ a o', H a = some o' → upd H D o a = some o' := fun a o' e => by rw [upd_ne (ne a o' e)]; exact e
  have t0 : (gT K H C Fp mu).To0 (gT K (upd H D o) C (Fp ++ [[D]]) mu) := ⟨rfl, fun a o' e k => ⟨up a o' e, fun z => by
    rcases z with z | z | z
    · exact k (.inl z)
    · rcases mem_snoc.mp z with z | z
      · exact k (.inr (.inl z))
      · exact ne a o' e z
    · exact k (.inr (.inr z))⟩, fun _ _ e => e⟩
  have t1 : (gS K H C Fp mu).To (gS K (upd H D o) C (Fp ++ [[D]]) mu) := ⟨rfl, fun a o' e k => t0.h0 a o' e k, fun a o' e k => ⟨up a o' e, fun z => by
    rcases z with z | z
    · exact k (.inl z)
    · rcases mem_snoc.mp z with z | z
      · exact k (.inr z)
      · exact ne a o' e z⟩, fun _ _ e => e⟩
  refine ⟨s.lr, by rw [List.length_append]; exact Nat.le_trans s.lp (Nat.le_add_right _ _), s.lf, ?_, fun a h => ?_, fun a h => ?_, fun a h => ?_, s.cl, fun n x a e1 e2 => (s.ce n x a e1 e2).to0 t0 fun a o' _ h => up a o' h, fun i g x e1 e2 => ?_⟩
  · rw [flatten_snoc, ← List.append_assoc]
    refine List.nodup_append.mpr ⟨s.nd, by simp, fun a ha b hb e => ?_⟩
    obtain ⟨o', h⟩ := s.tr a ha
    exact ne a o' h (e.trans (List.mem_singleton.mp hb))
  · rw [flatten_snoc, ← List.append_assoc, List.mem_append, List.mem_singleton] at h
    rcases h with h | h
    · exact s.cd a h
    · intro c
      obtain ⟨o', h'⟩ := s.ct a c
      exact ne a o' h' h
  · obtain ⟨o', h', n⟩ := s.ct' a h
    exact ⟨o', up a o' h', n⟩
  · rw [flatten_snoc, ← List.append_assoc, List.mem_append, List.mem_singleton] at h
    rcases h with h | h
    · obtain ⟨o', h', n⟩ := s.tr' a h
      exact ⟨o', up a o' h', n⟩
    · exact ⟨o, by rw [h, upd_same], hn⟩
  · have hi : i < Fp.length := by
      have := (List.getElem?_eq_some_iff.mp e2).1
      have := s.lr
      have := s.lp
      omega
    rw [List.getElem?_append_left hi]
    exact (s.sl i g x e1 e2).to t1 fun a o' _ h => up a o' h
/-- and shunned instead -/
theorem SR.pop {D : Addr} (s : SR K C fl ρ M σ H (Fp ++ [[D]]) mu) (hl : σ.length ≤ Fp.length) : SR K (fun a => C a ∨ a ∈ [D]) fl ρ M σ H Fp mu := by
  have eB : ∀ a, allB (fun a => C a ∨ a ∈ [D]) Fp mu a → allB C (Fp ++ [[D]]) mu a := fun a z => by
    rcases z with z | z | z | z
    · exact .inl z
    · exact .inr (.inl (mem_snoc.mpr (.inl z)))
    · exact .inr (.inr z)
    · exact .inr (.inl (mem_snoc.mpr (.inr (List.mem_singleton.mp z))))
  have t : (gT K H C (Fp ++ [[D]]) mu).To (gT K H (fun a => C a ∨ a ∈ [D]) Fp mu) := ⟨rfl, fun a o e k => ⟨e, fun z => k (eB a z)⟩, fun _ _ e k => ⟨e, k⟩, fun _ _ e => e⟩
  have t2 : (gS K H C (Fp ++ [[D]]) mu).To (gS K H (fun a => C a ∨ a ∈ [D]) Fp mu) := ⟨rfl, fun a o e k => ⟨e, fun z => k (eB a z)⟩, fun _ _ e k => ⟨e, fun z => k (z.elim .inl fun z => .inr (mem_snoc.mpr (.inl z)))⟩, fun _ _ e => e⟩
  have nd := s.nd
  rw [flatten_snoc, ← List.append_assoc] at nd
  have ap := List.nodup_append.mp nd
  refine ⟨s.lr, hl, s.lf, ap.1, fun a h => ?_, fun a h => ?_, fun a h => s.tr' a ?_, s.cl, fun n x a e1 e2 => (s.ce n x a e1 e2).to t fun _ _ _ h => h, fun i g x e1 e2 => ?_⟩
  · rintro (z | z)
    · exact s.cd a (by rw [flatten_snoc, ← List.append_assoc, List.mem_append]; exact .inl h) z
    · exact ap.2.2 a h a z rfl
  · rcases h with h | h
    · exact s.ct' a h
    · exact s.tr' a (by rw [flatten_snoc, ← List.append_assoc, List.mem_append]; exact .inr h)
  · rw [flatten_snoc, ← List.append_assoc, List.mem_append]; exact .inl h
  · have q := s.sl i g x e1 e2
    have hi : i < Fp.length := by
      have := (List.getElem?_eq_some_iff.mp e2).1
      have := s.lr
      omega
    rw [List.getElem?_append_left hi] at q
    exact q.to t2 fun _ _ _ h => h
/-- the node on top changed -/
theorem SR.top {D : Addr} {o : HO} (s : SR K C fl ρ M σ H (Fp ++ [[D]]) mu) (hl : σ.length ≤ Fp.length) (hn : NT o) : SR K C fl ρ M σ (upd H D o) (Fp ++ [[D]]) mu := by
  have iD : D ∈ (Fp ++ [[D]]).flatten := mem_snoc.mpr (.inr rfl)
  have nd := s.nd
  have up : ∀ a o', a ≠ D → H a = some o' → upd H D o a = some o' := fun a o' n e => by rw [upd_ne n]; exact e
  have t0 : (gT K H C (Fp ++ [[D]]) mu).To0 (gT K (upd H D o) C (Fp ++ [[D]]) mu) := ⟨rfl, fun a o' e k => ⟨up a o' (fun z => k (.inr (.inl (z ▸ iD)))) e, k⟩, fun _ _ e => e⟩
  have t1 : (gS K H C (Fp ++ [[D]]) mu).To (gS K (upd H D o) C (Fp ++ [[D]]) mu) := ⟨rfl, fun a o' e k => t0.h0 a o' e k, fun a o' e k => ⟨up a o' (fun z => k (.inr (z ▸ iD))) e, k⟩, fun _ _ e => e⟩
  have all : ∀ a, (∃ o', H a = some o' ∧ NT o') → ∃ o', upd H D o a = some o' ∧ NT o' := fun a ⟨o', e, n⟩ => by
    by_cases z : a = D
    · exact ⟨o, by rw [z, upd_same], hn⟩
    · exact ⟨o', up a o' z e, n⟩
  have nd2 := nd
  rw [flatten_snoc, ← List.append_assoc] at nd2
  have ap := (List.nodup_append.mp nd2).2.2
  refine ⟨s.lr, s.lp, s.lf, nd, s.cd, fun a h => all a (s.ct' a h), fun a h => all a (s.tr' a h), s.cl, fun n x a e1 e2 => (s.ce n x a e1 e2).to0 t0 fun b o' hb h => up b o' ?_ h, fun i g x e1 e2 => (s.sl i g x e1 e2).to t1 fun a o' ha h => up a o' ?_ h⟩
  · rw [List.mem_singleton.mp hb]
    exact fun z => ap a (List.mem_append_left _ (List.mem_of_getElem? e2)) D (by simp) z
  · have hi : i < Fp.length := by
      have := (List.getElem?_eq_some_iff.mp e2).1
      have := s.lr
      omega
    rw [List.getElem?_append_left hi] at ha
    exact fun z => ap a (List.mem_append_right _ (mem_flat ha)) D (by simp) z
end
def plE (fl : List Fg) : List Nat → List Fg
  | [] => fl
  | v :: vs => (plE fl vs).set v .pl
theorem plE_len (fl : List Fg) : ∀ vs, (plE fl vs).length = fl.length
  | [] => rfl
  | v :: vs => by unfold plE; rw [List.length_set, plE_len fl vs]
theorem plE_out {fl : List Fg} {i : Nat} : ∀ {vs : List Nat}, i ∉ vs → (plE fl vs)[i]? = fl[i]?
  | [], _ => rfl
  | v :: vs, h => by
    rw [List.mem_cons, not_or] at h
    unfold plE
    rw [List.getElem?_set_ne (fun e => h.1 e.symm)]
    exact plE_out h.2
theorem wipeE_some {ρ : Env} {i : Nat} {x : W} : ∀ {vs : List Nat}, (wipeE ρ vs)[i]? = some (some x) → i ∉ vs
  | [], h => by simp
  | v :: vs, h => by
    unfold wipeE at h
    by_cases hi : v = i
    · subst hi
      by_cases hv : v < (wipeE ρ vs).length
      · rw [List.getElem?_set_self hv] at h; cases h
      · rw [List.getElem?_eq_none (by simpa using hv)] at h; cases h
    · rw [List.getElem?_set_ne hi] at h
      rw [List.mem_cons, not_or]
      exact ⟨fun e => hi e.symm, wipeE_some h⟩
theorem SR.comp {K : PySem.W.Frag} {C : Addr → Prop} {fl : List Fg} {ρ : Env} {M : List W} {σ : L2.St} {H : Hp} {Fp : List (List Addr)} {mu : List Addr} (s : SR K C fl ρ M σ H Fp mu) (vs : List Nat) : SR K C (plE fl vs) (wipeE ρ vs) M (L2.wipe σ vs) H Fp mu :=
  (s.wipe vs).flags (plE_len _ _) fun i g x h1 h2 => .inr (by rw [plE_out (wipeE_some h2)] at h1; exact h1)
end Mi
end MiC_

section MiD_
set_option linter.all false
set_option Elab.async false
/-! MiD: list comprehensions. -/
namespace Mi
open PySem PySem.Spec PyProof.Rows L2

/-- a comprehension's turn -/
def turnL (cl : Nat → List W → List W → R W) (elt : E) (t : Tg) (cond : T) (own : List Nat) (ρ : Env) (w : W) (M : List W) : R (Option W) :=
  R.calm (match bindT t w (wipeE ρ own) with
    | none => .no
    | some ρ' => (evT cl cond ρ' M).bind fun b M => if b then (ev cl elt ρ' M).bind fun x M => .ok (some x) M else .ok none M)
theorem ev_lc (cl : Nat → List W → List W → R W) (elt : E) (t : Tg) (it : I) (cond : T) (own : List Nat) (ρ : Env) (M : List W) :
    ev cl (.lc elt t it cond own) ρ M = (evI cl it ρ M).bind fun ws M => (compL (turnL cl elt t cond own ρ) ws M).bind fun r M => .ok (.lst r) M := rfl
theorem calm_ok {α : Type} {r : R α} {a : α} {M : List W} (h : R.calm r = .ok a M) : r = .ok a M := by
  cases r with
  | ok b N => exact h
  | _ => cases h
theorem bind_ok {α β : Type} {r : R α} {f : α → List W → R β} {b : β} {M : List W} (h : r.bind f = .ok b M) : ∃ a N, r = .ok a N ∧ f a N = .ok b M := by
  cases r with
  | ok a N => exact ⟨a, N, rfl, h⟩
  | _ => cases h
theorem compL_ex {f : W → List W → R (Option W)} (hf : ∀ w M, ∀ x N, f w M ≠ .ex x N) : ∀ ws M x N, compL f ws M ≠ .ex x N
  | [], M, x, N, h => by cases h
  | w :: ws, M, x, N, h => by
    unfold compL at h
    cases e : f w M with
    | no => rw [e] at h; cases h
    | ex y N' => exact hf _ _ _ _ e
    | ok o M1 =>
      rw [e] at h
      have h : (compL f ws M1).bind (fun r M => R.ok (o.toList ++ r) M) = .ex x N := h
      cases e2 : compL f ws M1 with
      | no => rw [e2] at h; cases h
      | ok r M2 => rw [e2] at h; cases h
      | ex y N' => exact compL_ex hf ws M1 _ _ e2
theorem turnL_ex {cl : Nat → List W → List W → R W} {elt : E} {t : Tg} {cond : T} {own : List Nat} {ρ : Env} (w : W) (M : List W) : ∀ x N, turnL cl elt t cond own ρ w M ≠ .ex x N := fun x N h => by
  unfold turnL at h
  generalize (match bindT t w (wipeE ρ own) with
    | none => (.no : R (Option W))
    | some ρ' => (evT cl cond ρ' M).bind fun b M => if b then (ev cl elt ρ' M).bind fun x M => .ok (some x) M else .ok none M) = r at h
  cases r <;> cases h

section
variable {X : Cx} {cl : Nat → List W → List W → R W} {w : Wish} {fl : List Fg} {C : Addr → Prop} {ρ : Env} {M : List Mi.W} {σ : L2.St} {H : Hp} {Fp : List (List Addr)} {mu : List Addr} {Q : VK}
theorem bindI {b : Bool} {β : Type} {out : Hp → List Addr → R β → Prop} {it : I} {g : List Mi.W → List Mi.W → R β} {P : It → Hp → Prop} (o : IsOut w fl ρ σ Fp C out) (s : SR w.K C fl ρ M σ H Fp mu) (q : out H mu ((evI cl it ρ M).bind g))
    (k : ∀ ws J M' H' mu', Po w.K fl ρ σ Fp C H mu C M' H' mu' → Wk (gk b w.K H' C Fp mu') J ws → out H' mu' (g ws M') → P J H') : TIt b cl w fl it σ H P := by
  refine ⟨C, ρ, M, Fp, mu, s, ?_⟩
  show OutI b w fl ρ σ Fp C H mu (evI cl it ρ M) P
  revert q
  cases evI cl it ρ M with
  | no => exact fun q => o.no _ _ q
  | ex x M' => exact fun q => o.ex _ _ _ _ q
  | ok x M' => exact fun q J H' mu' p r => k x J M' H' mu' p r (o.sh _ _ _ _ _ _ p q)
def Wish.quiet (w : Wish) : Wish := ⟨w.K, w.cm, fun _ _ _ _ => False⟩

/-- an item that has come -/
theorem item_sr {K : PySem.W.Frag} {i : Nat} {x : V} {H2 : Hp} {ws : List Mi.W} {fl : List Fg} {ρ : Env} {M : List Mi.W} {σ : L2.St} {H : Hp} {Fp : List (List Addr)} {mu : List Addr} (s : SR K C fl ρ M σ H Fp mu) {b : Bool} (h : Item (gk b K H C Fp mu) ws i x H2) :
    ∃ y, ws[i]? = some y ∧ SR K C fl ρ M σ H2 Fp mu ∧ Rep (gT K H2 C Fp mu) y 0 x ∧ ∀ a o, H a = some o → H2 a = some o := by
  obtain ⟨gk1, gk2⟩ := gk_K (b := b) (K := K) (H := H) (C := C) (Fp := Fp) (mu := mu)
  have t0 : (gk b K H C Fp mu).To0 (gT K H C Fp mu) := by cases b <;> exact ⟨rfl, fun _ _ e k => ⟨e, k⟩, fun _ _ e => e⟩
  obtain ⟨y, ey, h⟩ := h
  refine ⟨y, ey, ?_⟩
  rcases h with ⟨e, r⟩ | ⟨T, u, z, wu, wz, e1, e2, e3, e4, r1, r2⟩
  · rw [gk2] at e
    subst e
    exact ⟨s, r.to0 t0, fun _ _ h => h⟩
  · rw [gk2] at e2 e3
    subst e1 e3 e4
    have p := Po.laid (o := .tup [u, z]) s e2
    refine ⟨p.sr, ?_, fun a o e => by rw [upd_ne (fun z => by rw [z, e2] at e; cases e)]; exact e⟩
    have k1 := (r1.to0 t0).to p.toT
    have k2 := (r2.to0 t0).to p.toT
    unfold Rep
    refine ⟨T, [u, z], rfl, upd_same, fun c => ?_, by rw [sizeLine_eq]; show 2 ≤ _; decide, .cons k1 (.cons k2 .nil)⟩
    have fr : ∀ a o, H a = some o → a ≠ T := fun a o e z => by rw [z, e2] at e; cases e
    rcases c with c | c | c
    · obtain ⟨o, e⟩ := s.tr T (List.mem_append_left _ c); exact fr _ _ e rfl
    · obtain ⟨o, e⟩ := s.tr T (List.mem_append_right _ c); exact fr _ _ e rfl
    · obtain ⟨o, e⟩ := s.ct T c; exact fr _ _ e rfl

/-- the turns of a comprehension -/
structure Turns (K : PySem.W.Frag) (fl : List Fg) (ρ : Env) (σ : L2.St) (Fp : List (List Addr)) (C : Addr → Prop) (H1 : Hp) (mu1 : List Addr) (f : Mi.W → List Mi.W → R (Option Mi.W)) (ws r : List Mi.W) (Me : List Mi.W) (D : Addr) (i : Nat) (H : Hp) (Mx : List Mi.W) (mui : List Addr) (vs : List V) (done : List Mi.W) : Prop where
  sr : SR K C fl ρ Mx σ H (Fp ++ [[D]]) mui
  ext : ∀ a o, H1 a = some o → a ∉ mu1 → H a = some o
  pre : ∃ more, mui = mu1 ++ more ∧ ∀ a ∈ more, H1 a = none
  at_ : H D = some (.lst vs)
  rep : RepL (gT K H C (Fp ++ [[D]]) mui) done 0 vs
  len : vs.length ≤ i
  eq : (compL f (ws.drop i) Mx).bind (fun r M => R.ok (done ++ r) M) = .ok r Me
theorem D_notmu {K : PySem.W.Frag} {D : Addr} {fl : List Fg} {ρ : Env} {M : List Mi.W} {σ : L2.St} {H : Hp} {Fp : List (List Addr)} {mu : List Addr} (s : SR K C fl ρ M σ H (Fp ++ [[D]]) mu) : D ∉ mu := fun z =>
  (List.nodup_append.mp s.nd).2.2 D z D (mem_snoc.mpr (.inr rfl)) rfl
theorem top_to0 {K : PySem.W.Frag} {D : Addr} {o : HO} {H : Hp} {Fp : List (List Addr)} {mu : List Addr} : (gT K H C (Fp ++ [[D]]) mu).To0 (gT K (upd H D o) C (Fp ++ [[D]]) mu) :=
  ⟨rfl, fun a o' e k => ⟨by show upd H D o a = _; rw [upd_ne (fun z => k (.inr (.inl (mem_snoc.mpr (.inr z)))))]; exact e, k⟩, fun _ _ e => e⟩
/-- the turns behind the iterable -/
theorem tlc_core {t : Tg} {cond : T} {elt : E} {own : List Nat} {ws : List Mi.W} {J : It} {M1 : List Mi.W} {H1 : Hp} {mu1 : List Addr} (hv : ∀ i ∈ t.vars, i ∈ own) (s1 : SR w.K C fl ρ M1 σ H1 Fp mu1) (wk : Wk (gk false w.K H1 C Fp mu1) J ws)
    (q1 : OutV w fl (.f 1) ρ σ Fp C H1 mu1 ((compL (turnL cl elt t cond own ρ) ws M1).bind fun r M => .ok (.lst r) M) Q) (D : Addr) (hD : H1 D = none) :
    ∃ W : Nat → Nat → Hp → Prop, (∃ m, W 0 m (upd H1 D (.lst []))) ∧ ∀ i m H, W i m H →
      (J.stop i H ∧ Q (.ref D) H) ∨ (J.go i H ∧ ∃ Nx : Hp → Prop, (∀ H', Nx H' → ∃ m', m' < m ∧ W (i + 1) m' H') ∧ ∀ x H', J.yld i H x H' → TGt w.quiet (plE fl own) t x (L2.wipe σ own) H' fun σ2 H2 => L2.wipe σ2 own = L2.wipe σ own ∧ TB cl w.quiet (plE fl own) cond σ2 H2 fun b H3 =>
        if b = true then TR cl w.quiet (plE fl own) 0 elt σ2 H3 fun y H4 => ∃ acc, H4 D = some (.lst acc) ∧ acc.length < sizeLine ∧ Nx (upd H4 D (.lst (acc ++ [y]))) else Nx H3) := by
  obtain ⟨hz, Gd, Y, wlk, gd, items⟩ := wk
  cases hr : compL (turnL cl elt t cond own ρ) ws M1 with
  | no => rw [hr] at q1; exact q1.elim
  | ex x N => exact absurd hr (compL_ex turnL_ex _ _ _ _)
  | ok r Me =>
    rw [hr] at q1
    -- the ghost at each turn
    have toG : ∀ {i H Mx mui vs done}, Turns w.K fl ρ σ Fp C H1 mu1 (turnL cl elt t cond own ρ) ws r Me D i H Mx mui vs done → (gT w.K H1 C Fp mu1).To (gT w.K H C (Fp ++ [[D]]) mui) := fun {i H Mx mui vs done} T => by
      have mr : ∀ a o, H1 a = some o → a ∈ mui → a ∈ mu1 := fun a o e z => by
        obtain ⟨more, em, fr⟩ := T.pre
        rw [em] at z
        rcases List.mem_append.mp z with z | z
        · exact z
        · rw [fr a z] at e; cases e
      refine ⟨rfl, fun a o e k => ⟨T.ext a o e fun z => k (.inl z), fun z => ?_⟩, fun a o e k => ⟨T.ext a o e k, fun z => k (mr a o e z)⟩, fun n a e => ?_⟩
      · rcases z with z | z | z
        · exact k (.inl (mr a o e z))
        · rcases mem_snoc.mp z with z | z
          · exact k (.inr (.inl z))
          · have e : H1 a = some o := e
            rw [z, hD] at e; cases e
        · exact k (.inr (.inr z))
      · obtain ⟨more, em, _⟩ := T.pre
        have e : mu1[n]? = some a := e
        show mui[n]? = some a
        rw [em, List.getElem?_append_left (List.getElem?_eq_some_iff.mp e).1]; exact e
    refine lc_it wlk (fun i H => ∃ Mx mui vs done, Turns w.K fl ρ σ Fp C H1 mu1 (turnL cl elt t cond own ρ) ws r Me D i H Mx mui vs done) ?_ ?_ ?_ ?_
    · refine ⟨M1, mu1, [], [], s1.push hD True.intro, fun a o e _ => by rw [upd_ne (fun z => by rw [z, hD] at e; cases e)]; exact e, ⟨[], by simp, fun _ h => nomatch h⟩, upd_same, .nil, Nat.le_refl _, ?_⟩
      rw [List.drop_zero, hr]; rfl
    · rintro i H hi ⟨Mx, mui, vs, done, T⟩
      exact gd _ (toG T)
    · rintro i x H H' hi ⟨Mx, mui, vs, done, T⟩ y
      obtain ⟨u, eu, s2, ru, ex⟩ := item_sr (b := false) T.sr (items _ i x H' (toG T) (fun b vs e => T.sr.tups e) hi y)
      have ed : ws.drop i = u :: ws.drop (i + 1) := by
        rw [List.drop_eq_getElem_cons hi]
        rw [List.getElem?_eq_getElem hi] at eu
        cases eu; rfl
      have eq := T.eq
      rw [ed] at eq
      unfold compL at eq
      rw [R.bind_assoc] at eq
      obtain ⟨o, M2, e1, eq⟩ := bind_ok eq
      rw [R.bind_assoc] at eq
      have e1 := calm_ok e1
      cases hb : bindT t u (wipeE ρ own) with
      | none => rw [hb] at e1; cases e1
      | some ρ' =>
        rw [hb] at e1
        obtain ⟨b, M3, e2, e3⟩ := bind_ok e1
        refine ⟨C, wipeE ρ own, ρ', Mx, Fp ++ [[D]], mui, u, s2.comp own, ru, hb, fun σ2 s3 o1 o2 => ⟨(wipe_only o1 hv).trans (wipe_only (vs := own) ⟨L2.wipe_length σ own, fun i hi => L2.wipe_out hi⟩ fun _ h => h), C, ρ', Mx, Fp ++ [[D]], mui, s3, ?_⟩⟩
        show OutB _ _ _ _ _ _ _ _ (evT cl cond ρ' Mx) _
        rw [e2]
        intro H3 mu3 p3
        -- what a turn's end must know
        have sD : H' D = some (.lst vs) := ex _ _ T.at_
        have ext : ∀ {H4 M4 mu4}, Po w.K (plE fl own) ρ' σ2 (Fp ++ [[D]]) C H' mui C M4 H4 mu4 → (∀ a o, H1 a = some o → a ∉ mu1 → H4 a = some o) ∧ ∃ more, mu4 = mu1 ++ more ∧ ∀ a ∈ more, H1 a = none := fun {H4 M4 mu4} p => by
          obtain ⟨more, em, fr⟩ := T.pre
          have mr : ∀ a o, H1 a = some o → a ∈ mui → a ∈ mu1 := fun a o e z => by
            rw [em] at z
            rcases List.mem_append.mp z with z | z
            · exact z
            · rw [fr a z] at e; cases e
          refine ⟨fun a o e k => p.ext a o (ex a o (T.ext a o e k)) fun z => k (mr a o e z), ?_⟩
          obtain ⟨more2, em2, fr2⟩ := p.pre
          refine ⟨more ++ more2, by rw [em2, em, List.append_assoc], fun a ha => ?_⟩
          rcases List.mem_append.mp ha with ha | ha
          · exact fr a ha
          · cases e : H1 a with
            | none => rfl
            | some o' =>
              by_cases k : a ∈ mu1
              · obtain ⟨o2, e2⟩ := s2.tr a (List.mem_append_left _ (by rw [em]; exact List.mem_append_left _ k))
                rw [fr2 a ha] at e2; cases e2
              · have := ex a o' (T.ext a o' e k)
                rw [fr2 a ha] at this; cases this
        have rep2 : RepL (gT w.K H' C (Fp ++ [[D]]) mui) done 0 vs := by
          exact RepL.to (G := gT w.K H C (Fp ++ [[D]]) mui) (G' := gT w.K H' C (Fp ++ [[D]]) mui) ⟨rfl, fun a o e k => ⟨ex a o e, k⟩, fun a o e k => ⟨ex a o e, k⟩, fun _ _ e => e⟩ T.rep
        cases b with
        | false =>
          refine iteF ⟨M3, mu3, vs, done, s2.along p3, (ext p3).1, (ext p3).2, p3.ext _ _ sD (D_notmu T.sr), rep2.to p3.toT, Nat.le_succ_of_le T.len, ?_⟩
          have e3 : (R.ok none M3 : R (Option Mi.W)) = .ok o M2 := e3
          cases e3
          exact eq
        | true =>
          have e3 : (ev cl elt ρ' M3).bind (fun x M => (R.ok (some x) M : R (Option Mi.W))) = .ok o M2 := e3
          obtain ⟨z, M4, e4, e5⟩ := bind_ok e3
          cases e5
          refine iteT ⟨C, ρ', M3, Fp ++ [[D]], mu3, p3.sr, ?_⟩
          show OutR _ _ _ _ _ _ _ _ _ (ev cl elt ρ' M3) _
          rw [e4]
          intro v H4 mu4 p4 rv
          have p := p3.trans p4
          have aD : H4 D = some (.lst vs) := p.ext _ _ sD (D_notmu T.sr)
          have hl : σ.length ≤ Fp.length := s1.lp
          refine ⟨vs, aD, by have := T.len; omega, M2, mu4, vs ++ [v], done ++ [z], (s2.along p).top hl True.intro, fun a o e k => ?_, (ext p).2, upd_same, ?_, by rw [List.length_append, List.length_singleton]; have := T.len; omega, ?_⟩
          · rw [upd_ne (fun z => by rw [z, hD] at e; cases e)]
            exact (ext p).1 a o e k
          · exact RepL.to0 top_to0 ((rep2.to p.toT).append (.cons rv .nil))
          · rw [← eq]
            congr 1
            funext r' M'
            show R.ok (done ++ [z] ++ r') M' = R.ok (done ++ ([z] ++ r')) M'
            rw [List.append_assoc]
    · rintro H ⟨Mx, mui, vs, done, T⟩
      have eq := T.eq
      rw [List.drop_length] at eq
      have eq : R.ok (done ++ []) Mx = R.ok r Me := eq
      rw [List.append_nil] at eq
      injection eq with e1 e2
      subst e1 e2
      have hl : σ.length ≤ Fp.length := s1.lp
      have sp := T.sr.pop hl
      refine q1 (.ref D) H mui [D] ⟨T.ext, T.pre, fun a z => z.elim .inl fun z => .inr (List.mem_singleton.mp z ▸ hD), fun a z => .inl z, sp⟩ (by simp) (fun a h => by rw [List.mem_singleton.mp h]; exact hD) ?_
      show Own _ 1 _ _ _
      unfold Own
      refine ⟨D, vs, done.map fun _ => [], rfl, T.at_, by have := T.len; omega, ?_, by simp⟩
      have r' : RepL (gT w.K H (fun a => C a ∨ a ∈ [D]) Fp mui) done 0 vs := by
        refine RepL.to0 (G := gT w.K H C (Fp ++ [[D]]) mui) (G' := gT w.K H (fun a => C a ∨ a ∈ [D]) Fp mui) ⟨rfl, fun a o e k => ⟨e, fun z => k ?_⟩, fun _ _ e => e⟩ T.rep
        rcases z with z | z | z | z
        · exact .inl z
        · exact .inr (.inl (mem_snoc.mpr (.inl z)))
        · exact .inr (.inr z)
        · exact .inr (.inl (mem_snoc.mpr (.inr (List.mem_singleton.mp z))))
      clear T sp q1 hr toG eq
      generalize (gT w.K H (fun a => C a ∨ a ∈ [D]) Fp mui) = G at r'
      induction done generalizing vs with
      | nil => unfold RepL at r'; subst r'; exact .nil
      | cons u us ih =>
        unfold RepL at r'
        obtain ⟨v, vr, e, h1, h2⟩ := r'
        subst e
        exact .cons (by unfold Own; exact ⟨rfl, h1⟩) (ih vr h2)
/-- [elt for t in it if cond] -/
theorem tlc_ok {it : I} {t : Tg} {cond : T} {elt : E} {own : List Nat} (hv : ∀ i ∈ t.vars, i ∈ own) (s : SR w.K C fl ρ M σ H Fp mu) (q : OutV w fl (.f 1) ρ σ Fp C H mu (ev cl (.lc elt t it cond own) ρ M) Q) :
    tLc (TIt false cl w fl it) (TGt w.quiet (plE fl own) t) (TB cl w.quiet (plE fl own) cond) (TR cl w.quiet (plE fl own) 0 elt) own σ H Q := by
  rw [ev_lc] at q
  exact bindI isOutV s q fun ws J M1 H1 mu1 p1 wk q1 D hD => tlc_core hv p1.sr wk q1 D hD
end
end Mi
end MiD_

section MiE_
set_option linter.all false
set_option Elab.async false
/-! MiE: displays of dicts; shared cells. -/
namespace Mi
open PySem PySem.Spec PyProof.Rows L2

theorem putK_map {κ : Type} [DecidableEq κ] {f : κ → Ky} (hf : ∀ a b, f a = f b → a = b) (kvs : List (κ × V)) (k : κ) (v : V) : (L2.putK kvs k v).map (fun p => (f p.1, p.2)) = putK (kvs.map fun p => (f p.1, p.2)) (f k) v := by
  unfold L2.putK putK
  have e : ((kvs.map fun p => (f p.1, p.2)).any fun p => decide (p.1 = f k)) = kvs.any fun kv => decide (kv.1 = k) := by
    rw [List.any_map]
    congr 1
    funext p
    show decide (f p.1 = f k) = decide (p.1 = k)
    by_cases z : p.1 = k
    · simp [z]
    · have : ¬ f p.1 = f k := fun q => z (hf _ _ q)
      simp [z, this]
  rw [e]
  split
  · rw [List.map_map, List.map_map]
    refine List.map_congr_left fun p _ => ?_
    show (fun p : κ × V => (f p.1, p.2)) (if p.1 = k then (p.1, v) else p) = if f p.1 = f k then (f p.1, v) else (f p.1, p.2)
    by_cases z : p.1 = k
    · rw [if_pos z, if_pos (congrArg f z)]
    · rw [if_neg z, if_neg fun q => z (hf _ _ q)]
  · rw [List.map_append]; rfl
theorem RepD.nil {G : Gh} {d : Nat} : RepD G [] d [] := by unfold RepD; rfl
theorem RepD.cons {G : Gh} {p : Ky × W} {ws : List (Ky × W)} {d : Nat} {v : Ky × V} {vs : List (Ky × V)} (h : RepP G p d v) (t : RepD G ws d vs) : RepD G (p :: ws) d (v :: vs) := by
  unfold RepD; exact ⟨v, vs, rfl, h, t⟩
theorem RepD.append {G : Gh} : ∀ {ws ws' : List (Ky × W)} {d : Nat} {vs vs' : List (Ky × V)}, RepD G ws d vs → RepD G ws' d vs' → RepD G (ws ++ ws') d (vs ++ vs')
  | [], _, _, _, _, h, h' => by unfold RepD at h; rw [h]; exact h'
  | w :: ws, ws', d, vs, vs', h, h' => by
    unfold RepD at h
    obtain ⟨v, r, e, h1, h2⟩ := h
    rw [e]
    exact .cons h1 (h2.append h')
theorem RepD.any {G : Gh} {d : Nat} {k : Ky} : ∀ {ws : List (Ky × W)} {vs : List (Ky × V)}, RepD G ws d vs → (vs.any fun p => decide (p.1 = k)) = ws.any fun p => decide (p.1 = k)
  | [], _, h => by unfold RepD at h; rw [h]; rfl
  | (q, w) :: ws, vs, h => by
    unfold RepD at h
    obtain ⟨v, r, e, h1, h2⟩ := h
    unfold RepP at h1
    rw [e, List.any_cons, List.any_cons, h2.any, h1.1]
theorem RepD.upd {G : Gh} {d : Nat} {k : Ky} {w : W} {v : V} (hw : Rep G w d v) : ∀ {ws : List (Ky × W)} {vs : List (Ky × V)}, RepD G ws d vs → RepD G (ws.map fun p => if p.1 = k then (p.1, w) else p) d (vs.map fun p => if p.1 = k then (p.1, v) else p)
  | [], _, h => by unfold RepD at h; rw [h]; exact .nil
  | (q, u) :: ws, vs, h => by
    unfold RepD at h
    obtain ⟨⟨q', v'⟩, r, e, h1, h2⟩ := h
    unfold RepP at h1
    obtain ⟨e1, h1⟩ := h1
    have e1 : q' = q := e1
    subst e e1
    rw [List.map_cons, List.map_cons]
    refine .cons ?_ (h2.upd hw)
    show RepP G (if q' = k then (q', w) else (q', u)) d (if q' = k then (q', v) else (q', v'))
    by_cases z : q' = k
    · rw [if_pos z, if_pos z]; unfold RepP; exact ⟨rfl, hw⟩
    · rw [if_neg z, if_neg z]; unfold RepP; exact ⟨rfl, h1⟩
theorem RepD.put {G : Gh} {d : Nat} {k : Ky} {w : W} {v : V} {ws : List (Ky × W)} {vs : List (Ky × V)} (h : RepD G ws d vs) (hw : Rep G w d v) : RepD G (putK ws k w) d (putK vs k v) := by
  unfold putK
  rw [h.any]
  split
  · exact h.upd hw
  · exact h.append (.cons (by unfold RepP; exact ⟨rfl, hw⟩) .nil)
theorem ofK_kV {w : W} {k : L2.Key} {G : Gh} {d : Nat} {v : V} (h : Rep G w d v) (e : w.atom? = some k) : v = kV k := by
  cases w with
  | int i => simp [W.atom?] at e; subst e; rw [rep_int h]; rfl
  | str x => simp [W.atom?] at e; subst e; rw [(rep_str h).1]; rfl
  | _ => simp [W.atom?] at e

section
variable {X : Cx} {cl : Nat → List W → List W → R W} {w : Wish} {fl : List Fg} {C : Addr → Prop} {ρ : Env} {M : List Mi.W} {σ : L2.St} {H : Hp} {Fp : List (List Addr)} {mu : List Addr} {Q : VK} {lv : Lv}
/-- the readings of a display's pairs -/
def prs (cl : Nat → List Mi.W → List Mi.W → R Mi.W) (w : Wish) (fl : List Fg) : List E → List (TE × TE)
  | k :: v :: r => (TR cl w fl 2 k, TR cl w fl 0 v) :: prs cl w fl r
  | _ => []
def PRep (G : Gh) : List Mi.W → List (V × V) → Prop
  | k :: v :: r, ps => ∃ x y q, ps = (x, y) :: q ∧ Rep G k 2 x ∧ Rep G v 0 y ∧ PRep G r q
  | [], ps => ps = []
  | _, _ => False
theorem pairs_ok {β : Type} {out : Hp → List Addr → R β → Prop} (o : IsOut w fl ρ σ Fp C out) : ∀ (es : List E), es.length % 2 = 0 → ∀ {g : List Mi.W → List Mi.W → R β} {M : List Mi.W} {H : Hp} {mu : List Addr} {P : List (V × V) → Hp → Prop}, SR w.K C fl ρ M σ H Fp mu →
    out H mu ((evs cl es ρ M).bind g) → (∀ ws ps M' H' mu', Po w.K fl ρ σ Fp C H mu C M' H' mu' → PRep (gT w.K H' C Fp mu') ws ps → ws.length = es.length → out H' mu' (g ws M') → P ps H') → tPairs (prs cl w fl es) σ H P
  | [], _, g, M, H, mu, P, s, q, k => k [] [] M H mu (Po.refl s) rfl rfl q
  | [_], h, _, _, _, _, _, _, _, _ => by simp at h
  | a :: b :: r, h, g, M, H, mu, P, s, q, k => by
    unfold evs at q
    rw [R.bind_assoc] at q
    refine bindR o s q fun x v M1 H1 mu1 p1 r1 q1 => ?_
    unfold evs at q1
    simp only [R.bind_assoc] at q1
    refine bindR o p1.sr q1 fun y u M2 H2 mu2 p2 r2 q2 => ?_
    simp only [R.bind_assoc, R.bind_ok] at q2
    refine pairs_ok o r (by simp only [List.length_cons] at h; omega) p2.sr q2 fun ws ps M3 H3 mu3 p3 r3 l3 q3 => ?_
    exact k (x :: y :: ws) ((v, u) :: ps) M3 H3 mu3 ((p1.trans p2).trans p3) ⟨v, u, ps, rfl, (r1.to p2.toT).to p3.toT, r2.to p3.toT, r3⟩ (by simp only [List.length_cons, l3]) q3
theorem dctOf_rep {G : Gh} : ∀ (n : Nat) {ws : List Mi.W} {ps : List (V × V)} {acc out : List (Ky × Mi.W)} {accV : List (L2.Key × V)}, ws.length ≤ n → PRep G ws ps → dctOf acc ws = some out → RepD G acc 0 (accV.map fun p => (ofK p.1, p.2)) →
    ∃ kvs : List (L2.Key × V), ps = kvs.map (fun kv => (kV kv.1, kv.2)) ∧ 2 * kvs.length = ws.length ∧ RepD G out 0 ((mergeK accV kvs).map fun p => (ofK p.1, p.2))
  | _, [], ps, acc, out, accV, _, h, e, r => by
    unfold dctOf at e
    cases e
    have h : ps = [] := h
    subst h
    exact ⟨[], rfl, rfl, r⟩
  | _, [_], ps, acc, out, accV, _, h, e, r => h.elim
  | 0, _ :: _ :: _, ps, acc, out, accV, hn, h, e, r => by simp at hn
  | n + 1, k :: v :: ws, ps, acc, out, accV, hn, h, e, r => by
    obtain ⟨x, y, q, e1, r1, r2, r3⟩ := h
    subst e1
    unfold dctOf at e
    have step : ∀ (key : L2.Key), k.atom? = some key → dctOf (putK acc (ofK key) v) ws = some out → ∃ kvs : List (L2.Key × V), (x, y) :: q = kvs.map (fun kv => (kV kv.1, kv.2)) ∧ 2 * kvs.length = (k :: v :: ws).length ∧ RepD G out 0 ((mergeK accV kvs).map fun p => (ofK p.1, p.2)) := fun key ek e => by
      obtain ⟨kvs, i1, i2, i3⟩ := dctOf_rep n (accV := L2.putK accV key y) (by simp only [List.length_cons] at hn; omega) r3 e (by rw [putK_map fun _ _ => ofK_inj]; exact r.put r2)
      refine ⟨(key, y) :: kvs, by rw [List.map_cons, ← i1, ofK_kV r1 ek], by simp only [List.length_cons]; omega, i3⟩
    split at e
    · rename_i i ei
      exact step (.inl i) ei e
    · rename_i i ei
      exact step (.inr i) ei e
    · cases e
theorem f3_0 {G : Gh} : ∀ {ws : List Mi.W} {vs : List V}, RepL G ws 0 vs → F3 (Own G 0) ws vs (ws.map fun _ => [])
  | [], _, h => by unfold RepL at h; subst h; exact .nil
  | w :: ws, vs, h => by
    unfold RepL at h
    obtain ⟨v, r, e, h1, h2⟩ := h
    subst e
    exact .cons (by unfold Own; exact ⟨rfl, h1⟩) (f3_0 h2)
theorem own_dct {G : Gh} {ws : List (Ky × Mi.W)} {xs : List (Ky × V)} {p : Addr} (r : RepD G ws 0 xs) (hl : xs.length ≤ sizeLine) (ho : DAt G.H p xs) : Own G 1 (.dct ws) (.ref p) [p] := by
  unfold Own
  obtain ⟨e1, e2⟩ := r.keys
  refine ⟨p, xs, (ws.map (·.2)).map fun _ => [], rfl, ho, hl, e1, f3_0 e2, ?_⟩
  rw [show ((ws.map (·.2)).map fun _ : Mi.W => ([] : List Addr)).flatten = [] by
    rw [List.flatten_eq_nil_iff]; intro l hl; obtain ⟨_, _, e⟩ := List.mem_map.mp hl; exact e.symm]
theorem own_lst {G : Gh} {ws : List Mi.W} {vs : List V} {p : Addr} (r : RepL G ws 0 vs) (hl : vs.length ≤ sizeLine) (ho : G.H p = some (.lst vs)) : Own G 1 (.lst ws) (.ref p) [p] := by
  unfold Own
  refine ⟨p, vs, ws.map fun _ => [], rfl, ho, hl, f3_0 r, ?_⟩
  rw [show (ws.map fun _ : Mi.W => ([] : List Addr)).flatten = [] by
    rw [List.flatten_eq_nil_iff]; intro l hl; obtain ⟨_, _, e⟩ := List.mem_map.mp hl; exact e.symm]
/-- the top is let go -/
theorem Po.unpush {K : PySem.W.Frag} {D : Addr} {o : HO} {M' : List Mi.W} {H' : Hp} {mu' : List Addr} (hl : σ.length ≤ Fp.length) (hD : H D = none) (p : Po K fl ρ σ (Fp ++ [[D]]) C (upd H D o) mu C M' H' mu') : Po K fl ρ σ Fp C H mu (fun a => C a ∨ a ∈ [D]) M' H' mu' := by
  refine ⟨fun a o' h hm => p.ext a o' (by rw [upd_ne (fun z => by rw [z, hD] at h; cases h)]; exact h) hm, ?_, fun a z => z.elim .inl fun z => .inr (List.mem_singleton.mp z ▸ hD), fun a z => .inl z, p.sr.pop hl⟩
  obtain ⟨more, em, fr⟩ := p.pre
  refine ⟨more, em, fun a ha => ?_⟩
  have z := fr a ha
  by_cases e : a = D
  · rw [e, upd_same] at z; cases z
  · rw [upd_ne e] at z; exact z
theorem weakD {K : PySem.W.Frag} {D : Addr} {M' : List Mi.W} {H' : Hp} {mu' : List Addr} (p : Po K fl ρ σ Fp C H mu (fun a => C a ∨ a ∈ [D]) M' H' mu') : Po K fl ρ σ Fp C H mu C M' H' mu' := p.weak (fun _ h => h) fun _ h => .inl h
/-- {k: v, ..} -/
theorem pe_dsp {keys : List (Option Expr)} {values : List Expr} {pos : Pos} {es : List E} (h : PPs X pos keys values (prs cl w fl es)) (hall : keys.all (·.isSome) = true) (hl : keys.length = values.length) (h0 : keys ≠ []) (h15 : keys.length ≤ 15) (he : es.length = 2 * keys.length) :
    PE X (.Dict keys values pos) (TV cl w fl (.f 1) (.dct es)) := by
  refine PE.weak (pe_disp h hall hl h0 h15) fun σ H Q ⟨C, ρ, M, Fp, mu, s, q⟩ => ?_
  have q : OutV w fl (.f 1) ρ σ Fp C H mu ((evs cl es ρ M).bind fun ws M => R.of ((dctOf [] ws).map .dct) M) Q := q
  intro p hp
  have lp := s.lp
  have s1 := s.push (o := .dK []) hp True.intro
  refine pairs_ok (w := w) (fl := fl) (ρ := ρ) (Fp := Fp ++ [[p]]) (C := C) (out := fun H1 mu1 r => (∃ M1, Po w.K fl ρ σ (Fp ++ [[p]]) C (upd H p (.dK [])) mu C M1 H1 mu1) ∧ OutV w fl (.f 1) ρ σ Fp C H mu r Q) ⟨fun _ _ z => z.2, ?_, ?_⟩ es (by omega) s1 ⟨⟨M, Po.refl s1⟩, q⟩ ?_
  · rintro H1 mu1 x N ⟨⟨M1, p1⟩, q1⟩ H' mu' p2 cls d e
    exact q1 H' mu' (weakD ((p1.trans p2).unpush lp hp)) cls d e
  · rintro H1 mu1 M2 H2 mu2 r p2 ⟨⟨M1, p1⟩, q1⟩
    exact ⟨⟨M2, p1.trans p2⟩, q1⟩
  · rintro ws ps M1 H1 mu1 p1 r1 l1 ⟨⟨M2, p2⟩, q1⟩
    obtain ⟨z, ez, g⟩ := q1.give
    obtain ⟨out, eo, ez⟩ := Option.map_eq_some_iff.mp ez
    subst ez
    obtain ⟨kvs, i1, i2, i3⟩ := dctOf_rep ws.length (accV := []) (Nat.le_refl _) r1 eo RepD.nil
    have at1 : H1 p = some (.dK []) := p1.ext _ _ upd_same (D_notmu s1)
    have h15' : kvs.length ≤ 15 := by omega
    refine ⟨at1, kvs, i1, h15', ?_⟩
    -- the new dict is written
    have pt := p1.unpush lp hp
    have st := p1.sr.top (o := .dK (mergeK [] kvs)) lp True.intro
    refine g (.ref p) _ mu1 [p] ⟨fun a o h hm => ?_, pt.pre, pt.cf, pt.cs, st.pop lp⟩ (by simp) (fun a h => by rw [List.mem_singleton.mp h]; exact hp) ?_
    · rw [upd_ne (fun z => by rw [z, hp] at h; cases h)]
      exact pt.ext a o h hm
    · show Own _ 1 _ _ _
      refine own_dct (G := gT w.K (upd H1 p (.dK (mergeK [] kvs))) (fun a => C a ∨ a ∈ [p]) Fp mu1) (xs := (mergeK [] kvs).map fun p => (ofK p.1, p.2)) ?_ ?_ (.inl ⟨_, upd_same, rfl⟩)
      · refine RepD.to0 (G := gT w.K H1 C (Fp ++ [[p]]) mu1) (G' := gT w.K (upd H1 p (.dK (mergeK [] kvs))) (fun a => C a ∨ a ∈ [p]) Fp mu1) ⟨rfl, fun a o e k => ⟨?_, fun z => k ?_⟩, fun _ _ e => e⟩ i3
        · show upd H1 p _ a = _
          rw [upd_ne (fun z => k (.inr (.inl (mem_snoc.mpr (.inr z)))))]; exact e
        · rcases z with z | z | z | z
          · exact .inl z
          · exact .inr (.inl (mem_snoc.mpr (.inl z)))
          · exact .inr (.inr z)
          · exact .inr (.inl (mem_snoc.mpr (.inr (List.mem_singleton.mp z))))
      · rw [List.length_map]
        have := length_mergeK kvs []
        rw [List.length_nil] at this
        rw [sizeLine_eq]; omega
/-- {} -/
theorem pe_dn {pos : Pos} : PE X (.Dict [] [] pos) (TV cl w fl (.f 1) (.dct [])) := by
  refine PE.weak pe_dnewK fun σ H Q ⟨C, ρ, M, Fp, mu, s, q⟩ => fun p hp => ?_
  have q : Give w.K fl ρ σ Fp C M H mu (.f 1) (.dct []) Q := q
  exact q.dct s RepD.nil (Nat.zero_le _) hp (.inl ⟨[], upd_same, rfl⟩)
/-- the value is made a cell of the store -/
theorem pe_sh {p : Expr} {a : E} (h : PE X p (TV cl w fl (.f 1) a)) : PE X p (TV cl w fl (.f 2) (.share a)) := by
  refine PE.weak h fun σ H Q ⟨C, ρ, M, Fp, mu, s, q⟩ => ⟨C, ρ, M, Fp, mu, s, ?_⟩
  have q : OutV w fl (.f 2) ρ σ Fp C H mu ((ev cl a ρ M).bind fun x M => match x with
    | .dct _ => .ok (.loc M.length) (M ++ [x])
    | _ => .no) Q := q
  show OutV w fl (.f 1) ρ σ Fp C H mu (ev cl a ρ M) Q
  revert q
  cases ev cl a ρ M with
  | no => exact id
  | ex x M' => exact id
  | ok x M' =>
    cases x with
    | dct kvs =>
      intro q v H' mu' S p nd fr hv
      have q : ∀ v H2 mu2 S2, Po w.K fl ρ σ Fp C H mu (fun a => C a ∨ a ∈ S2) (M' ++ [.dct kvs]) H2 mu2 → S2.Nodup → (∀ a ∈ S2, H a = none) → Val (.f 2) (gT w.K H2 (fun a => C a ∨ a ∈ S2) Fp mu2) (.loc M'.length) v S2 → Q v H2 := q
      have hv' := hv
      have hv' : Own _ 1 _ _ _ := hv'
      unfold Own at hv'
      obtain ⟨b, xs, Ss, e1, h1, h2, h3, h4, h5⟩ := hv'
      have e0 : Ss.flatten = [] := by
        have : ∀ {ws : List Mi.W} {vs : List V} {ss : List (List Addr)}, F3 (Own (gT w.K H' (fun a => C a ∨ a ∈ S) Fp mu') 0) ws vs ss → ss.flatten = [] := by
          intro ws vs ss f
          induction f with
          | nil => rfl
          | cons h _ ih =>
            unfold Own at h
            rw [List.flatten_cons, h.1, ih]; rfl
        exact this h4
      rw [e0] at h5
      subst h5 e1
      have hb : H b = none := fr b List.mem_cons_self
      have nb : ∀ a o, H a = some o → a ≠ b := fun a o e z => by rw [z, hb] at e; cases e
      have bn : b ∉ mu' ++ Fp.flatten := fun z => p.sr.cd b z (.inr List.mem_cons_self)
      have mb : ∀ {a}, a ∈ mu' ++ [b] ↔ a ∈ mu' ∨ a = b := fun {a} => by rw [List.mem_append, List.mem_singleton]
      have eB : ∀ a, allB C Fp (mu' ++ [b]) a → allB (fun a => C a ∨ a ∈ [b]) Fp mu' a := fun a z => by
        rcases z with z | z | z
        · rcases mb.mp z with z | z
          · exact .inl z
          · exact .inr (.inr (.inr (List.mem_singleton.mpr z)))
        · exact .inr (.inl z)
        · exact .inr (.inr (.inl z))
      have t0 : (gT w.K H' (fun a => C a ∨ a ∈ [b]) Fp mu').To0 (gT w.K H' C Fp (mu' ++ [b])) := ⟨rfl, fun a o e k => ⟨e, fun z => k (eB a z)⟩, fun n a e => by
        have e : mu'[n]? = some a := e
        show (mu' ++ [b])[n]? = some a
        rw [List.getElem?_append_left (List.getElem?_eq_some_iff.mp e).1]; exact e⟩
      have sr : SR w.K C fl ρ (M' ++ [.dct kvs]) σ H' Fp (mu' ++ [b]) := by
        refine ⟨s.lr, s.lp, s.lf, ?_, fun a h => ?_, fun a h => p.sr.ct' a (.inl h), fun a h => ?_, by rw [List.length_append, List.length_append, p.sr.cl]; rfl, fun n y a e ea => ?_, fun i g y e ey => ?_⟩
        · have nd := p.sr.nd
          rw [List.append_assoc]
          refine List.nodup_append.mpr ⟨(List.nodup_append.mp nd).1, List.nodup_cons.mpr ⟨fun z => bn (List.mem_append_right _ z), (List.nodup_append.mp nd).2.1⟩, fun a ha c hc e => ?_⟩
          subst e
          rcases List.mem_cons.mp hc with z | z
          · rw [z] at ha; exact bn (List.mem_append_left _ ha)
          · exact (List.nodup_append.mp nd).2.2 a ha a z rfl
        · intro c
          rcases List.mem_append.mp h with z | z
          · rcases mb.mp z with z | z
            · exact p.sr.cd a (List.mem_append_left _ z) (.inl c)
            · obtain ⟨o, e⟩ := s.ct a c
              exact nb a o e z
          · exact p.sr.cd a (List.mem_append_right _ z) (.inl c)
        · rcases List.mem_append.mp h with z | z
          · rcases mb.mp z with z | z
            · exact p.sr.tr' a (List.mem_append_left _ z)
            · exact p.sr.ct' a (.inr (List.mem_singleton.mpr z))
          · exact p.sr.tr' a (List.mem_append_right _ z)
        · by_cases k : n < M'.length
          · rw [List.getElem?_append_left k] at e
            rw [List.getElem?_append_left (by rw [← p.sr.cl]; exact k)] at ea
            exact (p.sr.ce n y a e ea).to0 t0 fun _ _ _ h => h
          · rw [List.getElem?_append_right (by omega)] at e
            rw [List.getElem?_append_right (by rw [← p.sr.cl]; omega), ← p.sr.cl] at ea
            have k0 : n - M'.length = 0 := by
              have := (List.getElem?_eq_some_iff.mp e).1
              simp at this; omega
            rw [k0] at e ea
            cases e; cases ea
            exact Own.to0 t0 (show Own _ 1 (.dct kvs) (.ref b) [b] from hv) fun _ _ _ h => h
        · have t : (gS w.K H C Fp mu).To (gS w.K H' C Fp (mu' ++ [b])) := by
            refine ⟨rfl, fun a o h k => ⟨p.ext a o h fun z => k (.inl z), fun z => ?_⟩, fun a o h k => ⟨p.ext a o h fun z => k (.inl z), fun z => ?_⟩, fun n a e => t0.mu n a (p.toT.mu n a e)⟩
            · rcases z with z | z | z
              · rcases mb.mp z with z | z
                · exact k (.inl (p.mur h z))
                · exact nb a o h z
              · exact k (.inr (.inl z))
              · exact k (.inr (.inr z))
            · rcases z with z | z
              · rcases mb.mp z with z | z
                · exact k (.inl (p.mur h z))
                · exact nb a o h z
              · exact k (.inr z)
          exact (s.sl i g y e ey).to t fun a o ha h => p.ext a o h fun z => (List.nodup_append.mp s.nd).2.2 a z a (mem_flat ha) rfl
      obtain ⟨more, em, fm⟩ := p.pre
      have po : Po w.K fl ρ σ Fp C H mu C (M' ++ [.dct kvs]) H' (mu' ++ [b]) := ⟨p.ext, ⟨more ++ [b], by rw [em, List.append_assoc], fun a ha => by
        rcases List.mem_append.mp ha with z | z
        · exact fm a z
        · rw [List.mem_singleton.mp z]; exact hb⟩, fun a z => .inl z, fun _ z => z, sr⟩
      refine q (.ref b) H' (mu' ++ [b]) [] (po.weak (fun _ z => .inl z) fun a z => z.elim id fun z => absurd z List.not_mem_nil) List.nodup_nil (fun _ h => nomatch h) ?_
      refine Own.of0 (w := .loc M'.length) (fun _ h => nomatch h) (fun _ h => nomatch h) ?_ 2
      unfold Rep
      refine ⟨b, rfl, ?_⟩
      show (mu' ++ [b])[M'.length]? = some b
      rw [p.sr.cl, List.getElem?_append_right (Nat.le_refl _), Nat.sub_self]; rfl
    | _ => intro q; exact q.elim
end
end Mi
end MiE_

section MiF_
set_option linter.all false
set_option Elab.async false
/-! MiF: what a statement leaves; the rules of the plain statements. -/
namespace Mi
open PySem PySem.Spec PyProof.Rows L2

/-! ### flags -/
def Fg.le : Fg → Fg → Bool
  | _, .dd => true
  | .pl, .pl => true
  | .bo d, .bo e => d == e
  | .ow d, .ow e => d == e
  | .ow _, .pl => true
  | .lk d, .lk e => d == e
  | _, _ => false
/-- a borrowed slot stays borrowed -/
def Fg.ok (g h : Fg) : Bool := Fg.le g h && (match g, h with
  | .bo _, .dd => false
  | _, _ => true)
def leL : List Fg → List Fg → Bool
  | [], [] => true
  | g :: gs, h :: hs => Fg.ok g h && leL gs hs
  | _, _ => false
theorem leL_len : ∀ {fl fl' : List Fg}, leL fl fl' = true → fl'.length = fl.length
  | [], [], _ => rfl
  | g :: gs, h :: hs, e => by
    unfold leL at e
    rw [Bool.and_eq_true] at e
    rw [List.length_cons, List.length_cons, leL_len e.2]
  | [], _ :: _, e => by cases e
  | _ :: _, [], e => by cases e
theorem leL_get : ∀ {fl fl' : List Fg}, leL fl fl' = true → ∀ {i : Nat} {h : Fg}, fl'[i]? = some h → ∃ g, fl[i]? = some g ∧ Fg.ok g h = true
  | [], [], _, i, h, e => by simp at e
  | g :: gs, k :: hs, e, i, h, eh => by
    unfold leL at e
    rw [Bool.and_eq_true] at e
    cases i with
    | zero => simp at eh; subst eh; exact ⟨g, rfl, e.1⟩
    | succ i => exact leL_get e.2 (by simpa using eh)
  | [], _ :: _, e, _, _, _ => by cases e
  | _ :: _, [], e, _, _, _ => by cases e
/-- the nodes of persistent slots are let go -/
def dropP : List Fg → List (List Addr) → List (List Addr)
  | .pl :: fl, _ :: Fp => [] :: dropP fl Fp
  | _ :: fl, S :: Fp => S :: dropP fl Fp
  | _, Fp => Fp
theorem dropP_len : ∀ (fl : List Fg) (Fp : List (List Addr)), (dropP fl Fp).length = Fp.length
  | [], Fp => by cases Fp <;> rfl
  | g :: fl, [] => by cases g <;> rfl
  | g :: fl, S :: Fp => by cases g <;> (show (dropP fl Fp).length + 1 = _; rw [dropP_len fl Fp]; rfl)
theorem dropP_sub : ∀ (fl : List Fg) (Fp : List (List Addr)), ((dropP fl Fp).flatten).Sublist Fp.flatten
  | [], Fp => by cases Fp <;> exact List.Sublist.refl _
  | g :: fl, [] => by cases g <;> exact List.Sublist.refl _
  | g :: fl, S :: Fp => by
    have ih := dropP_sub fl Fp
    have keep : (S ++ (dropP fl Fp).flatten).Sublist (S ++ Fp.flatten) := List.Sublist.append (List.Sublist.refl S) ih
    rw [List.flatten_cons]
    cases g with
    | pl => exact ih.trans (List.sublist_append_right S _)
    | _ => exact keep
theorem dropP_get : ∀ (fl : List Fg) (Fp : List (List Addr)) (i : Nat), (dropP fl Fp)[i]?.getD [] = if fl[i]? = some Fg.pl then [] else Fp[i]?.getD []
  | [], Fp, i => by
    have : dropP [] Fp = Fp := by cases Fp <;> rfl
    rw [this]; simp
  | g :: fl, [], i => by
    have : dropP (g :: fl) [] = [] := by cases g <;> rfl
    rw [this]; simp
  | g :: fl, S :: Fp, 0 => by cases g <;> simp [dropP]
  | g :: fl, S :: Fp, i + 1 => by
    have ih := dropP_get fl Fp i
    cases g <;> simpa [dropP] using ih
theorem dropP_mem {fl : List Fg} {Fp : List (List Addr)} {a : Addr} (h : a ∈ (dropP fl Fp).flatten) : ∃ j : Nat, fl[j]? ≠ some Fg.pl ∧ a ∈ Fp[j]?.getD [] := by
  obtain ⟨S, hS, ha⟩ := List.mem_flatten.mp h
  obtain ⟨j, hj, e⟩ := List.mem_iff_getElem.mp hS
  have g := dropP_get fl Fp j
  rw [List.getElem?_eq_getElem hj] at g
  rw [e] at g
  have g : S = if fl[j]? = some Fg.pl then [] else Fp[j]?.getD [] := g
  by_cases k : fl[j]? = some Fg.pl
  · rw [if_pos k] at g; rw [g] at ha; cases ha
  · rw [if_neg k] at g
    exact ⟨j, k, g ▸ ha⟩
theorem flat_one : ∀ {Fp : List (List Addr)} {a : Addr} {i j : Nat}, Fp.flatten.Nodup → a ∈ Fp[i]?.getD [] → a ∈ Fp[j]?.getD [] → i = j
  | [], a, i, j, _, h, _ => by simp at h
  | S :: Fp, a, 0, 0, _, _, _ => rfl
  | S :: Fp, a, 0, j + 1, nd, hi, hj => by
    rw [List.flatten_cons] at nd
    exact absurd rfl ((List.nodup_append.mp nd).2.2 a (by simpa using hi) a (mem_flat (i := j) (by simpa using hj)))
  | S :: Fp, a, i + 1, 0, nd, hi, hj => by
    rw [List.flatten_cons] at nd
    exact absurd rfl ((List.nodup_append.mp nd).2.2 a (by simpa using hj) a (mem_flat (i := i) (by simpa using hi)))
  | S :: Fp, a, i + 1, j + 1, nd, hi, hj => by
    rw [List.flatten_cons] at nd
    exact congrArg (· + 1) (flat_one (i := i) (j := j) (List.nodup_append.mp nd).2.1 (by simpa using hi) (by simpa using hj))

section
variable {K : PySem.W.Frag} {C C' : Addr → Prop} {fl fl' f1 f2 : List Fg} {ρ ρ' ρ1 ρ2 : Env} {M M' M1 M2 : List W} {σ σ' σ1 σ2 : L2.St} {H H' H1 H2 : Hp} {Fp Fp' Fp1 Fp2 : List (List Addr)} {mu mu' mu1 mu2 : List Addr}
/-- what a statement leaves -/
structure Pst (K : PySem.W.Frag) (C : Addr → Prop) (fl : List Fg) (ρ : Env) (σ : L2.St) (Fp : List (List Addr)) (H : Hp) (mu : List Addr) (fl' : List Fg) (ρ' : Env) (M' : List W) (σ' : L2.St) (H' : Hp) (Fp' : List (List Addr)) (mu' : List Addr) : Prop where
  ext : ∀ a o, H a = some o → a ∉ mu → a ∉ Fp.flatten → H' a = some o
  pre : ∃ more, mu' = mu ++ more ∧ ∀ a ∈ more, H a = none
  ff : ∀ a ∈ Fp'.flatten, a ∈ Fp.flatten ∨ H a = none
  tk : ∀ a, a ∈ mu ∨ a ∈ Fp.flatten → ∃ o, H' a = some o
  lo : ∀ (i d : Nat), fl[i]? = some (.bo d) → fl'[i]? = some (.bo d) ∧ ρ'[i]? = ρ[i]? ∧ σ'[i]? = σ[i]?
  lb : ∀ (i d : Nat), fl'[i]? = some (.bo d) → fl[i]? = some (.bo d)
  sr : SR K C fl' ρ' M' σ' H' Fp' mu'
theorem SR.tk (s : SR K C fl ρ M σ H Fp mu) : ∀ a, a ∈ mu ∨ a ∈ Fp.flatten → ∃ o, H a = some o := fun a h => s.tr a (List.mem_append.mpr h)
theorem Pst.refl (s : SR K C fl ρ M σ H Fp mu) : Pst K C fl ρ σ Fp H mu fl ρ M σ H Fp mu :=
  ⟨fun _ _ h _ _ => h, ⟨[], by simp, fun _ h => nomatch h⟩, fun _ h => .inl h, s.tk, fun _ _ h => ⟨h, rfl, rfl⟩, fun _ _ h => h, s⟩
theorem Po.pst (s : SR K C fl ρ M σ H Fp mu) (p : Po K fl ρ σ Fp C H mu C M' H' mu') : Pst K C fl ρ σ Fp H mu fl ρ M' σ H' Fp mu' :=
  ⟨fun a o h k _ => p.ext a o h k, p.pre, fun _ h => .inl h, fun a h => p.sr.tk a (h.imp (p.mum a) id), fun _ _ h => ⟨h, rfl, rfl⟩, fun _ _ h => h, p.sr⟩
theorem Pst.mur (p : Pst K C fl ρ σ Fp H mu fl' ρ' M' σ' H' Fp' mu') {a : Addr} {o : HO} (h : H a = some o) (z : a ∈ mu') : a ∈ mu := by
  obtain ⟨m, e, q⟩ := p.pre
  rw [e] at z
  rcases List.mem_append.mp z with z | z
  · exact z
  · rw [q a z] at h; cases h
theorem Pst.far (p : Pst K C fl ρ σ Fp H mu fl' ρ' M' σ' H' Fp' mu') {a : Addr} {o : HO} (h : H a = some o) (z : a ∈ Fp'.flatten) : a ∈ Fp.flatten := by
  rcases p.ff a z with k | k
  · exact k
  · rw [k] at h; cases h
theorem Pst.back (p : Pst K C fl ρ σ Fp H mu fl' ρ' M' σ' H' Fp' mu') {a : Addr} (e : H' a = none) : H a = none := by
  cases z : H a with
  | none => rfl
  | some o =>
    by_cases k : a ∈ mu ∨ a ∈ Fp.flatten
    · obtain ⟨o', e'⟩ := p.tk a k
      rw [e] at e'; cases e'
    · rw [not_or] at k
      rw [p.ext a o z k.1 k.2] at e; cases e
theorem Pst.live (p : Pst K C fl ρ σ Fp H mu fl' ρ' M' σ' H' Fp' mu') {a : Addr} {o : HO} (h : H a = some o) : ∃ o', H' a = some o' := by
  cases z : H' a with
  | some o' => exact ⟨o', rfl⟩
  | none => rw [p.back z] at h; cases h
theorem Pst.trans (p : Pst K C fl ρ σ Fp H mu f1 ρ1 M1 σ1 H1 Fp1 mu1) (q : Pst K C f1 ρ1 σ1 Fp1 H1 mu1 f2 ρ2 M2 σ2 H2 Fp2 mu2) : Pst K C fl ρ σ Fp H mu f2 ρ2 M2 σ2 H2 Fp2 mu2 := by
  refine ⟨fun a o h k1 k2 => q.ext a o (p.ext a o h k1 k2) (fun z => k1 (p.mur h z)) fun z => k2 (p.far h z), ?_, fun a ha => ?_, fun a h => ?_, fun i d e => ?_, fun i d e => p.lb i d (q.lb i d e), q.sr⟩
  · obtain ⟨m1, e1, k1⟩ := p.pre
    obtain ⟨m2, e2, k2⟩ := q.pre
    refine ⟨m1 ++ m2, by rw [e2, e1, List.append_assoc], fun a ha => ?_⟩
    rcases List.mem_append.mp ha with ha | ha
    · exact k1 a ha
    · exact p.back (k2 a ha)
  · rcases q.ff a ha with z | z
    · exact p.ff a z
    · exact .inr (p.back z)
  · obtain ⟨o, e⟩ := p.tk a h
    exact q.live e
  · obtain ⟨h1, h2, h3⟩ := p.lo i d e
    obtain ⟨k1, k2, k3⟩ := q.lo i d h1
    exact ⟨k1, k2.trans h2, k3.trans h3⟩
theorem Pst.toS (p : Pst K C fl ρ σ Fp H mu fl' ρ' M' σ' H' Fp' mu') : (gS K H C Fp mu).To (gS K H' C Fp' mu') := by
  refine ⟨rfl, fun a o h k => ⟨p.ext a o h (fun z => k (.inl z)) fun z => k (.inr (.inl z)), fun z => ?_⟩, fun a o h k => ⟨p.ext a o h (fun z => k (.inl z)) fun z => k (.inr z), fun z => ?_⟩, fun n a h => ?_⟩
  · rcases z with z | z | z
    · exact k (.inl (p.mur h z))
    · exact k (.inr (.inl (p.far h z)))
    · exact k (.inr (.inr z))
  · rcases z with z | z
    · exact k (.inl (p.mur h z))
    · exact k (.inr (p.far h z))
  · obtain ⟨m, e, _⟩ := p.pre
    have h : mu[n]? = some a := h
    show mu'[n]? = some a
    rw [e, List.getElem?_append_left (List.getElem?_eq_some_iff.mp h).1]; exact h
theorem SR.sub (s : SR K C fl ρ M σ H Fp mu) (h : leL fl fl' = true) : SR K C fl' ρ M σ H (dropP fl' Fp) mu := by
  have sub := dropP_sub fl' Fp
  have hs : ∀ a, a ∈ (dropP fl' Fp).flatten → a ∈ Fp.flatten := fun a z => sub.subset z
  have t0 : (gT K H C Fp mu).To (gT K H C (dropP fl' Fp) mu) := ⟨rfl, fun a o e k => ⟨e, fun z => k (z.imp id (Or.imp (hs a) id))⟩, fun a o e k => ⟨e, k⟩, fun _ _ e => e⟩
  have t : (gS K H C Fp mu).To (gS K H C (dropP fl' Fp) mu) := ⟨rfl, fun a o e k => ⟨e, fun z => k (z.imp id (Or.imp (hs a) id))⟩, fun a o e k => ⟨e, fun z => k (z.imp id (hs a))⟩, fun _ _ e => e⟩
  have hm : ∀ a, a ∈ mu ++ (dropP fl' Fp).flatten → a ∈ mu ++ Fp.flatten := fun a z => by
    rw [List.mem_append] at z ⊢
    exact z.imp id (hs a)
  refine ⟨s.lr, by rw [dropP_len]; exact s.lp, by rw [leL_len h]; exact s.lf, ?_, fun a z => s.cd a (hm a z), s.ct', fun a z => s.tr' a (hm a z), s.cl, fun n x a e1 e2 => (s.ce n x a e1 e2).to t0 fun _ _ _ q => q, fun i g x e1 e2 => ?_⟩
  · exact List.Sublist.nodup (List.Sublist.append (List.Sublist.refl mu) sub) s.nd
  · obtain ⟨g0, eg, ok⟩ := leL_get h e1
    have q := s.sl i g0 x eg e2
    have get := dropP_get fl' Fp i
    rw [e1] at get
    have same : g ≠ .pl → (dropP fl' Fp)[i]?.getD [] = Fp[i]?.getD [] := fun k => by
      rw [get, if_neg fun z => k (Option.some.inj z)]
    cases g with
    | dd => trivial
    | pl =>
      cases g0 with
      | pl => obtain ⟨v, e, r⟩ := q; exact ⟨v, e, r.to t⟩
      | ow d =>
        obtain ⟨v, e, r⟩ := q
        refine ⟨v, e, (Own.to t r fun _ _ _ z => z).rep0 gS_b fun a ha z => ?_⟩
        have nd := List.nodup_append.mp s.nd
        rcases z with z | z | z
        · exact nd.2.2 a z a (mem_flat ha) rfl
        · obtain ⟨j, hj, ja⟩ := dropP_mem z
          have := flat_one nd.2.1 ha ja
          subst this
          exact hj e1
        · exact s.cd a (List.mem_append_right _ (mem_flat ha)) z
      | _ => cases ok
    | bo d =>
      cases g0 with
      | bo d' =>
        have e : d' = d := by simpa [Fg.ok, Fg.le] using ok
        subst e
        obtain ⟨v, e, r⟩ := q; exact ⟨v, e, r.to t⟩
      | _ => cases ok
    | ow d =>
      cases g0 with
      | ow d' =>
        have e : d' = d := by simpa [Fg.ok, Fg.le] using ok
        subst e
        rw [same (by intro z; cases z)]
        obtain ⟨v, e, r⟩ := q; exact ⟨v, e, r.to t fun _ _ _ z => z⟩
      | _ => cases ok
    | lk d =>
      cases g0 with
      | lk d' =>
        have e : d' = d := by simpa [Fg.ok, Fg.le] using ok
        subst e
        rw [same (by intro z; cases z)]
        obtain ⟨v, e, r⟩ := q; exact ⟨v, e, r.to t fun _ _ _ z => z⟩
      | _ => cases ok
theorem leL_bo : ∀ {fl fl' : List Fg}, leL fl fl' = true → ∀ {i d : Nat}, fl[i]? = some (.bo d) → fl'[i]? = some (.bo d)
  | [], [], _, i, d, e => by simp at e
  | g :: gs, k :: hs, e, i, d, eh => by
    unfold leL at e
    rw [Bool.and_eq_true] at e
    cases i with
    | zero =>
      simp at eh; subst eh
      cases k with
      | bo d' =>
        have e : d = d' := by simpa [Fg.ok, Fg.le] using e.1
        rw [e]; rfl
      | _ => exact absurd e.1 (by simp [Fg.ok, Fg.le])
    | succ i => exact leL_bo e.2 (by simpa using eh)
  | [], _ :: _, e, _, _, _ => by cases e
  | _ :: _, [], e, _, _, _ => by cases e
theorem leL_bo2 {fl fl' : List Fg} (h : leL fl fl' = true) {i d : Nat} (e : fl'[i]? = some (.bo d)) : fl[i]? = some (.bo d) := by
  obtain ⟨g, eg, ok⟩ := leL_get h e
  cases g with
  | bo d' =>
    have k : d' = d := by simpa [Fg.ok, Fg.le] using ok
    rw [eg, k]
  | _ => cases ok
theorem SR.subP (s : SR K C fl ρ M σ H Fp mu) (h : leL fl fl' = true) : Pst K C fl ρ σ Fp H mu fl' ρ M σ H (dropP fl' Fp) mu :=
  ⟨fun _ _ h _ _ => h, ⟨[], by simp, fun _ h => nomatch h⟩, fun a z => .inl ((dropP_sub fl' Fp).subset z), s.tk, fun i d e => ⟨leL_bo h e, rfl, rfl⟩, fun i d e => leL_bo2 h e, s.sub h⟩
/-- the slots are dropped -/
theorem SR.drop (s : SR K C fl ρ M σ H Fp mu) : SR K C [] [] M [] H [] mu := by
  have t0 : (gT K H C Fp mu).To (gT K H C [] mu) := ⟨rfl, fun a o e k => ⟨e, fun z => k (z.imp id (Or.imp (fun z => by simp at z) id))⟩, fun a o e k => ⟨e, k⟩, fun _ _ e => e⟩
  refine ⟨rfl, Nat.le_refl _, rfl, ?_, fun a z => s.cd a ?_, s.ct', fun a z => s.tr' a ?_, s.cl, fun n x a e1 e2 => (s.ce n x a e1 e2).to t0 fun _ _ _ q => q, fun i g x e1 e2 => by simp at e1⟩
  · rw [List.flatten_nil, List.append_nil]; exact (List.nodup_append.mp s.nd).1
  · rw [List.flatten_nil, List.append_nil] at z; exact List.mem_append_left _ z
  · rw [List.flatten_nil, List.append_nil] at z; exact List.mem_append_left _ z
/-- what a return gives -/
structure Rst (K : PySem.W.Frag) (C : Addr → Prop) (Fp : List (List Addr)) (H : Hp) (mu : List Addr) (M' : List W) (H' : Hp) (mu' : List Addr) (S : List Addr) (lv : Lv) (x : W) (v : V) : Prop where
  ext : ∀ a o, H a = some o → a ∉ mu → a ∉ Fp.flatten → H' a = some o
  pre : ∃ more, mu' = mu ++ more ∧ ∀ a ∈ more, H a = none
  sr : SR K (fun a => C a ∨ a ∈ S) [] [] M' [] H' [] mu'
  nd : S.Nodup
  fr : ∀ a ∈ S, a ∈ Fp.flatten ∨ H a = none
  val : Val lv (gT K H' (fun a => C a ∨ a ∈ S) [] mu') x v S
theorem Pst.ret {S : List Addr} {lv : Lv} {x : W} {v : V} (p : Pst K C fl ρ σ Fp H mu f1 ρ1 M1 σ1 H1 Fp1 mu1) (r : Rst K C Fp1 H1 mu1 M' H' mu' S lv x v) : Rst K C Fp H mu M' H' mu' S lv x v := by
  refine ⟨fun a o h k1 k2 => r.ext a o (p.ext a o h k1 k2) (fun z => k1 (p.mur h z)) fun z => k2 (p.far h z), ?_, r.sr, r.nd, fun a ha => ?_, r.val⟩
  · obtain ⟨m1, e1, k1⟩ := p.pre
    obtain ⟨m2, e2, k2⟩ := r.pre
    refine ⟨m1 ++ m2, by rw [e2, e1, List.append_assoc], fun a ha => ?_⟩
    rcases List.mem_append.mp ha with ha | ha
    · exact k1 a ha
    · exact p.back (k2 a ha)
  · rcases r.fr a ha with z | z
    · exact p.ff a z
    · exact .inr (p.back z)

/-- a statement's outcome -/
def OutS (w : Wish) (ret : Lv) (fl fn fb fc : List Fg) (ρ : Env) (σ : L2.St) (Fp : List (List Addr)) (C : Addr → Prop) (H : Hp) (mu : List Addr) (r : R (Fl × Env)) (D : Ends) : Prop :=
  match r with
  | .ok (.nx, ρ') M' => ∀ σ' H' Fp' mu', Pst w.K C fl ρ σ Fp H mu fn ρ' M' σ' H' Fp' mu' → D.nx σ' H'
  | .ok (.bk, ρ') M' => ∀ σ' H' Fp' mu', Pst w.K C fl ρ σ Fp H mu fb ρ' M' σ' H' Fp' mu' → D.bk σ' H'
  | .ok (.ct, ρ') M' => ∀ σ' H' Fp' mu', Pst w.K C fl ρ σ Fp H mu fc ρ' M' σ' H' Fp' mu' → D.ct σ' H'
  | .ok (.rt x, _) M' => ∀ v H' mu' S, Rst w.K C Fp H mu M' H' mu' S ret x v → D.rt v H'
  | .ex x M' => ∀ f' ρ' σ' H' Fp' mu', Pst w.K C fl ρ σ Fp H mu f' ρ' M' σ' H' Fp' mu' → ∀ cls d, ExcOk w.cm x cls d → w.W cls d σ' H'
  | .no => False
variable {w : Wish} {ret : Lv} {fn fb fc fn' : List Fg} {D : Ends} {r : R (Fl × Env)}
theorem OutS.shift (p : Pst w.K C fl ρ σ Fp H mu f1 ρ1 M1 σ1 H1 Fp1 mu1) (q : OutS w ret fl fn fb fc ρ σ Fp C H mu r D) : OutS w ret f1 fn fb fc ρ1 σ1 Fp1 C H1 mu1 r D := by
  cases r with
  | no => exact q
  | ex x M => exact fun f' ρ' σ' H' Fp' mu' k => q f' ρ' σ' H' Fp' mu' (p.trans k)
  | ok a M =>
    obtain ⟨a, ρ'⟩ := a
    cases a with
    | nx => exact fun σ' H' Fp' mu' k => q σ' H' Fp' mu' (p.trans k)
    | bk => exact fun σ' H' Fp' mu' k => q σ' H' Fp' mu' (p.trans k)
    | ct => exact fun σ' H' Fp' mu' k => q σ' H' Fp' mu' (p.trans k)
    | rt x => exact fun v H' mu' S k => q v H' mu' S (p.ret k)
theorem OutS.sub (h : leL fn fn' = true) (q : OutS w ret fl fn' fb fc ρ σ Fp C H mu r D) : OutS w ret fl fn fb fc ρ σ Fp C H mu r D := by
  cases r with
  | no => exact q
  | ex x M => exact q
  | ok a M =>
    obtain ⟨a, ρ'⟩ := a
    cases a with
    | nx => exact fun σ' H' Fp' mu' k => q σ' H' _ mu' (k.trans (k.sr.subP h))
    | bk => exact q
    | ct => exact q
    | rt x => exact q
/-- the start's flags weakened -/
theorem OutS.pre (h : leL fl f1 = true) (s : SR w.K C fl ρ M σ H Fp mu) (q : OutS w ret fl fn fb fc ρ σ Fp C H mu r D) : OutS w ret f1 fn fb fc ρ σ (dropP f1 Fp) C H mu r D := q.shift (s.subP h)
end
section
variable {w : Wish} {fl : List Fg} {ρ : Env} {σ : L2.St} {Fp : List (List Addr)} {C : Addr → Prop} {ret : Lv} {fn fb fc : List Fg} {D : Ends}
theorem isOutS : IsOut w fl ρ σ Fp C fun H mu r => (∃ M, SR w.K C fl ρ M σ H Fp mu) ∧ OutS w ret fl fn fb fc ρ σ Fp C H mu r D where
  no := fun H mu h => h.2
  ex := fun H mu x M ⟨⟨M0, s⟩, h⟩ H' mu' p cls d e => h fl ρ σ H' Fp mu' (p.pst s) cls d e
  sh := fun H mu M1 H1 mu1 r p ⟨⟨M0, s⟩, h⟩ => ⟨⟨M1, p.sr⟩, h.shift (p.pst s)⟩
end
end Mi
end MiF_

section MiG_
set_option linter.all false
set_option Elab.async false
/-! MiG: the rules of the plain statements. -/
namespace Mi
open PySem PySem.Spec PyProof.Rows L2

theorem updupd {H : Hp} {a : Addr} {o o' : HO} : upd (upd H a o) a o' = upd H a o' := by
  funext b
  by_cases h : b = a
  · subst h; rw [upd_same, upd_same]
  · rw [upd_ne h, upd_ne h, upd_ne h]
/-- o[i] = v of a dict, by its kind -/
def rSetDA : TSet := fun o i v H Q => ∃ a ys k, o = .ref a ∧ DAt H a ys ∧ (ys.all fun p => p.1.flat == k.flat) = true ∧ kyV k H i ∧ ys.length < sizeLine ∧ ∀ ho, DAt (upd H a ho) a (putK ys k v) → Q (upd H a ho)
theorem set_dictA {X : Cx} (hu : X.A.units + 1 < cLine) : PSet X rSetDA := by
  intro pins s σ H o i v ov iv u Q I ro ri rv h
  obtain ⟨a, ys, k, eo, hd, hk, hv, hz, q⟩ := h
  subst eo
  cases (show ov = Value.ref a from ro)
  have goK : ∀ (H0 : Hp), Inv X pins σ H0 s → ∀ (zs : List (L2.Key × V)) (key : L2.Key), H0 a = some (.dK zs) → i = kV key → zs.length < sizeLine → Q (upd H0 a (.dK (L2.putK zs key v))) → wpAny (model X.prog X.w) X.A (setItem (.ref a) iv u) (fun _ s' => ∃ H', Inv X pins σ H' s' ∧ Q H') X.xe s := fun H0 I0 zs key e ei hl q0 =>
    set_dict hu pins s σ H0 (.ref a) i v (.ref a) iv u Q I0 rfl ri rv ⟨a, _, rfl, .inl ⟨zs, key, e, ei, hl, rfl⟩, q0⟩
  have goT : ∀ (H0 : Hp), Inv X pins σ H0 s → ∀ (zs : List (List L2.Key × V)) (ks : List L2.Key) (b : Addr), H0 a = some (.dT zs) → i = .ref b → H0 b = some (.tup (ks.map kV)) → zs.length < sizeLine → Q (upd H0 a (.dT (L2.putK zs ks v))) → wpAny (model X.prog X.w) X.A (setItem (.ref a) iv u) (fun _ s' => ∃ H', Inv X pins σ H' s' ∧ Q H') X.xe s := fun H0 I0 zs ks b e ei eb hl q0 =>
    set_dict hu pins s σ H0 (.ref a) i v (.ref a) iv u Q I0 rfl ri rv ⟨a, _, rfl, .inr ⟨zs, ks, b, e, ei, eb, hl, rfl⟩, q0⟩
  have atK : ∀ (zs : List (L2.Key × V)) (key : L2.Key), ys = zs.map (fun p => (ofK p.1, p.2)) → k = ofK key → Q (upd H a (.dK (L2.putK zs key v))) := fun zs key e ek =>
    q _ (.inl ⟨_, upd_same, by rw [putK_map fun _ _ => ofK_inj, ← e, ek]⟩)
  have atT : ∀ (zs : List (List L2.Key × V)) (ks : List L2.Key), ys = zs.map (fun p => (Ky.t p.1, p.2)) → k = .t ks → Q (upd H a (.dT (L2.putK zs ks v))) := fun zs ks e ek =>
    q _ (.inr ⟨_, upd_same, by rw [putK_map (f := Ky.t) (fun _ _ h => by cases h; rfl), ← e, ek]⟩)
  have key : ∀ {k}, kyV k H i → k.flat = true → ∃ key, k = ofK key ∧ i = kV key := fun {k} hv hf => by
    cases k with
    | i n => exact ⟨.inl n, rfl, hv⟩
    | s n => exact ⟨.inr n, rfl, hv⟩
    | t ks => cases hf
  have ktup : ∀ {k}, kyV k H i → k.flat = false → ∃ ks b, k = .t ks ∧ i = .ref b ∧ H b = some (.tup (ks.map kV)) := fun {k} hv hf => by
    cases k with
    | i n => cases hf
    | s n => cases hf
    | t ks => obtain ⟨b, e1, e2⟩ := hv; exact ⟨ks, b, rfl, e1, e2⟩
  rcases hd with ⟨zs, e, ey⟩ | ⟨zs, e, ey⟩
  · cases hf : k.flat with
    | true =>
      obtain ⟨ky, ek, ei⟩ := key hv hf
      exact goK H I zs ky e ei (by rw [ey, List.length_map] at hz; exact hz) (atK zs ky ey ek)
    | false =>
      obtain ⟨ks, b, ek, ei, eb⟩ := ktup hv hf
      cases zs with
      | cons z r =>
        exfalso
        rw [ey, List.map_cons, List.all_cons, hf] at hk
        cases z with | mk c d => cases c <;> simp [ofK, Ky.flat] at hk
      | nil =>
        have nb : b ≠ a := fun z => by rw [z, e] at eb; cases eb
        refine goT _ (inv_kt I e) [] ks b upd_same ei (by rw [upd_ne nb]; exact eb) (by rw [sizeLine_eq]; decide) ?_
        rw [updupd]
        exact atT [] ks (by rw [ey]; rfl) ek
  · cases hf : k.flat with
    | false =>
      obtain ⟨ks, b, ek, ei, eb⟩ := ktup hv hf
      exact goT H I zs ks b e ei eb (by rw [ey, List.length_map] at hz; exact hz) (atT zs ks ey ek)
    | true =>
      obtain ⟨ky, ek, ei⟩ := key hv hf
      cases zs with
      | cons z r =>
        exfalso
        rw [ey, List.map_cons, List.all_cons, hf] at hk
        simp [Ky.flat] at hk
      | nil =>
        refine goK _ (inv_tk I e) [] ky upd_same ei (by rw [sizeLine_eq]; decide) ?_
        rw [updupd]
        exact atK [] ky (by rw [ey]; rfl) ek
theorem PSet.or {X : Cx} {t u : TSet} (h : PSet X t) (k : PSet X u) : PSet X (fun o i v H Q => t o i v H Q ∨ u o i v H Q) := fun pins s σ H o i v ov iv w Q I ro ri rv q => by
  rcases q with q | q
  · exact h pins s σ H o i v ov iv w Q I ro ri rv q
  · exact k pins s σ H o i v ov iv w Q I ro ri rv q

theorem bo_set {fl : List Fg} {i j e : Nat} {g : Fg} (hg : g ≠ .bo e) (h : (fl.set i g)[j]? = some (.bo e)) : fl[j]? = some (.bo e) := by
  by_cases k : i = j
  · subst k
    by_cases l : i < fl.length
    · rw [List.getElem?_set_self l] at h
      exact absurd (Option.some.inj h) hg
    · rw [List.getElem?_eq_none (by simpa using l)] at h; cases h
  · rw [List.getElem?_set_ne k] at h; exact h
section
variable {K : PySem.W.Frag} {C : Addr → Prop} {fl : List Fg} {ρ : Env} {M M' : List W} {σ : L2.St} {H H' : Hp} {Fp : List (List Addr)} {mu mu' : List Addr}
/-- a persistent value is laid in the slot i, whatever it was -/
theorem SR.setPl2 (s : SR K C fl ρ M σ H Fp mu) {i : Nat} {x : W} {v : V} (hi : i < ρ.length) (r : Rep (gT K H C Fp mu) x 0 v) : SR K C (fl.set i .pl) (ρ.set i (some x)) M (σ.set i (some v)) H Fp mu := by
  refine ⟨by simp [s.lr], by simpa using s.lp, by simpa using s.lf, s.nd, s.cd, s.ct', s.tr', s.cl, s.ce, fun j g y hg hy => ?_⟩
  by_cases e : i = j
  · subst e
    rw [List.getElem?_set_self (by rw [s.lf, ← s.lr]; exact hi)] at hg
    rw [List.getElem?_set_self hi] at hy
    cases hy
    cases hg
    exact ⟨v, by rw [List.getElem?_set_self (by rw [← s.lr]; exact hi)]; rfl, r.to0 gS_gT0⟩
  · rw [List.getElem?_set_ne e] at hy hg
    rw [List.getElem?_set_ne e]
    exact s.sl j g y hg hy
theorem flat_set {i : Nat} {S : List Addr} {Fp : List (List Addr)} {a : Addr} (h : a ∈ (Fp.set i S).flatten) : a ∈ S ∨ a ∈ Fp.flatten := by
  obtain ⟨l, hl, ha⟩ := List.mem_flatten.mp h
  rcases List.mem_or_eq_of_mem_set hl with z | z
  · exact .inr (List.mem_flatten.mpr ⟨l, z, ha⟩)
  · exact .inl (z ▸ ha)
theorem nodup_set : ∀ {Fp : List (List Addr)} {i : Nat} {S : List Addr}, Fp.flatten.Nodup → S.Nodup → (∀ a ∈ S, a ∉ Fp.flatten) → (Fp.set i S).flatten.Nodup
  | [], i, S, h, _, _ => by simpa using h
  | T :: Fp, 0, S, h, hS, hd => by
    rw [List.flatten_cons] at h
    show (S ++ Fp.flatten).Nodup
    refine List.nodup_append.mpr ⟨hS, (List.nodup_append.mp h).2.1, fun a ha b hb e => ?_⟩
    subst e
    exact hd a ha (by rw [List.flatten_cons]; exact List.mem_append_right _ hb)
  | T :: Fp, i + 1, S, h, hS, hd => by
    rw [List.flatten_cons] at h
    show (T ++ (Fp.set i S).flatten).Nodup
    obtain ⟨h1, h2, h3⟩ := List.nodup_append.mp h
    refine List.nodup_append.mpr ⟨h1, nodup_set h2 hS fun a ha z => hd a ha (by rw [List.flatten_cons]; exact List.mem_append_right _ z), fun a ha b hb e => ?_⟩
    subst e
    rcases flat_set hb with z | z
    · exact hd a z (by rw [List.flatten_cons]; exact List.mem_append_left _ ha)
    · exact h3 a ha a z rfl
/-- an owned value is laid in the slot i -/
theorem SR.setOw (s : SR K C fl ρ M σ H Fp mu) {i d : Nat} {x : W} {v : V} {S : List Addr} (hi : i < ρ.length) (p : Po K fl ρ σ Fp C H mu (fun a => C a ∨ a ∈ S) M' H' mu') (nd : S.Nodup) (fr : ∀ a ∈ S, H a = none)
    (hv : Own (gT K H' (fun a => C a ∨ a ∈ S) Fp mu') d x v S) : Pst K C fl ρ σ Fp H mu (fl.set i (.ow d)) (ρ.set i (some x)) M' (σ.set i (some v)) H' (Fp.set i S) mu' ∨ ∃ e, fl[i]? = some (.bo e) := by
  by_cases hb : ∃ e, fl[i]? = some (.bo e)
  · exact .inr hb
  refine .inl ?_
  have hS : ∀ a ∈ S, a ∉ mu' ∧ a ∉ Fp.flatten ∧ ¬ C a := fun a ha => by
    have k := p.sr.cd a
    refine ⟨fun z => k (List.mem_append_left _ z) (.inr ha), fun z => k (List.mem_append_right _ z) (.inr ha), fun z => ?_⟩
    obtain ⟨o, e⟩ := s.ct a z
    rw [fr a ha] at e; cases e
  have eB : ∀ a, allB C (Fp.set i S) mu' a → allB (fun a => C a ∨ a ∈ S) Fp mu' a := fun a z => by
    rcases z with z | z | z
    · exact .inl z
    · rcases flat_set z with z | z
      · exact .inr (.inr (.inr z))
      · exact .inr (.inl z)
    · exact .inr (.inr (.inl z))
  have t0 : (gT K H' (fun a => C a ∨ a ∈ S) Fp mu').To0 (gT K H' C (Fp.set i S) mu') := ⟨rfl, fun a o e k => ⟨e, fun z => k (eB a z)⟩, fun _ _ e => e⟩
  have t : (gS K H C Fp mu).To (gS K H' C (Fp.set i S) mu') := by
    refine ⟨rfl, fun a o h k => ⟨p.ext a o h fun z => k (.inl z), fun z => ?_⟩, fun a o h k => ⟨p.ext a o h fun z => k (.inl z), fun z => ?_⟩, p.toT.mu⟩
    · rcases z with z | z | z
      · exact k (.inl (p.mur h z))
      · rcases flat_set z with z | z
        · have h : H a = some o := h
          rw [fr a z] at h; cases h
        · exact k (.inr (.inl z))
      · exact k (.inr (.inr z))
    · rcases z with z | z
      · exact k (.inl (p.mur h z))
      · rcases flat_set z with z | z
        · have h : H a = some o := h
          rw [fr a z] at h; cases h
        · exact k (.inr z)
  have nd0 := List.nodup_append.mp p.sr.nd
  have sr : SR K C (fl.set i (.ow d)) (ρ.set i (some x)) M' (σ.set i (some v)) H' (Fp.set i S) mu' := by
    refine ⟨by simp [s.lr], by simpa using s.lp, by simpa using s.lf, List.nodup_append.mpr ⟨nd0.1, nodup_set nd0.2.1 nd fun a ha => (hS a ha).2.1, fun a ha b hb' e => ?_⟩, fun a h => ?_, fun a h => p.sr.ct' a (.inl h), fun a h => ?_, p.sr.cl, fun n y a e1 e2 => (p.sr.ce n y a e1 e2).to0 t0 fun _ _ _ h => h, fun j g y hg hy => ?_⟩
    · subst e
      rcases flat_set hb' with z | z
      · exact (hS a z).1 ha
      · exact nd0.2.2 a ha a z rfl
    · rcases List.mem_append.mp h with z | z
      · exact fun c => p.sr.cd a (List.mem_append_left _ z) (.inl c)
      · rcases flat_set z with z | z
        · exact (hS a z).2.2
        · exact fun c => p.sr.cd a (List.mem_append_right _ z) (.inl c)
    · rcases List.mem_append.mp h with z | z
      · exact p.sr.tr' a (List.mem_append_left _ z)
      · rcases flat_set z with z | z
        · exact p.sr.ct' a (.inr z)
        · exact p.sr.tr' a (List.mem_append_right _ z)
    · by_cases e : i = j
      · subst e
        rw [List.getElem?_set_self (by rw [s.lf, ← s.lr]; exact hi)] at hg
        rw [List.getElem?_set_self hi] at hy
        cases hy
        cases hg
        refine ⟨v, by rw [List.getElem?_set_self (by rw [← s.lr]; exact hi)]; rfl, ?_⟩
        rw [List.getElem?_set_self (by have := s.lp; have := s.lr; omega)]
        exact Own.to0 (G := gT K H' (fun a => C a ∨ a ∈ S) Fp mu') (G' := gS K H' C (Fp.set i S) mu') ⟨rfl, t0.h0, t0.mu⟩ hv fun _ _ _ h => h
      · rw [List.getElem?_set_ne e] at hy hg
        rw [List.getElem?_set_ne e, List.getElem?_set_ne e]
        exact (s.sl j g y hg hy).to t fun a o ha h => p.ext a o h fun z => (List.nodup_append.mp s.nd).2.2 a z a (mem_flat ha) rfl
  refine ⟨fun a o h k _ => p.ext a o h k, p.pre, fun a ha => ?_, fun a h => ?_, fun j e hj => ?_, fun j e hj => ?_, sr⟩
  · rcases flat_set ha with z | z
    · exact .inr (fr a z)
    · exact .inl z
  · exact p.sr.tk a (h.imp (p.mum a) id)
  · have ne : i ≠ j := fun z => hb ⟨e, z ▸ hj⟩
    exact ⟨by rw [List.getElem?_set_ne ne]; exact hj, by rw [List.getElem?_set_ne ne], by rw [List.getElem?_set_ne ne]⟩
  · exact bo_set (by intro z; cases z) hj
end
end Mi
end MiG_

section MiH_
set_option linter.all false
set_option Elab.async false
/-! MiH: the rules of the plain statements, II. -/
namespace Mi
open PySem PySem.Spec PyProof.Rows L2

def TSt (cl : Nat → List W → List W → R W) (w : Wish) (ret : Lv) (fl fn fb fc : List Fg) (s : S) : TS := fun D σ H => At w.K fl σ H fun ρ M Fp C mu => OutS w ret fl fn fb fc ρ σ Fp C H mu (exec cl s ρ M) D
def TSs (cl : Nat → List W → List W → R W) (w : Wish) (ret : Lv) (fl fn fb fc : List Fg) (s : List S) : TS := fun D σ H => At w.K fl σ H fun ρ M Fp C mu => OutS w ret fl fn fb fc ρ σ Fp C H mu (execs cl s ρ M) D
section
variable {X : Cx} {cl : Nat → List W → List W → R W} {w : Wish} {ret : Lv} {fl fn fb fc f1 : List Fg} {C : Addr → Prop} {ρ : Env} {M : List Mi.W} {σ : L2.St} {H : Hp} {Fp : List (List Addr)} {mu : List Addr} {D : Ends} {lv : Lv} {pos : Pos}

theorem tv_tr {e : E} {d : Nat} {Q : VK} (hd : asD lv d = true) : TR cl w fl d e σ H Q → TV cl w fl lv e σ H Q := by
  rintro ⟨C, ρ, M, Fp, mu, s, q⟩
  refine ⟨C, ρ, M, Fp, mu, s, ?_⟩
  show OutV w fl lv ρ σ Fp C H mu (ev cl e ρ M) Q
  have q : OutR w fl d ρ σ Fp C H mu (ev cl e ρ M) Q := q
  revert q
  cases ev cl e ρ M with
  | no => exact id
  | ex x M' => exact id
  | ok x M' =>
    intro q v H' mu' S p nd fr hv
    have hS : ∀ a ∈ S, a ∉ mu' ∧ a ∉ Fp.flatten ∧ ¬ C a := fun a ha => by
      have k := p.sr.cd a
      refine ⟨fun z => k (List.mem_append_left _ z) (.inr ha), fun z => k (List.mem_append_right _ z) (.inr ha), fun z => ?_⟩
      obtain ⟨o, e⟩ := s.ct a z
      rw [fr a ha] at e; cases e
    exact q v H' mu' (p.weak (fun _ z => z) fun _ z => .inl z) (hv.rep hd hS)
/-- a value in the statement's state -/
theorem inS {r : R (Fl × Env)} (s : SR w.K C fl ρ M σ H Fp mu) (q : OutS w ret fl fn fb fc ρ σ Fp C H mu r D) : (∃ M, SR w.K C fl ρ M σ H Fp mu) ∧ OutS w ret fl fn fb fc ρ σ Fp C H mu r D := ⟨⟨M, s⟩, q⟩
theorem bindVS {e : E} {g : Mi.W → List Mi.W → R (Fl × Env)} {P : V → Hp → Prop} (s : SR w.K C fl ρ M σ H Fp mu) (q : OutS w ret fl fn fb fc ρ σ Fp C H mu ((ev cl e ρ M).bind g) D)
    (k : ∀ x v M' H' mu' S, Po w.K fl ρ σ Fp C H mu (fun a => C a ∨ a ∈ S) M' H' mu' → S.Nodup → (∀ a ∈ S, H a = none) → Val lv (gT w.K H' (fun a => C a ∨ a ∈ S) Fp mu') x v S → OutS w ret fl fn fb fc ρ σ Fp C H mu (g x M') D → P v H') : TV cl w fl lv e σ H P := by
  refine ⟨C, ρ, M, Fp, mu, s, ?_⟩
  show OutV w fl lv ρ σ Fp C H mu (ev cl e ρ M) P
  revert q
  cases ev cl e ρ M with
  | no => exact id
  | ex x M' => exact fun q H' mu' p cls d e => q fl ρ σ H' Fp mu' (p.pst s) cls d e
  | ok x M' => exact fun q v H' mu' S p nd fr hv => k x v M' H' mu' S p nd fr hv q

/-! ### small ones -/
theorem ps_pa : PS X (.Pass pos) (TSt cl w ret fl fl fb fc .pass) := PS.weak ps_pass fun D σ H ⟨C, ρ, M, Fp, mu, s, q⟩ => by
  have q : ∀ σ' H' Fp' mu', Pst w.K C fl ρ σ Fp H mu fl ρ M σ' H' Fp' mu' → D.nx σ' H' := q
  exact q σ H Fp mu (Pst.refl s)
theorem ps_bk (h : leL fl fb = true) : PS X (.Break pos) (TSt cl w ret fl fn fb fc .brk) := PS.weak ps_break fun D σ H ⟨C, ρ, M, Fp, mu, s, q⟩ => by
  have q : ∀ σ' H' Fp' mu', Pst w.K C fl ρ σ Fp H mu fb ρ M σ' H' Fp' mu' → D.bk σ' H' := q
  exact q σ H _ mu (s.subP h)
theorem ps_ct (h : leL fl fc = true) : PS X (.Continue pos) (TSt cl w ret fl fn fb fc .cont) := PS.weak ps_continue fun D σ H ⟨C, ρ, M, Fp, mu, s, q⟩ => by
  have q : ∀ σ' H' Fp' mu', Pst w.K C fl ρ σ Fp H mu fc ρ M σ' H' Fp' mu' → D.ct σ' H' := q
  exact q σ H _ mu (s.subP h)
theorem ps_xp {p : Expr} {e : E} (h : PE X p (TV cl w fl lv e)) (hs : swapsWith p none pos.line X.env = pure false) : PS X (.Expr p pos) (TSt cl w ret fl fl fb fc (.expr e)) := by
  refine PS.weak (ps_expr h hs) fun D σ H ⟨C, ρ, M, Fp, mu, s, q⟩ => ?_
  have q : OutS w ret fl fl fb fc ρ σ Fp C H mu ((ev cl e ρ M).bind fun _ M => .ok (.nx, ρ) M) D := q
  refine bindVS s q fun x v M' H' mu' S p nd fr hv q' => ?_
  have q' : ∀ σ' H' Fp' mu', Pst w.K C fl ρ σ Fp H mu fl ρ M' σ' H' Fp' mu' → D.nx σ' H' := q'
  exact q' σ H' Fp mu' ((p.weak (C1 := C) (fun _ h => h) fun _ h => .inl h).pst s)
/-- flags weakened behind a statement; ahead of it -/
theorem st_sub {st : Stmt} {s : S} {f2 : List Fg} (h : PS X st (TSt cl w ret fl f1 fb fc s)) (hl : leL f1 f2 = true) : PS X st (TSt cl w ret fl f2 fb fc s) :=
  PS.weak h fun D σ H ⟨C, ρ, M, Fp, mu, sr, q⟩ => ⟨C, ρ, M, Fp, mu, sr, OutS.sub hl q⟩
theorem st_pre {st : Stmt} {s : S} {f2 : List Fg} (h : PS X st (TSt cl w ret f2 fn fb fc s)) (hl : leL fl f2 = true) : PS X st (TSt cl w ret fl fn fb fc s) :=
  PS.weak h fun D σ H ⟨C, ρ, M, Fp, mu, sr, q⟩ => ⟨C, ρ, M, _, mu, (sr.subP hl).sr, OutS.shift (sr.subP hl) q⟩
theorem ss_sub {st : List Stmt} {s : List S} {f2 : List Fg} (h : PSs X st (TSs cl w ret fl f1 fb fc s)) (hl : leL f1 f2 = true) : PSs X st (TSs cl w ret fl f2 fb fc s) :=
  PSs.weak h fun D σ H ⟨C, ρ, M, Fp, mu, sr, q⟩ => ⟨C, ρ, M, Fp, mu, sr, OutS.sub hl q⟩
theorem ss_pre {st : List Stmt} {s : List S} {f2 : List Fg} (h : PSs X st (TSs cl w ret f2 fn fb fc s)) (hl : leL fl f2 = true) : PSs X st (TSs cl w ret fl fn fb fc s) :=
  PSs.weak h fun D σ H ⟨C, ρ, M, Fp, mu, sr, q⟩ => ⟨C, ρ, M, _, mu, (sr.subP hl).sr, OutS.shift (sr.subP hl) q⟩
theorem ss_n : PSs X [] (TSs cl w ret fl fl fb fc []) := PSs.weak pss_nil fun D σ H ⟨C, ρ, M, Fp, mu, s, q⟩ => by
  have q : ∀ σ' H' Fp' mu', Pst w.K C fl ρ σ Fp H mu fl ρ M σ' H' Fp' mu' → D.nx σ' H' := q
  exact q σ H Fp mu (Pst.refl s)
theorem execs_cons (s : S) (ss : List S) (ρ : Env) (M : List Mi.W) : execs cl (s :: ss) ρ M = (exec cl s ρ M).bind fun r M => match r with
    | (.nx, ρ) => execs cl ss ρ M
    | (.bk, ρ) => .ok (.bk, ρ) M
    | (.ct, ρ) => .ok (.ct, ρ) M
    | (.rt v, ρ) => .ok (.rt v, ρ) M := rfl
theorem seq_ok {s : S} {ss : List S} (h : TSs cl w ret fl fn fb fc (s :: ss) D σ H) : TSt cl w ret fl f1 fb fc s { D with nx := TSs cl w ret f1 fn fb fc ss D } σ H := by
  obtain ⟨C, ρ, M, Fp, mu, sr, q⟩ := h
  have q : OutS w ret fl fn fb fc ρ σ Fp C H mu (execs cl (s :: ss) ρ M) D := q
  rw [execs_cons] at q
  refine ⟨C, ρ, M, Fp, mu, sr, ?_⟩
  show OutS w ret fl f1 fb fc ρ σ Fp C H mu (exec cl s ρ M) _
  revert q
  cases exec cl s ρ M with
  | no => exact id
  | ex x M' => exact id
  | ok a M' =>
    obtain ⟨a, ρ'⟩ := a
    cases a with
    | nx => exact fun q σ' H' Fp' mu' p => ⟨C, ρ', M', Fp', mu', p.sr, OutS.shift p q⟩
    | bk => exact id
    | ct => exact id
    | rt x => exact id
theorem ss_c {st : Stmt} {sts : List Stmt} {s : S} {ss : List S} (h : PS X st (TSt cl w ret fl f1 fb fc s)) (hs : PSs X sts (TSs cl w ret f1 fn fb fc ss)) : PSs X (st :: sts) (TSs cl w ret fl fn fb fc (s :: ss)) :=
  PSs.weak (pss_cons h hs) fun D σ H q => seq_ok q
/-- a mark in the text of mine alone -/
theorem ss_fz {sts : List Stmt} {i : Nat} {ss : List S} (hs : PSs X sts (TSs cl w ret f1 fn fb fc ss)) (hl : leL fl f1 = true) : PSs X sts (TSs cl w ret fl fn fb fc (.fz i :: ss)) :=
  PSs.weak (ss_pre hs hl) fun D σ H ⟨C, ρ, M, Fp, mu, sr, q⟩ => ⟨C, ρ, M, Fp, mu, sr, q⟩

/-! ### name = e -/
theorem set_pl {st : Stmt} {te : TE} {i : Nat} {e : E} (h : PS X st (tAsg te (gName i))) (hte : ∀ σ H Q, TR cl w fl 0 e σ H Q → te σ H Q) (hb : ∀ d, fl[i]? ≠ some (.bo d)) : PS X st (TSt cl w ret fl (fl.set i .pl) fb fc (.set i .pl e)) := by
  refine PS.weak h fun D σ H ⟨C, ρ, M, Fp, mu, s, q⟩ => ?_
  have q : OutS w ret fl (fl.set i .pl) fb fc ρ σ Fp C H mu ((ev cl e ρ M).bind fun w M => if i < ρ.length then .ok (.nx, ρ.set i (some w)) M else .no) D := q
  refine hte _ _ _ (bindR isOutS s (inS s q) fun x v M' H' mu' p r q' => ?_)
  have q' := q'.2
  split at q'
  · rename_i hi
    have q' : ∀ σ' H2 Fp' mu2, Pst w.K C fl ρ σ Fp H' mu' (fl.set i .pl) (ρ.set i (some x)) M' σ' H2 Fp' mu2 → D.nx σ' H2 := q'
    refine q' _ H' Fp mu' ⟨fun _ _ h _ _ => h, ⟨[], by simp, fun _ h => nomatch h⟩, fun _ h => .inl h, p.sr.tk, fun j d e => ?_, fun j d e => bo_set (by intro z; cases z) e, p.sr.setPl2 hi r⟩
    have ne : i ≠ j := fun z => hb d (z ▸ e)
    exact ⟨by rw [List.getElem?_set_ne ne]; exact e, by rw [List.getElem?_set_ne ne], by rw [List.getElem?_set_ne ne]⟩
  · exact q'.elim
theorem set_ow {st : Stmt} {te : TE} {i d : Nat} {e : E} (h : PS X st (tAsg te (gName i))) (hte : ∀ σ H Q, TV cl w fl (.f d) e σ H Q → te σ H Q) (hb : ∀ d, fl[i]? ≠ some (.bo d)) : PS X st (TSt cl w ret fl (fl.set i (.ow d)) fb fc (.set i (.ow d) e)) := by
  refine PS.weak h fun D σ H ⟨C, ρ, M, Fp, mu, s, q⟩ => ?_
  have q : OutS w ret fl (fl.set i (.ow d)) fb fc ρ σ Fp C H mu ((ev cl e ρ M).bind fun w M => if i < ρ.length then .ok (.nx, ρ.set i (some w)) M else .no) D := q
  refine hte _ _ _ (bindVS s q fun x v M' H' mu' S p nd fr hv q' => ?_)
  split at q'
  · rename_i hi
    have q' : ∀ σ' H2 Fp' mu2, Pst w.K C fl ρ σ Fp H mu (fl.set i (.ow d)) (ρ.set i (some x)) M' σ' H2 Fp' mu2 → D.nx σ' H2 := q'
    rcases s.setOw hi p nd fr hv with k | ⟨e, k⟩
    · exact q' _ H' _ mu' k
    · exact absurd k (hb e)
  · exact q'.elim
/-- target = e -/
theorem set_tg {tg p : Expr} {t : Tg} {e : E} (he : PE X p (TR cl w fl 0 e)) (hg : PG X tg (TGt w fl t)) (hv : ∀ i ∈ t.vars, fl[i]? = some .pl) (hs : swapsWithSole [tg] p pos.line X.env = pure false) (hw : swappedStores [tg] p X.env = pure none)
    (h1 : (assignEach [tg] X.env).map (·.2) = [assign tg X.env]) : PS X (.Assign [tg] p pos) (TSt cl w ret fl fl fb fc (.setT t e)) := by
  refine PS.weak (ps_asg he hg hs hw h1) fun D σ H ⟨C, ρ, M, Fp, mu, s, q⟩ => ?_
  have q : OutS w ret fl fl fb fc ρ σ Fp C H mu ((ev cl e ρ M).bind fun w M => R.of ((bindT t w ρ).map fun ρ => (.nx, ρ)) M) D := q
  refine bindR isOutS s (inS s q) fun x v M' H' mu' p r q' => ?_
  have q' := q'.2
  cases hb : bindT t x ρ with
  | none => rw [hb] at q'; exact q'.elim
  | some ρ' =>
    rw [hb] at q'
    have q' : ∀ σ' H2 Fp' mu2, Pst w.K C fl ρ σ Fp H' mu' fl ρ' M' σ' H2 Fp' mu2 → D.nx σ' H2 := q'
    refine ⟨C, ρ, ρ', M', Fp, mu', x, p.sr, r, hb, fun σ' s' o1 o2 => q' σ' H' Fp mu' ⟨fun _ _ h _ _ => h, ⟨[], by simp, fun _ h => nomatch h⟩, fun _ h => .inl h, p.sr.tk, fun j d e => ?_, fun _ _ e => e, s'⟩⟩
    have ne : j ∉ t.vars := fun z => by rw [hv j z] at e; cases e
    exact ⟨e, o2.2 j ne, o1.2 j ne⟩

/-! ### returns -/
theorem ps_rt {p : Expr} {e : E} (h : PE X p (TV cl w fl ret e)) : PS X (.Return (some p) pos) (TSt cl w ret fl fn fb fc (.ret e)) := by
  refine PS.weak (ps_ret h) fun D σ H ⟨C, ρ, M, Fp, mu, s, q⟩ => ?_
  have q : OutS w ret fl fn fb fc ρ σ Fp C H mu ((ev cl e ρ M).bind fun w M => .ok (.rt w, ρ) M) D := q
  refine bindVS s q fun x v M' H' mu' S p nd fr hv q' => ?_
  have q' : ∀ v H' mu' S, Rst w.K C Fp H mu M' H' mu' S ret x v → D.rt v H' := q'
  refine q' v H' mu' S ⟨fun a o h k _ => p.ext a o h k, p.pre, p.sr.drop, nd, fun a ha => .inr (fr a ha), ?_⟩
  have t : (gT w.K H' (fun a => C a ∨ a ∈ S) Fp mu').To (gT w.K H' (fun a => C a ∨ a ∈ S) [] mu') := ⟨rfl, fun a o e k => ⟨e, fun z => k (z.imp id (Or.imp (fun z => by simp at z) id))⟩, fun a o e k => ⟨e, k⟩, fun _ _ e => e⟩
  revert hv
  cases ret with
  | t n => exact fun hv => ⟨hv.1, hv.2.to t⟩
  | f n => exact fun hv => Own.to t hv fun _ _ _ h => h
theorem ps_rtn : PS X (.Return none pos) (TSt cl w (.f 2) fl fn fb fc (.ret .non)) := by
  refine PS.weak ps_retN fun D σ H ⟨C, ρ, M, Fp, mu, s, q⟩ => ?_
  have q : ∀ v H' mu' S, Rst w.K C Fp H mu M H' mu' S (.f 2) .non v → D.rt v H' := q
  refine q .non H mu [] ⟨fun a o h _ _ => h, ⟨[], by simp, fun _ h => nomatch h⟩, (s.weak (C := fun a => C a ∨ a ∈ ([] : List Addr)) fun a z => z.elim id fun z => absurd z List.not_mem_nil).drop, List.nodup_nil, (fun _ h => nomatch h), ?_⟩
  exact Own.of0 (w := .non) (fun _ h => nomatch h) (fun _ h => nomatch h) (by unfold Rep; rfl) 2
theorem ps_rtv {p : Expr} {i n : Nat} (h : PE X p (tVar i)) (hf : fl[i]? = some (.ow n)) : PS X (.Return (some p) pos) (TSt cl w (.f n) fl fn fb fc (.retv i)) := by
  refine PS.weak (ps_ret h) fun D σ H ⟨C, ρ, M, Fp, mu, s, q⟩ => ?_
  have q : OutS w (.f n) fl fn fb fc ρ σ Fp C H mu (R.of ((slot ρ i).map fun w => (.rt w, ρ)) M) D := q
  unfold slot at q
  split at q
  · rename_i x ex
    have q : ∀ v H' mu' S, Rst w.K C Fp H mu M H' mu' S (.f n) x v → D.rt v H' := q
    obtain ⟨v, e, r⟩ := s.sl i _ x hf ex
    refine ⟨v, ?_, q v H mu (Fp[i]?.getD []) ?_⟩
    · cases z : σ[i]? with
      | none => rw [z] at e; cases e
      | some o => rw [z] at e; exact congrArg some e
    · have nd := List.nodup_append.mp s.nd
      have hS : ∀ a ∈ Fp[i]?.getD [], a ∈ Fp.flatten := fun a ha => mem_flat ha
      have eB : ∀ a, allB (fun a => C a ∨ a ∈ Fp[i]?.getD []) [] mu a → allB C Fp mu a := fun a z => by
        rcases z with z | z | z | z
        · exact .inl z
        · simp at z
        · exact .inr (.inr z)
        · exact .inr (.inl (hS a z))
      have t0 : (gT w.K H C Fp mu).To0 (gT w.K H (fun a => C a ∨ a ∈ Fp[i]?.getD []) [] mu) := ⟨rfl, fun a o e k => ⟨e, fun z => k (eB a z)⟩, fun _ _ e => e⟩
      have t1 : (gS w.K H C Fp mu).To0 (gT w.K H (fun a => C a ∨ a ∈ Fp[i]?.getD []) [] mu) := ⟨rfl, fun a o e k => ⟨e, fun z => k (eB a z)⟩, fun _ _ e => e⟩
      refine ⟨fun a o h _ _ => h, ⟨[], by simp, fun _ h => nomatch h⟩, ⟨rfl, Nat.le_refl _, rfl, ?_, fun a z => ?_, fun a z => ?_, fun a z => ?_, s.cl, fun k y a e1 e2 => (s.ce k y a e1 e2).to0 t0 fun _ _ _ h => h, fun i g x e => by simp at e⟩, ?_, fun a ha => .inl (hS a ha), r.to0 t1 fun _ _ _ h => h⟩
      · rw [List.flatten_nil, List.append_nil]; exact nd.1
      · rw [List.flatten_nil, List.append_nil] at z
        rintro (k | k)
        · exact s.cd a (List.mem_append_left _ z) k
        · exact nd.2.2 a z a (hS a k) rfl
      · rcases z with z | z
        · exact s.ct' a z
        · exact s.tr' a (List.mem_append_right _ (hS a z))
      · rw [List.flatten_nil, List.append_nil] at z
        exact s.tr' a (List.mem_append_left _ z)
      · cases z : Fp[i]? with
        | none => exact List.nodup_nil
        | some l => exact List.Sublist.nodup (List.sublist_flatten_of_mem (List.mem_of_getElem? z)) nd.2.1
  · exact q.elim

/-! ### if -/
theorem ps_fi {p : Expr} {c : T} {a b : List S} {sa sb : List Stmt} (hc : PT X p (TB cl w fl c)) (ha : PSs X sa (TSs cl w ret fl fn fb fc a)) (hb : PSs X sb (TSs cl w ret fl fn fb fc b)) : PS X (.If p sa sb pos) (TSt cl w ret fl fn fb fc (.ifs c a b)) := by
  refine PS.weak (ps_if hc ha hb) fun D σ H ⟨C, ρ, M, Fp, mu, s, q⟩ => ?_
  have q : OutS w ret fl fn fb fc ρ σ Fp C H mu ((evT cl c ρ M).bind fun k M => if k then execs cl a ρ M else execs cl b ρ M) D := q
  refine bindB isOutS s (inS s q) fun k M' H' mu' p q' => ?_
  have q' := q'.2
  cases k with
  | true => exact iteT ⟨C, ρ, M', Fp, mu', p.sr, q'⟩
  | false => exact iteF ⟨C, ρ, M', Fp, mu', p.sr, q'⟩
end
end Mi
end MiH_

section MiI_
set_option linter.all false
set_option Elab.async false
/-! MiI: loops. -/
namespace Mi
open PySem PySem.Spec PyProof.Rows L2

section
variable {X : Cx} {cl : Nat → List W → List W → R W} {w : Wish} {ret : Lv} {fl fn fb fc f1 inv : List Fg} {C : Addr → Prop} {ρ : Env} {M : List Mi.W} {σ : L2.St} {H : Hp} {Fp : List (List Addr)} {mu : List Addr} {D : Ends} {lv : Lv} {pos : Pos}

/-- one turn of a for -/
noncomputable def bodyF (cl : Nat → List Mi.W → List Mi.W → R Mi.W) (t : Tg) (b : List S) (w : Mi.W) (ρ : Env) (M : List Mi.W) : R (Fl × Env) := match bindT t w ρ with
  | some ρ => execs cl b ρ M
  | none => .no
theorem exec_for (t : Tg) (it : I) (b : List S) (inv : List Fg) (ρ : Env) (M : List Mi.W) : exec cl (.forr t it b inv) ρ M = (evI cl it ρ M).bind fun ws M => forL (bodyF cl t b) ws ρ M := rfl
/-- a step that leaves the slots' flags, from one heap to a greater one -/
theorem pst_item {K : PySem.W.Frag} {H' : Hp} (s : SR K C fl ρ M σ H Fp mu) (s' : SR K C fl ρ M σ H' Fp mu) (ex : ∀ a o, H a = some o → H' a = some o) : Pst K C fl ρ σ Fp H mu fl ρ M σ H' Fp mu :=
  ⟨fun a o h _ _ => ex a o h, ⟨[], by simp, fun _ h => nomatch h⟩, fun _ h => .inl h, s'.tk, fun _ _ h => ⟨h, rfl, rfl⟩, fun _ _ h => h, s'⟩
theorem pst_bind {K : PySem.W.Frag} {ρ' : Env} {σ' : L2.St} {vs : List Nat} (s' : SR K C fl ρ' M σ' H Fp mu) (o1 : Only vs σ σ') (o2 : OnlyE vs ρ ρ') (hv : ∀ i ∈ vs, fl[i]? = some .pl) : Pst K C fl ρ σ Fp H mu fl ρ' M σ' H Fp mu :=
  ⟨fun _ _ h _ _ => h, ⟨[], by simp, fun _ h => nomatch h⟩, fun _ h => .inl h, s'.tk, fun j d e => by
    have ne : j ∉ vs := fun z => by rw [hv j z] at e; cases e
    exact ⟨e, o2.2 j ne, o1.2 j ne⟩, fun _ _ e => e, s'⟩
structure TurnsF (w : Wish) (ret : Lv) (cl : Nat → List Mi.W → List Mi.W → R Mi.W) (t : Tg) (b : List S) (inv fb fc : List Fg) (ρ : Env) (σ : L2.St) (Fp : List (List Addr)) (C : Addr → Prop) (H1 : Hp) (mu1 : List Addr) (ws : List Mi.W) (D : Ends) (i : Nat) (σi : L2.St) (Hi : Hp) (ρi : Env) (Mx : List Mi.W) (Fpi : List (List Addr)) (mui : List Addr) : Prop where
  pst : Pst w.K C inv ρ σ Fp H1 mu1 inv ρi Mx σi Hi Fpi mui
  out : OutS w ret inv inv fb fc ρi σi Fpi C Hi mui (forL (bodyF cl t b) (ws.drop i) ρi Mx) D
theorem ps_fr {tg iter : Expr} {t : Tg} {it : I} {b : List S} {body : List Stmt} (hk : w.K = X.K) (hp : PassesOwn (model X.prog X.w) X.A X.env X.xe) (hc : X.calm = true) (hi : PI X tg iter (TIt true cl w fl it)) (hg : PG X tg (TGt w inv t))
    (hb : PSs X body (TSs cl w ret inv inv inv inv b)) (hl : leL fl inv = true) (hv : ∀ i ∈ t.vars, inv[i]? = some .pl) (hs : ∀ x, foldedSetIterable iter X.env x = pure x) : PS X (.For tg iter body [] pos) (TSt cl w ret fl inv fb fc (.forr t it b inv)) := by
  refine PS.weak (ps_for hp hc hi hg hb hs) fun D σ H ⟨C, ρ, M, Fp, mu, s, q⟩ => ?_
  have q : OutS w ret fl inv fb fc ρ σ Fp C H mu ((evI cl it ρ M).bind fun ws M => forL (bodyF cl t b) ws ρ M) D := q
  refine bindI isOutS s (inS s q) fun ws J M1 H1 mu1 p1 wk q1 => ?_
  have q1 := q1.2
  obtain ⟨hz, Gd, Y, wlk, gd, items⟩ := wk
  have ps := p1.sr.subP hl
  have q2 := q1.shift ps
  have toG : ∀ {i σi Hi ρi Mx Fpi mui}, TurnsF w ret cl t b inv fb fc ρ σ (dropP inv Fp) C H1 mu1 ws D i σi Hi ρi Mx Fpi mui → (gk true w.K H1 C Fp mu1).To (gk true w.K Hi C Fpi mui) := fun {i σi Hi ρi Mx Fpi mui} T => (ps.trans T.pst).toS
  refine for_it wlk (fun i σi Hi => ∃ ρi Mx Fpi mui, TurnsF w ret cl t b inv fb fc ρ σ (dropP inv Fp) C H1 mu1 ws D i σi Hi ρi Mx Fpi mui) ⟨ρ, M1, _, mu1, Pst.refl ps.sr, by rw [List.drop_zero]; exact q2⟩ ?_ ?_ ?_
  · rintro i σi Hi hi ⟨ρi, Mx, Fpi, mui, T⟩
    exact gd _ (toG T)
  · rintro i x σi Hi H' hi ⟨ρi, Mx, Fpi, mui, T⟩ y
    have sr := T.pst.sr
    obtain ⟨u, eu, s2, ru, ex⟩ := item_sr (b := true) sr (items _ i x H' (toG T) (fun b vs e => sr.tups e) hi y)
    have ed : ws.drop i = u :: ws.drop (i + 1) := by
      rw [List.drop_eq_getElem_cons hi]
      rw [List.getElem?_eq_getElem hi] at eu
      cases eu; rfl
    have out := T.out
    rw [ed] at out
    have out : OutS w ret inv inv fb fc ρi σi Fpi C Hi mui ((bodyF cl t b u ρi Mx).bind fun r M => match r with
      | (.nx, ρ) => forL (bodyF cl t b) (ws.drop (i + 1)) ρ M
      | (.ct, ρ) => forL (bodyF cl t b) (ws.drop (i + 1)) ρ M
      | (.bk, ρ) => .ok (.nx, ρ) M
      | (.rt v, ρ) => .ok (.rt v, ρ) M) D := out
    cases hbt : bindT t u ρi with
    | none =>
      have eb : bodyF cl t b u ρi Mx = .no := by unfold bodyF; rw [hbt]
      rw [eb] at out; exact out.elim
    | some ρ' =>
      have eb : bodyF cl t b u ρi Mx = execs cl b ρ' Mx := by unfold bodyF; rw [hbt]
      rw [eb] at out
      refine ⟨C, ρi, ρ', Mx, Fpi, mui, u, s2, ru, hbt, fun σ2 s3 o1 o2 => ?_⟩
      have st := (pst_item sr s2 ex).trans (pst_bind s3 o1 o2 hv)
      have out := out.shift st
      refine ⟨C, ρ', Mx, Fpi, mui, s3, ?_⟩
      show OutS w ret inv inv inv inv ρ' σ2 Fpi C H' mui (execs cl b ρ' Mx) _
      revert out
      cases execs cl b ρ' Mx with
      | no => exact id
      | ex x N => exact id
      | ok a N =>
        obtain ⟨a, ρ2⟩ := a
        cases a with
        | nx => exact fun out σ' H2 Fp' mu' p => ⟨ρ2, N, Fp', mu', (T.pst.trans st).trans p, out.shift p⟩
        | ct => exact fun out σ' H2 Fp' mu' p => ⟨ρ2, N, Fp', mu', (T.pst.trans st).trans p, out.shift p⟩
        | bk => exact fun out σ' H2 Fp' mu' p => out σ' H2 Fp' mu' p
        | rt x => exact id
  · rintro σi Hi ⟨ρi, Mx, Fpi, mui, T⟩
    have out := T.out
    rw [List.drop_length] at out
    exact out σi Hi Fpi mui (Pst.refl T.pst.sr)

/-! ### a slot lent for a loop -/
theorem set_set_self {α : Type} {l : List α} {i : Nat} {a b : α} (h : l[i]? = some a) : (l.set i b).set i a = l := by
  rw [List.set_set]
  refine List.ext_getElem? fun j => ?_
  by_cases e : i = j
  · subst e
    rw [List.getElem?_set_self (List.getElem?_eq_some_iff.mp h).1, h]
  · rw [List.getElem?_set_ne e]
theorem flat_set_nil {i : Nat} {Fp : List (List Addr)} {a : Addr} (h : a ∈ (Fp.set i []).flatten) : a ∈ Fp.flatten := by
  rcases flat_set h with z | z
  · cases z
  · exact z
theorem flat_unset {i : Nat} {Fp : List (List Addr)} {a : Addr} (h : a ∈ Fp.flatten) : a ∈ (Fp.set i []).flatten ∨ a ∈ Fp[i]?.getD [] := by
  obtain ⟨l, hl, ha⟩ := List.mem_flatten.mp h
  obtain ⟨j, hj, e⟩ := List.mem_iff_getElem.mp hl
  by_cases k : i = j
  · subst k
    rw [List.getElem?_eq_getElem hj, e]
    exact .inr ha
  · refine .inl (List.mem_flatten.mpr ⟨l, ?_, ha⟩)
    refine List.mem_of_getElem? (i := j) ?_
    rw [List.getElem?_set_ne k, List.getElem?_eq_getElem hj, e]
theorem nodup_setNil {i : Nat} {Fp : List (List Addr)} (h : Fp.flatten.Nodup) : (Fp.set i []).flatten.Nodup := nodup_set h List.nodup_nil fun _ z => nomatch z
/-- lent: its nodes are shunned -/
theorem SR.lend {K : PySem.W.Frag} (s : SR K C fl ρ M σ H Fp mu) {i d : Nat} (hf : fl[i]? = some (.ow d)) : SR K (fun a => C a ∨ a ∈ Fp[i]?.getD []) (fl.set i (.bo d)) ρ M σ H (Fp.set i []) mu := by
  have nd := List.nodup_append.mp s.nd
  have hS : ∀ a ∈ Fp[i]?.getD [], a ∈ Fp.flatten := fun a ha => mem_flat ha
  have apart : ∀ a ∈ Fp[i]?.getD [], a ∉ (Fp.set i []).flatten := fun a ha z => by
    obtain ⟨l, hl, h⟩ := List.mem_flatten.mp z
    obtain ⟨j, hj, e⟩ := List.mem_iff_getElem.mp hl
    by_cases k : i = j
    · subst k
      rw [List.getElem_set_self] at e
      rw [← e] at h; cases h
    · rw [List.getElem_set_ne k] at e
      have hj' : j < Fp.length := by simpa using hj
      exact k (flat_one nd.2.1 ha (by rw [List.getElem?_eq_getElem hj', e]; exact h))
  have eB : ∀ a, allB (fun a => C a ∨ a ∈ Fp[i]?.getD []) (Fp.set i []) mu a → allB C Fp mu a := fun a z => by
    rcases z with z | z | z | z
    · exact .inl z
    · exact .inr (.inl (flat_set_nil z))
    · exact .inr (.inr z)
    · exact .inr (.inl (hS a z))
  have t0 : (gT K H C Fp mu).To0 (gT K H (fun a => C a ∨ a ∈ Fp[i]?.getD []) (Fp.set i []) mu) := ⟨rfl, fun a o e k => ⟨e, fun z => k (eB a z)⟩, fun _ _ e => e⟩
  have t : (gS K H C Fp mu).To (gS K H (fun a => C a ∨ a ∈ Fp[i]?.getD []) (Fp.set i []) mu) := ⟨rfl, fun a o e k => ⟨e, fun z => k (eB a z)⟩, fun a o e k => ⟨e, fun z => k (z.imp id flat_set_nil)⟩, fun _ _ e => e⟩
  refine ⟨s.lr, by simpa using s.lp, by simpa using s.lf, List.nodup_append.mpr ⟨nd.1, nodup_setNil nd.2.1, fun a ha b hb e => nd.2.2 a ha b (flat_set_nil hb) e⟩, fun a h => ?_, fun a h => ?_, fun a h => s.tr' a ?_, s.cl, fun n y a e1 e2 => (s.ce n y a e1 e2).to0 t0 fun _ _ _ h => h, fun j g y hg hy => ?_⟩
  · rintro (z | z)
    · rcases List.mem_append.mp h with k | k
      · exact s.cd a (List.mem_append_left _ k) z
      · exact s.cd a (List.mem_append_right _ (flat_set_nil k)) z
    · rcases List.mem_append.mp h with k | k
      · exact nd.2.2 a k a (hS a z) rfl
      · exact apart a z k
  · rcases h with h | h
    · exact s.ct' a h
    · exact s.tr' a (List.mem_append_right _ (hS a h))
  · rw [List.mem_append] at h ⊢
    exact h.imp id flat_set_nil
  · by_cases e : i = j
    · subst e
      rw [List.getElem?_set_self (List.getElem?_eq_some_iff.mp hf).1] at hg
      cases hg
      obtain ⟨v, e, r⟩ := s.sl i _ y hf hy
      refine ⟨v, e, ?_⟩
      have r' : Own (gS K H (fun a => C a ∨ a ∈ Fp[i]?.getD []) (Fp.set i []) mu) d y v (Fp[i]?.getD []) := r.to t fun _ _ _ h => h
      refine r'.rep gS_b fun a ha z => ?_
      rcases z with z | z
      · exact nd.2.2 a z a (hS a ha) rfl
      · exact apart a ha z
    · rw [List.getElem?_set_ne e] at hg
      rw [List.getElem?_set_ne e]
      exact (s.sl j g y hg hy).to t fun _ _ _ h => h
/-- given back -/
theorem Pst.regain {K : PySem.W.Frag} {ρ' : Env} {M' : List Mi.W} {σ' : L2.St} {H' : Hp} {Fp' : List (List Addr)} {mu' : List Addr} {i d : Nat} (s : SR K C fl ρ M σ H Fp mu) (hf : fl[i]? = some (.ow d))
    (p : Pst K (fun a => C a ∨ a ∈ Fp[i]?.getD []) (fl.set i (.bo d)) ρ σ (Fp.set i []) H mu inv ρ' M' σ' H' Fp' mu') : Pst K C fl ρ σ Fp H mu (inv.set i (.ow d)) ρ' M' σ' H' (Fp'.set i (Fp[i]?.getD [])) mu' := by
  have nd := List.nodup_append.mp s.nd
  have hS : ∀ a ∈ Fp[i]?.getD [], a ∈ Fp.flatten := fun a ha => mem_flat ha
  have hil : i < fl.length := (List.getElem?_eq_some_iff.mp hf).1
  obtain ⟨l1, l2, l3⟩ := p.lo i d (by rw [List.getElem?_set_self hil])
  have live : ∀ a ∈ Fp[i]?.getD [], ∃ o, H a = some o := fun a ha => s.tr a (List.mem_append_right _ (hS a ha))
  have cS : ∀ a ∈ Fp[i]?.getD [], a ∉ mu' ∧ a ∉ Fp'.flatten := fun a ha => by
    have k := p.sr.cd a
    exact ⟨fun z => k (List.mem_append_left _ z) (.inr ha), fun z => k (List.mem_append_right _ z) (.inr ha)⟩
  have nS : (Fp[i]?.getD []).Nodup := by
    cases z : Fp[i]? with
    | none => exact List.nodup_nil
    | some l => exact List.Sublist.nodup (List.sublist_flatten_of_mem (List.mem_of_getElem? z)) nd.2.1
  have keep : ∀ a ∈ Fp[i]?.getD [], ∀ o, H a = some o → H' a = some o := fun a ha o e => p.ext a o e (fun z => nd.2.2 a z a (hS a ha) rfl) fun z => by
    obtain ⟨l, hl, h⟩ := List.mem_flatten.mp z
    obtain ⟨j, hj, e⟩ := List.mem_iff_getElem.mp hl
    by_cases k : i = j
    · subst k
      rw [List.getElem_set_self] at e
      rw [← e] at h; cases h
    · rw [List.getElem_set_ne k] at e
      have hj' : j < Fp.length := by simpa using hj
      exact k (flat_one nd.2.1 ha (by rw [List.getElem?_eq_getElem hj', e]; exact h))
  have eB : ∀ a, allB C (Fp'.set i (Fp[i]?.getD [])) mu' a → allB (fun a => C a ∨ a ∈ Fp[i]?.getD []) Fp' mu' a := fun a z => by
    rcases z with z | z | z
    · exact .inl z
    · rcases flat_set z with z | z
      · exact .inr (.inr (.inr z))
      · exact .inr (.inl z)
    · exact .inr (.inr (.inl z))
  have t0 : (gT K H' (fun a => C a ∨ a ∈ Fp[i]?.getD []) Fp' mu').To0 (gT K H' C (Fp'.set i (Fp[i]?.getD [])) mu') := ⟨rfl, fun a o e k => ⟨e, fun z => k (eB a z)⟩, fun _ _ e => e⟩
  have nd' := List.nodup_append.mp p.sr.nd
  have pS : (gS K H C Fp mu).To0 (gS K H' C (Fp'.set i (Fp[i]?.getD [])) mu') := by
    refine ⟨rfl, fun a o e k => ⟨p.ext a o e (fun z => k (.inl z)) fun z => k (.inr (.inl (flat_set_nil z))), fun z => k ?_⟩, p.toS.mu⟩
    rcases z with z | z | z
    · exact .inl (p.mur e z)
    · rcases flat_set z with z | z
      · exact .inr (.inl (hS a z))
      · exact .inr (.inl (flat_set_nil (p.far e z)))
    · exact .inr (.inr z)
  have hlen : i < ρ'.length ∨ ¬ i < ρ'.length := Decidable.em _
  have sr : SR K C (inv.set i (.ow d)) ρ' M' σ' H' (Fp'.set i (Fp[i]?.getD [])) mu' := by
    refine ⟨p.sr.lr, by simpa using p.sr.lp, by simpa using p.sr.lf, List.nodup_append.mpr ⟨nd'.1, nodup_set nd'.2.1 nS fun a ha => (cS a ha).2, fun a ha b hb e => ?_⟩, fun a h => ?_, fun a h => p.sr.ct' a (.inl h), fun a h => ?_, p.sr.cl, fun n y a e1 e2 => (p.sr.ce n y a e1 e2).to0 t0 fun _ _ _ h => h, fun j g y hg hy => ?_⟩
    · subst e
      rcases flat_set hb with z | z
      · exact (cS a z).1 ha
      · exact nd'.2.2 a ha a z rfl
    · rcases List.mem_append.mp h with z | z
      · exact fun c => p.sr.cd a (List.mem_append_left _ z) (.inl c)
      · rcases flat_set z with z | z
        · exact s.cd a (List.mem_append_right _ (hS a z))
        · exact fun c => p.sr.cd a (List.mem_append_right _ z) (.inl c)
    · rcases List.mem_append.mp h with z | z
      · exact p.sr.tr' a (List.mem_append_left _ z)
      · rcases flat_set z with z | z
        · exact p.sr.ct' a (.inr z)
        · exact p.sr.tr' a (List.mem_append_right _ z)
    · by_cases e : i = j
      · subst e
        rw [List.getElem?_set_self (List.getElem?_eq_some_iff.mp l1).1] at hg
        cases hg
        rw [l2] at hy
        obtain ⟨v, ev, r⟩ := s.sl i _ y hf hy
        refine ⟨v, by rw [l3]; exact ev, ?_⟩
        have hiF : i < Fp'.length := by
          have := p.sr.lp
          have := p.sr.lr
          have hy' : ρ'[i]? = some (some y) := by rw [l2]; exact hy
          have := (List.getElem?_eq_some_iff.mp hy').1
          omega
        rw [List.getElem?_set_self hiF]
        exact r.to0 pS fun a o ha h => keep a ha o h
      · rw [List.getElem?_set_ne e] at hg
        rw [List.getElem?_set_ne e]
        have q := p.sr.sl j g y hg hy
        have tb : (gS K H' (fun a => C a ∨ a ∈ Fp[i]?.getD []) Fp' mu').To0 (gS K H' C (Fp'.set i (Fp[i]?.getD [])) mu') := ⟨rfl, fun a o e k => ⟨e, fun z => k (eB a z)⟩, fun _ _ e => e⟩
        cases g with
        | pl => obtain ⟨v, e, r⟩ := q; exact ⟨v, e, r.to0 tb⟩
        | dd => trivial
        | ow k => obtain ⟨v, e, r⟩ := q; exact ⟨v, e, r.to0 tb fun _ _ _ h => h⟩
        | lk k => obtain ⟨v, e, r⟩ := q; exact ⟨v, e, r.to0 tb fun _ _ _ h => h⟩
        | bo k =>
          have e0 := p.lb j k hg
          rw [List.getElem?_set_ne e] at e0
          obtain ⟨_, k2, k3⟩ := p.lo j k (by rw [List.getElem?_set_ne e]; exact e0)
          rw [k2] at hy
          obtain ⟨v, ev, r⟩ := s.sl j _ y e0 hy
          refine ⟨v, by rw [k3]; exact ev, Rep.to (G := gS K H C Fp mu) (G' := gS K H' C (Fp'.set i (Fp[i]?.getD [])) mu') ⟨rfl, pS.h0, fun a o e k => ⟨p.ext a o e (fun z => k (.inl z)) fun z => k (.inr (flat_set_nil z)), fun z => k ?_⟩, pS.mu⟩ r⟩
          rcases z with z | z
          · exact .inl (p.mur e z)
          · rcases flat_set z with z | z
            · exact .inr (hS a z)
            · exact .inr (flat_set_nil (p.far e z))
  refine ⟨fun a o h k1 k2 => p.ext a o h k1 fun z => k2 (flat_set_nil z), p.pre, fun a ha => ?_, fun a h => ?_, fun j e hj => ?_, fun j e hj => ?_, sr⟩
  · rcases flat_set ha with z | z
    · exact .inl (hS a z)
    · exact (p.ff a z).imp flat_set_nil id
  · rcases h with h | h
    · exact p.tk a (.inl h)
    · rcases flat_unset (i := i) h with z | z
      · exact p.tk a (.inr z)
      · exact p.sr.ct a (.inr z)
  · have ne : i ≠ j := fun z => by subst z; rw [hf] at hj; cases hj
    obtain ⟨k1, k2, k3⟩ := p.lo j e (by rw [List.getElem?_set_ne ne]; exact hj)
    exact ⟨by rw [List.getElem?_set_ne ne]; exact k1, k2, k3⟩
  · have ne : i ≠ j := fun z => by
      subst z
      rw [List.getElem?_set_self (List.getElem?_eq_some_iff.mp l1).1] at hj; cases hj
    rw [List.getElem?_set_ne ne] at hj
    have := p.lb j e hj
    rw [List.getElem?_set_ne ne] at this
    exact this
theorem forL_nobk {f : Mi.W → Env → List Mi.W → R (Fl × Env)} : ∀ (ws : List Mi.W) (ρ : Env) (M : List Mi.W) (ρ' : Env) (M' : List Mi.W), forL f ws ρ M ≠ .ok (.bk, ρ') M' ∧ forL f ws ρ M ≠ .ok (.ct, ρ') M'
  | [], ρ, M, ρ', M' => ⟨(fun h => by cases h), (fun h => by cases h)⟩
  | u :: ws, ρ, M, ρ', M' => by
    unfold forL
    cases f u ρ M with
    | no => exact ⟨(fun h => by cases h), (fun h => by cases h)⟩
    | ex x N => exact ⟨(fun h => by cases h), (fun h => by cases h)⟩
    | ok a N =>
      obtain ⟨a, ρ2⟩ := a
      cases a with
      | nx => exact forL_nobk ws ρ2 N ρ' M'
      | ct => exact forL_nobk ws ρ2 N ρ' M'
      | bk => exact ⟨(fun h => by cases h), (fun h => by cases h)⟩
      | rt x => exact ⟨(fun h => by cases h), (fun h => by cases h)⟩
/-- a for over an owned value, which is lent meanwhile -/
theorem ps_lend {st : Stmt} {t : Tg} {it : I} {b : List S} {i d : Nat} (hf : fl[i]? = some (.ow d)) (h : PS X st (TSt cl w ret (fl.set i (.bo d)) inv fb fc (.forr t it b inv))) : PS X st (TSt cl w ret fl (inv.set i (.ow d)) fb fc (.lk i (.forr t it b inv))) := by
  refine PS.weak h fun D σ H ⟨C, ρ, M, Fp, mu, s, q⟩ => ⟨fun a => C a ∨ a ∈ Fp[i]?.getD [], ρ, M, Fp.set i [], mu, s.lend hf, ?_⟩
  have q : OutS w ret fl (inv.set i (.ow d)) fb fc ρ σ Fp C H mu ((evI cl it ρ M).bind fun ws M => forL (bodyF cl t b) ws ρ M) D := q
  show OutS w ret (fl.set i (.bo d)) inv fb fc ρ σ (Fp.set i []) (fun a => C a ∨ a ∈ Fp[i]?.getD []) H mu ((evI cl it ρ M).bind fun ws M => forL (bodyF cl t b) ws ρ M) D
  have exq : ∀ (x : Exn) (M' : List Mi.W), OutS w ret fl (inv.set i (.ow d)) fb fc ρ σ Fp C H mu (.ex x M') D → OutS w ret (fl.set i (.bo d)) inv fb fc ρ σ (Fp.set i []) (fun a => C a ∨ a ∈ Fp[i]?.getD []) H mu (.ex x M') D := fun x M' q f' ρ' σ' H' Fp' mu' p => by
    exact q (f'.set i (.ow d)) ρ' σ' H' _ mu' (Pst.regain s hf p)
  revert q
  cases evI cl it ρ M with
  | no => exact id
  | ex x M' => exact exq x M'
  | ok ws M1 =>
    intro q
    have nob := forL_nobk (f := bodyF cl t b) ws ρ M1
    have q : OutS w ret fl (inv.set i (.ow d)) fb fc ρ σ Fp C H mu (forL (bodyF cl t b) ws ρ M1) D := q
    show OutS w ret (fl.set i (.bo d)) inv fb fc ρ σ (Fp.set i []) (fun a => C a ∨ a ∈ Fp[i]?.getD []) H mu (forL (bodyF cl t b) ws ρ M1) D
    revert q nob
    cases forL (bodyF cl t b) ws ρ M1 with
    | no => exact fun _ => id
    | ex x N => exact fun _ => exq x N
    | ok a N =>
      obtain ⟨a, ρ2⟩ := a
      cases a with
      | nx => exact fun _ q σ' H' Fp' mu' p => q σ' H' _ mu' (Pst.regain s hf p)
      | bk => exact fun n => absurd rfl (n ρ2 N).1
      | ct => exact fun n => absurd rfl (n ρ2 N).2
      | rt x =>
        intro _ q v H' mu' S r
        have nd := List.nodup_append.mp s.nd
        have hS : ∀ a ∈ Fp[i]?.getD [], a ∈ Fp.flatten := fun a ha => mem_flat ha
        have eB : ∀ a, allB (fun a => C a ∨ a ∈ S) [] mu' a → allB (fun a => (C a ∨ a ∈ Fp[i]?.getD []) ∨ a ∈ S) [] mu' a := fun a z => by
          rcases z with z | z | z | z
          · exact .inl z
          · exact .inr (.inl z)
          · exact .inr (.inr (.inl (.inl z)))
          · exact .inr (.inr (.inr z))
        have t : (gT w.K H' (fun a => (C a ∨ a ∈ Fp[i]?.getD []) ∨ a ∈ S) [] mu').To (gT w.K H' (fun a => C a ∨ a ∈ S) [] mu') := ⟨rfl, fun a o e k => ⟨e, fun z => k (eB a z)⟩, fun a o e k => ⟨e, k⟩, fun _ _ e => e⟩
        refine q v H' mu' S ⟨fun a o h k1 k2 => r.ext a o h k1 fun z => k2 (flat_set_nil z), r.pre, r.sr.weak fun a z => z.imp .inl id, r.nd, fun a ha => (r.fr a ha).imp flat_set_nil id, ?_⟩
        have hv := r.val
        revert hv
        cases ret with
        | t n => exact fun hv => ⟨hv.1, hv.2.to t⟩
        | f n => exact fun hv => Own.to t hv fun _ _ _ h => h

/-! ### while -/
theorem loopN_none {α β : Type} {f : α → Option (α ⊕ β)} {n : Nat} {s : α} (h : f s = none) : loopN f (n + 1) s = none := by unfold loopN; rw [h]
theorem loopN_inl {α β : Type} {f : α → Option (α ⊕ β)} {n : Nat} {s s' : α} (h : f s = some (.inl s')) : loopN f (n + 1) s = loopN f n s' := by
  rw [loopN, h]
theorem loopN_inr {α β : Type} {f : α → Option (α ⊕ β)} {n : Nat} {s : α} {b : β} (h : f s = some (.inr b)) : loopN f (n + 1) s = some b := by unfold loopN; rw [h]
theorem exec_while (c : T) (b : List S) (inv : List Fg) (ρ : Env) (M : List Mi.W) : exec cl (.whil c b inv) ρ M = whileL (evT cl c) (fun ρ M => execs cl b ρ M) ρ M := rfl
theorem ps_wh {p : Expr} {c : T} {b : List S} {body : List Stmt} (hp : PassesOwn (model X.prog X.w) X.A X.env X.xe) (hc : PT X p (TB cl w inv c)) (hb : PSs X body (TSs cl w ret inv inv inv inv b)) (hl : leL fl inv = true) :
    PS X (.While p body [] pos) (TSt cl w ret fl inv fb fc (.whil c b inv)) := by
  refine PS.weak (ps_while hp hc hb) fun D σ H ⟨C, ρ, M, Fp, mu, s, q⟩ => ?_
  have q : OutS w ret fl inv fb fc ρ σ Fp C H mu (whileL (evT cl c) (fun ρ M => execs cl b ρ M) ρ M) D := q
  have ps := s.subP hl
  have q := q.shift ps
  unfold whileL at q
  cases hlp : loop (turn (evT cl c) fun ρ M => execs cl b ρ M) (ρ, M) with
  | none => rw [hlp] at q; exact q.elim
  | some r =>
    rw [hlp] at q
    have q : OutS w ret inv inv fb fc ρ σ (dropP inv Fp) C H mu r D := q
    obtain ⟨n, hn⟩ := loop_some hlp
    refine ⟨fun m σi Hi => ∃ (C : Addr → Prop) (ρi : Env) (Mx : List Mi.W) (Fpi : List (List Addr)) (mui : List Addr) (r : R (Fl × Env)), SR w.K C inv ρi Mx σi Hi Fpi mui ∧ loopN (turn (evT cl c) fun ρ M => execs cl b ρ M) m (ρi, Mx) = some r ∧ OutS w ret inv inv fb fc ρi σi Fpi C Hi mui r D, ⟨n, C, ρ, M, _, mu, r, ps.sr, hn, q⟩, ?_⟩
    rintro m σi Hi ⟨C, ρi, Mx, Fpi, mui, r, sr, hm, out⟩
    cases m with
    | zero => cases hm
    | succ m =>
      refine ⟨C, ρi, Mx, Fpi, mui, sr, ?_⟩
      show OutB w inv ρi σi Fpi C Hi mui (evT cl c ρi Mx) _
      cases hT : evT cl c ρi Mx with
      | no =>
        have e : turn (evT cl c) (fun ρ M => execs cl b ρ M) (ρi, Mx) = none := by simp only [turn, hT]
        rw [loopN_none e] at hm; cases hm
      | ex x N =>
        have e : turn (evT cl c) (fun ρ M => execs cl b ρ M) (ρi, Mx) = some (.inr (.ex x N)) := by simp only [turn, hT]
        rw [loopN_inr e] at hm
        cases hm
        exact fun H' mu' p cls d e => out inv ρi σi H' Fpi mu' (p.pst sr) cls d e
      | ok k N =>
        cases k with
        | false =>
          have e : turn (evT cl c) (fun ρ M => execs cl b ρ M) (ρi, Mx) = some (.inr (.ok (.nx, ρi) N)) := by simp only [turn, hT]
          rw [loopN_inr e] at hm
          cases hm
          intro H' mu' p
          exact iteF (out σi H' Fpi mu' (p.pst sr))
        | true =>
          intro H' mu' p
          have st := p.pst sr
          have out := out.shift st
          refine iteT ⟨fun σ' H2 => ∃ (C : Addr → Prop) (ρi : Env) (Mx : List Mi.W) (Fpi : List (List Addr)) (mui : List Addr) (r : R (Fl × Env)), SR w.K C inv ρi Mx σ' H2 Fpi mui ∧ loopN (turn (evT cl c) fun ρ M => execs cl b ρ M) m (ρi, Mx) = some r ∧ OutS w ret inv inv fb fc ρi σ' Fpi C H2 mui r D, fun σ' H2 z => ⟨m, Nat.lt_succ_self m, z⟩, C, ρi, N, Fpi, mu', p.sr, ?_⟩
          show OutS w ret inv inv inv inv ρi σi Fpi C H' mu' (execs cl b ρi N) _
          cases hB : execs cl b ρi N with
          | no =>
            have e : turn (evT cl c) (fun ρ M => execs cl b ρ M) (ρi, Mx) = none := by simp only [turn, hT, hB]
            rw [loopN_none e] at hm; cases hm
          | ex x N2 =>
            have e : turn (evT cl c) (fun ρ M => execs cl b ρ M) (ρi, Mx) = some (.inr (.ex x N2)) := by simp only [turn, hT, hB]
            rw [loopN_inr e] at hm; cases hm
            exact out
          | ok a N2 =>
            obtain ⟨a, ρ2⟩ := a
            cases a with
            | nx =>
              have e : turn (evT cl c) (fun ρ M => execs cl b ρ M) (ρi, Mx) = some (.inl (ρ2, N2)) := by simp only [turn, hT, hB]
              rw [loopN_inl e] at hm
              exact fun σ' H2 Fp' mu2 k => ⟨C, ρ2, N2, Fp', mu2, r, k.sr, hm, out.shift k⟩
            | ct =>
              have e : turn (evT cl c) (fun ρ M => execs cl b ρ M) (ρi, Mx) = some (.inl (ρ2, N2)) := by simp only [turn, hT, hB]
              rw [loopN_inl e] at hm
              exact fun σ' H2 Fp' mu2 k => ⟨C, ρ2, N2, Fp', mu2, r, k.sr, hm, out.shift k⟩
            | bk =>
              have e : turn (evT cl c) (fun ρ M => execs cl b ρ M) (ρi, Mx) = some (.inr (.ok (.nx, ρ2) N2)) := by simp only [turn, hT, hB]
              rw [loopN_inr e] at hm; cases hm
              exact fun σ' H2 Fp' mu2 k => out σ' H2 Fp' mu2 k
            | rt x =>
              have e : turn (evT cl c) (fun ρ M => execs cl b ρ M) (ρi, Mx) = some (.inr (.ok (.rt x, ρ2) N2)) := by simp only [turn, hT, hB]
              rw [loopN_inr e] at hm; cases hm
              exact out
end
end Mi
end MiI_

section MiJ_
set_option linter.all false
set_option Elab.async false
/-! MiJ: what changes an owned value, or a cell. -/
namespace Mi
open PySem PySem.Spec PyProof.Rows L2

section
variable {K : PySem.W.Frag} {C : Addr → Prop} {fl : List Fg} {ρ : Env} {M : List W} {σ : L2.St} {H : Hp} {Fp : List (List Addr)} {mu : List Addr}
theorem f3_flat {G : Gh} : ∀ {ws : List W} {vs : List V} {ss : List (List Addr)}, F3 (Own G 0) ws vs ss → ss.flatten = []
  | _, _, _, .nil => rfl
  | _, _, _, .cons h t => by
    unfold Own at h
    rw [List.flatten_cons, h.1, f3_flat t]; rfl
theorem f3_rep {G : Gh} {ws : List W} {vs : List V} {ss : List (List Addr)} (h : F3 (Own G 0) ws vs ss) : RepL G ws 0 vs := F3.rep (fun _ _ _ q => by unfold Own at q; exact q.2) h
theorem own1_lst {G : Gh} {ws : List W} {v : V} {S : List Addr} (h : Own G 1 (.lst ws) v S) : ∃ a vs, v = .ref a ∧ G.H a = some (.lst vs) ∧ vs.length ≤ sizeLine ∧ RepL G ws 0 vs ∧ S = [a] := by
  unfold Own at h
  obtain ⟨a, vs, Ss, e, h1, h2, h3, h4⟩ := h
  exact ⟨a, vs, e, h1, h2, f3_rep h3, by rw [h4, f3_flat h3]⟩
theorem own1_dct {G : Gh} {ws : List (Ky × W)} {v : V} {S : List Addr} (h : Own G 1 (.dct ws) v S) : ∃ a xs, v = .ref a ∧ DAt G.H a xs ∧ xs.length ≤ sizeLine ∧ RepD G ws 0 xs ∧ S = [a] := by
  unfold Own at h
  obtain ⟨a, xs, Ss, e, h1, h2, h3, h5, h4⟩ := h
  exact ⟨a, xs, e, h1, h2, RepD.of h3 (f3_rep h5), by rw [h4, f3_flat h5]⟩
/-- an owned value changed -/
theorem SR.mut (s : SR K C fl ρ M σ H Fp mu) {i : Nat} {x x' : W} {a : Addr} {o : HO} (hf : fl[i]? = some (.ow 1)) (hx : ρ[i]? = some (some x)) (hv : (σ[i]?).join = some (.ref a)) (hS : Fp[i]?.getD [] = [a])
    (hn : Own (gS K (upd H a o) C Fp mu) 1 x' (.ref a) [a]) : Pst K C fl ρ σ Fp H mu fl (ρ.set i (some x')) M σ (upd H a o) Fp mu := by
  have iF : a ∈ Fp.flatten := mem_flat (i := i) (by rw [hS]; exact List.mem_cons_self)
  have up : ∀ b o', b ≠ a → H b = some o' → upd H a o b = some o' := fun b o' n e => by rw [upd_ne n]; exact e
  have t0 : (gT K H C Fp mu).To0 (gT K (upd H a o) C Fp mu) := ⟨rfl, fun b o' e k => ⟨up b o' (fun z => k (.inr (.inl (z ▸ iF)))) e, k⟩, fun _ _ e => e⟩
  have t1 : (gS K H C Fp mu).To (gS K (upd H a o) C Fp mu) := ⟨rfl, fun b o' e k => t0.h0 b o' e k, fun b o' e k => ⟨up b o' (fun z => k (.inr (z ▸ iF))) e, k⟩, fun _ _ e => e⟩
  have all : ∀ b, (∃ o', H b = some o') → ∃ o', upd H a o b = some o' := fun b ⟨o', e⟩ => by
    by_cases z : b = a
    · exact ⟨o, by rw [z, upd_same]⟩
    · exact ⟨o', up b o' z e⟩
  have hN : NT o := by
    obtain ⟨o', e, n⟩ := hn.ntr a List.mem_cons_self
    have e : upd H a o a = some o' := e
    rw [upd_same] at e
    cases e; exact n
  have alln : ∀ b, (∃ o', H b = some o' ∧ NT o') → ∃ o', upd H a o b = some o' ∧ NT o' := fun b ⟨o', e, n⟩ => by
    by_cases z : b = a
    · exact ⟨o, by rw [z, upd_same], hN⟩
    · exact ⟨o', up b o' z e, n⟩
  have nd := List.nodup_append.mp s.nd
  have sr : SR K C fl (ρ.set i (some x')) M σ (upd H a o) Fp mu := by
    refine ⟨by simpa using s.lr, s.lp, s.lf, s.nd, s.cd, fun b h => alln b (s.ct' b h), fun b h => alln b (s.tr' b h), s.cl, fun n y b e1 e2 => (s.ce n y b e1 e2).to0 t0 fun c o' hc h => up c o' ?_ h, fun j g y hg hy => ?_⟩
    · rw [List.mem_singleton.mp hc]
      exact fun z => nd.2.2 b (List.mem_of_getElem? e2) a iF z
    · by_cases e : i = j
      · subst e
        rw [hf] at hg; cases hg
        rw [List.getElem?_set_self (List.getElem?_eq_some_iff.mp hx).1] at hy
        cases hy
        refine ⟨.ref a, hv, ?_⟩
        rw [hS]; exact hn
      · rw [List.getElem?_set_ne e] at hy
        refine (s.sl j g y hg hy).to t1 fun b o' hb h => up b o' (fun z => ?_) h
        subst z
        exact e (flat_one nd.2.1 (by rw [hS]; exact List.mem_cons_self) hb)
  refine ⟨fun b o' h _ k => up b o' (fun z => k (z ▸ iF)) h, ⟨[], by simp, fun _ h => nomatch h⟩, fun _ h => .inl h, fun b h => all b (s.tk b h), fun j d hj => ?_, fun _ _ h => h, sr⟩
  have ne : i ≠ j := fun z => by subst z; rw [hf] at hj; cases hj
  exact ⟨hj, by rw [List.getElem?_set_ne ne], rfl⟩
theorem mut_to0 {i : Nat} {a : Addr} {o : HO} (hS : Fp[i]?.getD [] = [a]) : (gS K H C Fp mu).To0 (gS K (upd H a o) C Fp mu) :=
  ⟨rfl, fun b o' e k => ⟨by
    show upd H a o b = _
    rw [upd_ne (fun z => k (.inr (.inl (by rw [z]; exact mem_flat (i := i) (by rw [hS]; exact List.mem_cons_self)))))]; exact e, k⟩, fun _ _ e => e⟩
/-- a cell's content changed -/
theorem SR.cellSet (s : SR K C fl ρ M σ H Fp mu) {n : Nat} {c : W} {b : Addr} {o : HO} (eb : mu[n]? = some b) (hn : Own (gT K (upd H b o) C Fp mu) 1 c (.ref b) [b]) : Pst K C fl ρ σ Fp H mu fl ρ (M.set n c) σ (upd H b o) Fp mu := by
  have im : b ∈ mu := List.mem_of_getElem? eb
  have up : ∀ d o', d ≠ b → H d = some o' → upd H b o d = some o' := fun d o' n e => by rw [upd_ne n]; exact e
  have t0 : (gT K H C Fp mu).To0 (gT K (upd H b o) C Fp mu) := ⟨rfl, fun d o' e k => ⟨up d o' (fun z => k (.inl (z ▸ im))) e, k⟩, fun _ _ e => e⟩
  have t1 : (gS K H C Fp mu).To (gS K (upd H b o) C Fp mu) := ⟨rfl, fun d o' e k => t0.h0 d o' e k, fun d o' e k => ⟨up d o' (fun z => k (.inl (z ▸ im))) e, k⟩, fun _ _ e => e⟩
  have all : ∀ d, (∃ o', H d = some o') → ∃ o', upd H b o d = some o' := fun d ⟨o', e⟩ => by
    by_cases z : d = b
    · exact ⟨o, by rw [z, upd_same]⟩
    · exact ⟨o', up d o' z e⟩
  have hN : NT o := by
    obtain ⟨o', e, n⟩ := hn.ntr b List.mem_cons_self
    have e : upd H b o b = some o' := e
    rw [upd_same] at e
    cases e; exact n
  have alln : ∀ d, (∃ o', H d = some o' ∧ NT o') → ∃ o', upd H b o d = some o' ∧ NT o' := fun d ⟨o', e, n⟩ => by
    by_cases z : d = b
    · exact ⟨o, by rw [z, upd_same], hN⟩
    · exact ⟨o', up d o' z e, n⟩
  have nd := List.nodup_append.mp s.nd
  have sr : SR K C fl ρ (M.set n c) σ (upd H b o) Fp mu := by
    refine ⟨s.lr, s.lp, s.lf, s.nd, s.cd, fun d h => alln d (s.ct' d h), fun d h => alln d (s.tr' d h), by simpa using s.cl, fun k y d e1 e2 => ?_, fun j g y hg hy => (s.sl j g y hg hy).to t1 fun d o' hd h => up d o' (fun z => ?_) h⟩
    · by_cases e : n = k
      · subst e
        rw [eb] at e2; cases e2
        by_cases l : n < M.length
        · rw [List.getElem?_set_self l] at e1
          cases e1
          exact hn
        · rw [List.getElem?_eq_none (by simpa using l)] at e1; cases e1
      · rw [List.getElem?_set_ne e] at e1
        refine (s.ce k y d e1 e2).to0 t0 fun c o' hc h => up c o' ?_ h
        rw [List.mem_singleton.mp hc]
        intro z
        subst z
        exact e ((List.getElem?_inj (List.getElem?_eq_some_iff.mp eb).1 nd.1).mp (eb.trans e2.symm))
    · subst z
      exact nd.2.2 d im d (mem_flat hd) rfl
  exact ⟨fun d o' h k _ => up d o' (fun z => k (z ▸ im)) h, ⟨[], by simp, fun _ h => nomatch h⟩, fun _ h => .inl h, fun d h => all d (s.tk d h), fun _ _ h => ⟨h, rfl, rfl⟩, fun _ _ h => h, sr⟩
theorem cell_to0 {n : Nat} {b : Addr} {o : HO} (eb : mu[n]? = some b) : (gT K H C Fp mu).To0 (gT K (upd H b o) C Fp mu) :=
  ⟨rfl, fun d o' e k => ⟨by
    show upd H b o d = _
    rw [upd_ne (fun z => k (.inl (by rw [z]; exact List.mem_of_getElem? eb)))]; exact e, k⟩, fun _ _ e => e⟩
end

section
variable {X : Cx} {cl : Nat → List W → List W → R W} {w : Wish} {ret : Lv} {fl fn fb fc f1 : List Fg} {C : Addr → Prop} {ρ : Env} {M : List Mi.W} {σ : L2.St} {H : Hp} {Fp : List (List Addr)} {mu : List Addr} {D : Ends} {lv : Lv} {pos : Pos}
theorem join_some {l : L2.St} {i : Nat} {v : V} (h : (l[i]?).join = some v) : l[i]? = some (some v) := by
  cases z : l[i]? with
  | none => rw [z] at h; cases h
  | some o => rw [z] at h; exact congrArg some h
theorem slot_some {ρ : Env} {i : Nat} {x : Mi.W} (h : slot ρ i = some x) : ρ[i]? = some (some x) := by
  unfold slot at h
  split at h
  · rename_i y e; cases h; exact e
  · cases h
/-- one argument -/
theorem one_arg {G : Gh} {d : Nat} {xs : List Mi.W} {vs : List V} (h : RepDs G [d] xs vs) : ∃ x v, xs = [x] ∧ vs = [v] ∧ Rep G x d v := by
  obtain ⟨h1, h2, h3⟩ := h
  match xs, vs, h1, h2 with
  | [x], [v], _, _ => exact ⟨x, v, rfl, rfl, h3 0 x v d rfl rfl rfl⟩
theorem evs_one (e : E) (ρ : Env) (M : List Mi.W) {β : Type} (g : List Mi.W → List Mi.W → R β) : (evs cl [e] ρ M).bind g = (ev cl e ρ M).bind fun x M => g [x] M := by
  show ((ev cl e ρ M).bind fun w M => (R.ok [] M).bind fun ws M => R.ok (w :: ws) M).bind g = _
  rw [R.bind_assoc]; rfl
theorem bindL1 {β : Type} {out : Hp → List Addr → R β → Prop} {e : E} {d : Nat} {g : Mi.W → List Mi.W → R β} {P : List V → Hp → Prop} (o : IsOut w fl ρ σ Fp C out) (s : SR w.K C fl ρ M σ H Fp mu) (q : out H mu ((ev cl e ρ M).bind g))
    (k : ∀ x v M' H' mu', Po w.K fl ρ σ Fp C H mu C M' H' mu' → Rep (gT w.K H' C Fp mu') x d v → out H' mu' (g x M') → P [v] H') : TL cl w fl [d] [e] σ H P := by
  have q : out H mu ((evs cl [e] ρ M).bind fun ws M => match ws with
    | [x] => g x M
    | _ => .no) := by rw [evs_one]; exact q
  refine bindL o s q fun xs vs M' H' mu' p r q' => ?_
  obtain ⟨x, v, e1, e2, r1⟩ := one_arg r
  subst e1 e2
  exact k x v M' H' mu' p r1 q'
/-- x.append(e) -/
theorem ps_app {p pe : Expr} {apos cpos : Pos} {i : Nat} {e : E} (hk : w.K = X.K) (ho : PE X p (tVar i)) (ha : PA X [pe] (TL cl w fl [0] [e])) (hf : fl[i]? = some (.ow 1)) (hs : swapsWith (.Call (.Attribute p "append" apos) [pe] [] cpos) none pos.line X.env = pure false)
    (hbase : attributeBase p "append" X.env (eval p X.env) = eval p X.env)
    (hfew : ((backTo cpos (starEach [pe] X.env)).all (fun x => !x.1) && (backToKw cpos (keywordEach [] X.env)).all (fun x => x.1.isSome) && decide (([pe] : List Expr).length + ([] : List Keyword).length + (if ([] : List Keyword).isEmpty then 0 else 1) < 30)) = true)
    (hline : (apos.endLine == cpos.line) = true) (hst : starEach [pe] X.env = (false, eval pe X.env) :: starEach [] X.env) (hpl : (backTo cpos (starEach [] X.env)).any (·.1) = false) :
    PS X (.Expr (.Call (.Attribute p "append" apos) [pe] [] cpos) pos) (TSt cl w ret fl fl fb fc (.app i e)) := by
  refine PS.weak (ps_expr (pe_bm PySem.F.plainAttrs_list PySem.F.slot_list_append PySem.F.type_list_append mt_append ho ha hbase hfew hline hst hpl) hs) fun D σ H ⟨C, ρ, M, Fp, mu, s, q⟩ => ?_
  have q : OutS w ret fl fl fb fc ρ σ Fp C H mu (match slot ρ i with
    | some (.lst ws) => (ev cl e ρ M).bind fun w M => R.of ((appW (.lst ws) w).map fun z => (Fl.nx, ρ.set i (some z))) M
    | _ => .no) D := q
  split at q
  · rename_i ws es
    have hx := slot_some es
    obtain ⟨v, ev', r⟩ := s.sl i _ _ hf hx
    obtain ⟨a, vs, e1, h1, h2, h3, h4⟩ := own1_lst r
    subst e1
    refine ⟨.ref a, join_some ev', ?_, bindL1 isOutS s (inS s q) fun x u M1 H1 mu1 p1 r1 q1 => ?_⟩
    · rw [← hk]; exact .inl ⟨rfl, vs, .inl (.inl h1)⟩
    · have q1 := q1.2
      obtain ⟨v', ev2, r'⟩ := p1.sr.sl i _ _ hf hx
      rw [ev'] at ev2
      cases ev2
      obtain ⟨a', vs', e1, h1', h2', h3', h4'⟩ := own1_lst r'
      cases e1
      have q1 : OutS w ret fl fl fb fc ρ σ Fp C H1 mu1 (R.of ((if ws.length < sizeLine then some (W.lst (ws ++ [x])) else none).map fun z => (Fl.nx, ρ.set i (some z))) M1) D := q1
      split at q1
      · rename_i hl
        have q1 : ∀ σ' H' Fp' mu', Pst w.K C fl ρ σ Fp H1 mu1 fl (ρ.set i (some (.lst (ws ++ [x])))) M1 σ' H' Fp' mu' → D.nx σ' H' := q1
        have hl' : vs'.length < sizeLine := by rw [h3'.len]; exact hl
        refine ⟨a, vs', u, rfl, rfl, h1', hl', q1 σ _ Fp mu1 (p1.sr.mut hf hx ev' h4' (own_lst (vs := vs' ++ [u]) ?_ (by rw [List.length_append]; exact hl') upd_same))⟩
        exact RepL.to0 (mut_to0 h4') (h3'.append (.cons (r1.to0 gS_gT0) .nil))
      · exact q1.elim
  · exact q.elim
/-- x.extend(e) -/
theorem ps_exn {p pe : Expr} {apos cpos : Pos} {i : Nat} {e : E} (hk : w.K = X.K) (ho : PE X p (tVar i)) (ha : PA X [pe] (TL cl w fl [1] [e])) (hf : fl[i]? = some (.ow 1)) (hs : swapsWith (.Call (.Attribute p "extend" apos) [pe] [] cpos) none pos.line X.env = pure false)
    (hbase : attributeBase p "extend" X.env (eval p X.env) = eval p X.env)
    (hfew : ((backTo cpos (starEach [pe] X.env)).all (fun x => !x.1) && (backToKw cpos (keywordEach [] X.env)).all (fun x => x.1.isSome) && decide (([pe] : List Expr).length + ([] : List Keyword).length + (if ([] : List Keyword).isEmpty then 0 else 1) < 30)) = true)
    (hline : (apos.endLine == cpos.line) = true) (hst : starEach [pe] X.env = (false, eval pe X.env) :: starEach [] X.env) (hpl : (backTo cpos (starEach [] X.env)).any (·.1) = false) :
    PS X (.Expr (.Call (.Attribute p "extend" apos) [pe] [] cpos) pos) (TSt cl w ret fl fl fb fc (.ext i e)) := by
  refine PS.weak (ps_expr (pe_bm PySem.F.plainAttrs_list PySem.F.slot_list_extend PySem.F.type_list_extend mt_extend ho ha hbase hfew hline hst hpl) hs) fun D σ H ⟨C, ρ, M, Fp, mu, s, q⟩ => ?_
  have q : OutS w ret fl fl fb fc ρ σ Fp C H mu (match slot ρ i with
    | some (.lst ws) => (ev cl e ρ M).bind fun w M => R.of ((extW (.lst ws) w).map fun z => (Fl.nx, ρ.set i (some z))) M
    | _ => .no) D := q
  split at q
  · rename_i ws es
    have hx := slot_some es
    obtain ⟨v, ev', r⟩ := s.sl i _ _ hf hx
    obtain ⟨a, vs, e1, h1, h2, h3, h4⟩ := own1_lst r
    subst e1
    refine ⟨.ref a, join_some ev', ?_, bindL1 isOutS s (inS s q) fun x u M1 H1 mu1 p1 r1 q1 => ?_⟩
    · rw [← hk]; exact .inl ⟨rfl, vs, .inl (.inl h1)⟩
    · have q1 := q1.2
      obtain ⟨v', ev2, r'⟩ := p1.sr.sl i _ _ hf hx
      rw [ev'] at ev2
      cases ev2
      obtain ⟨a', vs', e1, h1', h2', h3', h4'⟩ := own1_lst r'
      cases e1
      cases x with
      | lst us =>
        obtain ⟨b, zs, e2, g1, g2, g3⟩ := rep_lst r1
        subst e2
        have q1 : OutS w ret fl fl fb fc ρ σ Fp C H1 mu1 (R.of ((if ws.length + us.length ≤ sizeLine then some (W.lst (ws ++ us)) else none).map fun z => (Fl.nx, ρ.set i (some z))) M1) D := q1
        split at q1
        · rename_i hl
          have q1 : ∀ σ' H' Fp' mu', Pst w.K C fl ρ σ Fp H1 mu1 fl (ρ.set i (some (.lst (ws ++ us)))) M1 σ' H' Fp' mu' → D.nx σ' H' := q1
          have hl' : vs'.length + zs.length ≤ sizeLine := by rw [h3'.len, g3.len]; exact hl
          refine ⟨a, b, vs', zs, rfl, rfl, h1', g1, hl', q1 σ _ Fp mu1 (p1.sr.mut hf hx ev' h4' (own_lst (vs := vs' ++ zs) ?_ (by rw [List.length_append]; exact hl') upd_same))⟩
          exact RepL.to0 (mut_to0 h4') (h3'.append (RepL.to0 gS_gT0 g3))
        · exact q1.elim
      | _ => exact q1.elim
  · exact q.elim
/-- x.pop(e), its value dropped -/
theorem ps_pp {p pe : Expr} {apos cpos : Pos} {i : Nat} {e : E} (hk : w.K = X.K) (ho : PE X p (tVar i)) (ha : PA X [pe] (TL cl w fl [2] [e])) (hf : fl[i]? = some (.ow 1)) (hs : swapsWith (.Call (.Attribute p "pop" apos) [pe] [] cpos) none pos.line X.env = pure false)
    (hbase : attributeBase p "pop" X.env (eval p X.env) = eval p X.env)
    (hfew : ((backTo cpos (starEach [pe] X.env)).all (fun x => !x.1) && (backToKw cpos (keywordEach [] X.env)).all (fun x => x.1.isSome) && decide (([pe] : List Expr).length + ([] : List Keyword).length + (if ([] : List Keyword).isEmpty then 0 else 1) < 30)) = true)
    (hline : (apos.endLine == cpos.line) = true) (hst : starEach [pe] X.env = (false, eval pe X.env) :: starEach [] X.env) (hpl : (backTo cpos (starEach [] X.env)).any (·.1) = false) :
    PS X (.Expr (.Call (.Attribute p "pop" apos) [pe] [] cpos) pos) (TSt cl w ret fl fl fb fc (.pop i e)) := by
  refine PS.weak (ps_expr (pe_bm PySem.F.plainAttrs_list PySem.F.slot_list_pop PySem.F.type_list_pop mt_popAt ho ha hbase hfew hline hst hpl) hs) fun D σ H ⟨C, ρ, M, Fp, mu, s, q⟩ => ?_
  have q : OutS w ret fl fl fb fc ρ σ Fp C H mu (match slot ρ i with
    | some (.lst ws) => (ev cl e ρ M).bind fun w M => R.of ((popW (.lst ws) w).map fun z => (Fl.nx, ρ.set i (some z.2))) M
    | _ => .no) D := q
  split at q
  · rename_i ws es
    have hx := slot_some es
    obtain ⟨v, ev', r⟩ := s.sl i _ _ hf hx
    obtain ⟨a, vs, e1, h1, h2, h3, h4⟩ := own1_lst r
    subst e1
    refine ⟨.ref a, join_some ev', ?_, bindL1 isOutS s (inS s q) fun x u M1 H1 mu1 p1 r1 q1 => ?_⟩
    · rw [← hk]; exact .inl ⟨rfl, vs, .inl (.inl h1)⟩
    · have q1 := q1.2
      obtain ⟨v', ev2, r'⟩ := p1.sr.sl i _ _ hf hx
      rw [ev'] at ev2
      cases ev2
      obtain ⟨a', vs', e1, h1', h2', h3', h4'⟩ := own1_lst r'
      cases e1
      cases x with
      | int k =>
        have q1 : OutS w ret fl fl fb fc ρ σ Fp C H1 mu1 (R.of ((if -(2 ^ 63) ≤ k ∧ k < 2 ^ 63 then (ixN ws.length k).bind fun j => ws[j]?.map fun y => (y, W.lst (ws.eraseIdx j)) else none).map fun z => (Fl.nx, ρ.set i (some z.2))) M1) D := q1
        split at q1
        · rename_i hl
          cases ei : ixN ws.length k with
          | none => rw [ei] at q1; exact q1.elim
          | some j =>
            rw [ei] at q1
            cases ey : ws[j]? with
            | none => simp only [Option.bind_some, ey] at q1; exact q1.elim
            | some y =>
              simp only [Option.bind_some, ey] at q1
              have q1 : ∀ σ' H' Fp' mu', Pst w.K C fl ρ σ Fp H1 mu1 fl (ρ.set i (some (.lst (ws.eraseIdx j)))) M1 σ' H' Fp' mu' → D.nx σ' H' := q1
              obtain ⟨u', eu, ru⟩ := h3'.get ey
              rw [← h3'.len] at ei
              refine ⟨a, vs', k, j, u', rfl, by rw [rep_int r1], h1', hl.1, hl.2, (ixN_seq ei).1, eu, q1 σ _ Fp mu1 (p1.sr.mut hf hx ev' h4' (own_lst (vs := vs'.eraseIdx j) ?_ (Nat.le_trans (List.length_eraseIdx_le ..) h2') upd_same))⟩
              exact RepL.to0 (mut_to0 h4') (h3'.erase j)
        · exact q1.elim
      | _ => exact q1.elim
  · exact q.elim
end
end Mi
end MiJ_

section MiK_
set_option linter.all false
set_option Elab.async false
/-! MiK: x[k] = v; name op= e. -/
namespace Mi
open PySem PySem.Spec PyProof.Rows L2

section
variable {X : Cx} {cl : Nat → List W → List W → R W} {w : Wish} {ret : Lv} {fl fn fb fc f1 : List Fg} {C : Addr → Prop} {ρ : Env} {M : List Mi.W} {σ : L2.St} {H : Hp} {Fp : List (List Addr)} {mu : List Addr} {D : Ends} {lv : Lv} {pos : Pos}
def rSetA : TSet := fun o i v H Q => rSetL o i v H Q ∨ rSetDA o i v H Q
theorem set_any (hu : X.A.units + 1 < cLine) : PSet X rSetA := PSet.or set_list (set_dictA hu)
/-- a store by values: the new value at its place -/
theorem set_give {G G2 : Gh} {x q y z : Mi.W} {a : Addr} {k u : V} {Q : Hp → Prop} {n : Nat} (e : setW x q y = some z) (hx : Own G 1 x (.ref a) [a]) (hq : Rep G2 q n k) (hH : G2.H = G.H) (hy : Rep G y 0 u)
    (t : ∀ o, G.To0 { G with H := upd G.H a o }) (g : ∀ o, Own { G with H := upd G.H a o } 1 z (.ref a) [a] → Q (upd G.H a o)) : rSetA (.ref a) k u G.H Q := by
  cases x with
  | lst ws =>
    obtain ⟨a', vs, e1, h1, h2, h3, h4⟩ := own1_lst hx
    cases e1
    cases q with
    | int i =>
      have e : ((ixN ws.length i).map fun j => W.lst (ws.set j y)) = some z := e
      obtain ⟨j, ej, e⟩ := Option.map_eq_some_iff.mp e
      subst e
      refine .inl ⟨a, vs, i, j, rfl, rep_int hq, h1, by rw [h3.len]; exact ej, g _ (own_lst (G := { G with H := upd G.H a (.lst (vs.set j u)) }) (vs := vs.set j u) ?_ (by rw [List.length_set]; exact h2) upd_same)⟩
      exact RepL.to0 (t _) (h3.set j hy)
    | _ => cases e
  | dct kvs =>
    obtain ⟨a', xs, e1, h1, h2, h3, h4⟩ := own1_dct hx
    cases e1
    have e : (match q.key? with
      | some k => if (kvs.all fun p => p.1.flat == k.flat) ∧ kvs.length < sizeLine then some (W.dct (putK kvs k y)) else none
      | none => none) = some z := e
    split at e
    · rename_i ky ek
      split at e
      · rename_i hf
        cases e
        obtain ⟨kk, _⟩ := h3.keys
        have hl : xs.length = kvs.length := by
          have := congrArg List.length kk
          simpa using this.symm
        refine .inr ⟨a, xs, ky, rfl, h1, by rw [flats h3]; exact hf.1, hH ▸ key_rep hq ek, by rw [hl]; exact hf.2, fun ho hd => g ho (own_dct (G := { G with H := upd G.H a ho }) (xs := putK xs ky u) (RepD.to0 (t ho) (h3.put hy)) ?_ hd)⟩
        have : (putK xs ky u).length ≤ xs.length + 1 := by
          unfold putK
          split
          · rw [List.length_map]; omega
          · rw [List.length_append]; exact Nat.le_refl _
        have := hf.2
        omega
      · cases e
    · cases e
  | _ => cases e
theorem own1_ref {G : Gh} {x : Mi.W} {v : V} {S : List Addr} {q y z : Mi.W} (e : setW x q y = some z) (h : Own G 1 x v S) : ∃ a, v = .ref a ∧ S = [a] := by
  cases x with
  | lst ws => obtain ⟨a, vs, e1, _, _, _, h4⟩ := own1_lst h; exact ⟨a, e1, h4⟩
  | dct ws => obtain ⟨a, vs, e1, _, _, _, h4⟩ := own1_dct h; exact ⟨a, e1, h4⟩
  | _ => cases e
/-- x[k] = v, x owned -/
theorem ps_stx {p pk pv : Expr} {spos : Pos} {i : Nat} {k v : E} (hk : w.K = X.K) (hu : X.A.units + 1 < cLine) (hv : PE X pv (TR cl w fl 0 v)) (ho : PE X p (tVar i)) (hi : PE X pk (TR cl w fl 2 k)) (hf : fl[i]? = some (.ow 1))
    (ha : ∀ v, assign (.Subscript p pk spos) X.env v = (do
      let ov ← holding [v] (eval p X.env)
      let iv ← holding [v, ov] (eval pk X.env)
      standAt spos
      holding [v, ov, iv] (setItem ov iv v)
      release [v, ov, iv] []))
    (hs : swapsWithSole [.Subscript p pk spos] pv pos.line X.env = pure false) (hw : swappedStores [.Subscript p pk spos] pv X.env = pure none) (h1 : (assignEach [.Subscript p pk spos] X.env).map (·.2) = [assign (.Subscript p pk spos) X.env]) :
    PS X (.Assign [.Subscript p pk spos] pv pos) (TSt cl w ret fl fl fb fc (.stx i k v)) := by
  refine PS.weak (ps_asg hv (pg_sub ho hi (set_any hu) ha) hs hw h1) fun D σ H ⟨C, ρ, M, Fp, mu, s, q⟩ => ?_
  have q : OutS w ret fl fl fb fc ρ σ Fp C H mu ((ev cl v ρ M).bind fun y M => match slot ρ i with
    | some x => (ev cl k ρ M).bind fun q M => R.of ((setW x q y).map fun z => (Fl.nx, ρ.set i (some z))) M
    | none => .no) D := q
  refine bindR isOutS s (inS s q) fun y u M1 H1 mu1 p1 r1 q1 => ?_
  cases es : slot ρ i with
  | none => rw [es] at q1; exact q1.2.elim
  | some x =>
    rw [es] at q1
    have hx := slot_some es
    obtain ⟨vx, ev', r⟩ := p1.sr.sl i _ _ hf hx
    refine ⟨vx, join_some ev', bindR isOutS p1.sr q1 fun qk uk M2 H2 mu2 p2 r2 q2 => ?_⟩
    have q2 := q2.2
    cases ez : setW x qk y with
    | none => rw [ez] at q2; exact q2.elim
    | some z =>
      rw [ez] at q2
      have q2 : ∀ σ' H' Fp' mu', Pst w.K C fl ρ σ Fp H2 mu2 fl (ρ.set i (some z)) M2 σ' H' Fp' mu' → D.nx σ' H' := q2
      obtain ⟨v', ev2, r'⟩ := p2.sr.sl i _ _ hf hx
      rw [ev'] at ev2
      cases ev2
      obtain ⟨a, ea, hS⟩ := own1_ref ez r'
      subst ea
      rw [hS] at r'
      exact set_give (G := gS w.K H2 C Fp mu2) (G2 := gT w.K H2 C Fp mu2) ez r' r2 rfl ((r1.to p2.toT).to0 gS_gT0) (fun o => mut_to0 hS) fun o hn => q2 σ _ Fp mu2 (p2.sr.mut hf hx ev' hS hn)
/-- o[k] = v, o a cell -/
theorem ps_stc {p pk pv : Expr} {spos : Pos} {o k v : E} (hk : w.K = X.K) (hu : X.A.units + 1 < cLine) (hv : PE X pv (TR cl w fl 0 v)) (ho : PE X p (TR cl w fl 2 o)) (hi : PE X pk (TR cl w fl 2 k))
    (ha : ∀ v, assign (.Subscript p pk spos) X.env v = (do
      let ov ← holding [v] (eval p X.env)
      let iv ← holding [v, ov] (eval pk X.env)
      standAt spos
      holding [v, ov, iv] (setItem ov iv v)
      release [v, ov, iv] []))
    (hs : swapsWithSole [.Subscript p pk spos] pv pos.line X.env = pure false) (hw : swappedStores [.Subscript p pk spos] pv X.env = pure none) (h1 : (assignEach [.Subscript p pk spos] X.env).map (·.2) = [assign (.Subscript p pk spos) X.env]) :
    PS X (.Assign [.Subscript p pk spos] pv pos) (TSt cl w ret fl fl fb fc (.stc o k v)) := by
  refine PS.weak (ps_asg hv (pg_sub ho hi (set_any hu) ha) hs hw h1) fun D σ H ⟨C, ρ, M, Fp, mu, s, q⟩ => ?_
  have q : OutS w ret fl fl fb fc ρ σ Fp C H mu ((ev cl v ρ M).bind fun y M => (ev cl o ρ M).bind fun x M => (ev cl k ρ M).bind fun q M => match x with
    | .loc n => match M[n]?.bind fun c => setW c q y with
      | some c => .ok (.nx, ρ) (M.set n c)
      | none => .no
    | _ => .no) D := q
  refine bindR isOutS s (inS s q) fun y u M1 H1 mu1 p1 r1 q1 => bindR isOutS p1.sr q1 fun x ux M2 H2 mu2 p2 r2 q2 => bindR isOutS p2.sr q2 fun qk uk M3 H3 mu3 p3 r3 q3 => ?_
  have q3 := q3.2
  cases x with
  | loc n =>
    have q3 : OutS w ret fl fl fb fc ρ σ Fp C H3 mu3 (match M3[n]?.bind fun c => setW c qk y with
      | some c => .ok (.nx, ρ) (M3.set n c)
      | none => .no) D := q3
    cases ec : M3[n]? with
    | none => rw [ec] at q3; exact q3.elim
    | some c =>
      rw [ec] at q3
      have q3 : OutS w ret fl fl fb fc ρ σ Fp C H3 mu3 (match setW c qk y with
        | some c => .ok (.nx, ρ) (M3.set n c)
        | none => .no) D := q3
      cases ez : setW c qk y with
      | none => rw [ez] at q3; exact q3.elim
      | some z =>
        rw [ez] at q3
        have q3 : ∀ σ' H' Fp' mu', Pst w.K C fl ρ σ Fp H3 mu3 fl ρ (M3.set n z) σ' H' Fp' mu' → D.nx σ' H' := q3
        have r2' := r2.to p3.toT
        unfold Rep at r2'
        obtain ⟨b, eb, em⟩ := r2'
        subst eb
        have em : mu3[n]? = some b := em
        have hc := p3.sr.ce n c b ec em
        exact set_give (G := gT w.K H3 C Fp mu3) (G2 := gT w.K H3 C Fp mu3) ez hc r3 rfl ((r1.to p2.toT).to p3.toT) (fun o => cell_to0 em) fun o hn => q3 σ _ Fp mu3 (p3.sr.cellSet em hn)
  | _ => exact q3.elim

/-! ### name op= e -/
theorem PIp.or {op : Operator} {t u : TIp} (h : PIp X op t) (k : PIp X op u) : PIp X op (fun x y H Q => t x y H Q ∨ u x y H Q) := fun pins s σ H x y v z Q I rx ry q => by
  rcases q with q | q
  · exact h pins s σ H x y v z Q I rx ry q
  · exact k pins s σ H x y v z Q I rx ry q
def rPipA : TIp := fun x y H Q => (∃ i j, x = .int i ∧ y = .int j ∧ Q (.int (i + j)) H) ∨ ∃ i j, x = .str i ∧ y = .str j ∧ i.length + j.length ≤ sizeLine ∧ Q (.str (i ++ j)) H
theorem pip_add : PIp X .Add rPipA := PIp.or (t := rI0 fun i j => .int (i + j)) iop_add iop_add_str
def PipOk (t : TIp) (o : Bop) : Prop := ∀ (G : Gh) (x y z : Mi.W) (vx vy : V) (n m : Nat) (Q : VK), augW o x y = some z → Rep G x n vx → Rep G y m vy → (∀ v, Rep G z 0 v → Q v G.H) → t vx vy G.H Q
theorem pipAdd : PipOk rPipA .add := by
  intro G x y z vx vy n m Q e rx ry g
  cases x with
  | int i =>
    cases y with
    | int j =>
      cases e
      exact .inl ⟨i, j, rep_int rx, rep_int ry, g _ (by unfold Rep; rfl)⟩
    | _ => cases e
  | str i =>
    cases y with
    | str j =>
      have e : (if i.length + j.length ≤ sizeLine then some (W.str (i ++ j)) else none) = some z := e
      split at e
      · rename_i hz
        cases e
        obtain ⟨k1, k2, k3⟩ := rep_str rx
        obtain ⟨j1, j2, j3⟩ := rep_str ry
        exact .inr ⟨i, j, k1, j1, hz, g _ (by unfold Rep; exact ⟨rfl, strOk_append k2 j2, by rw [len_append]; exact hz⟩)⟩
      · cases e
    | _ => cases e
  | _ => cases e
theorem pipSub : PipOk (rI0 fun i j => .int (i - j)) .sub := by
  intro G x y z vx vy n m Q e rx ry g
  cases x with
  | int i =>
    cases y with
    | int j =>
      cases e
      exact ⟨i, j, rep_int rx, rep_int ry, g _ (by unfold Rep; rfl)⟩
    | _ => cases e
  | _ => cases e
theorem pipMul : PipOk (rI CMul fun i j => .int (i * j)) .mul := by
  intro G x y z vx vy n m Q e rx ry g
  cases x with
  | int i =>
    cases y with
    | int j =>
      have e : (if mulOk i j then some (W.int (i * j)) else none) = some z := e
      split at e
      · rename_i hz
        cases e
        exact ⟨i, j, rep_int rx, rep_int ry, hz, g _ (by unfold Rep; rfl)⟩
      · cases e
    | _ => cases e
  | _ => cases e
theorem ps_ag {st : Stmt} {e : E} {i : Nat} {o : Bop} {t : TIp} (h : PS X st (tAug i (TR cl w fl 2 e) t)) (hp : PipOk t o) (hf : fl[i]? = some .pl) : PS X st (TSt cl w ret fl fl fb fc (.aug i o e)) := by
  refine PS.weak h fun D σ H ⟨C, ρ, M, Fp, mu, s, q⟩ => ?_
  have q : OutS w ret fl fl fb fc ρ σ Fp C H mu (match slot ρ i with
    | some x => (ev cl e ρ M).bind fun y M => R.of ((augW o x y).map fun z => (Fl.nx, ρ.set i (some z))) M
    | none => .no) D := q
  cases es : slot ρ i with
  | none => rw [es] at q; exact q.elim
  | some x =>
    rw [es] at q
    have hx := slot_some es
    obtain ⟨v, ev', r⟩ := s.sl i _ _ hf hx
    refine ⟨v, join_some ev', bindR isOutS s (inS s q) fun y u M1 H1 mu1 p1 r1 q1 => ?_⟩
    have q1 := q1.2
    cases ez : augW o x y with
    | none => rw [ez] at q1; exact q1.elim
    | some z =>
      rw [ez] at q1
      have q1 : ∀ σ' H' Fp' mu', Pst w.K C fl ρ σ Fp H1 mu1 fl (ρ.set i (some z)) M1 σ' H' Fp' mu' → D.nx σ' H' := q1
      obtain ⟨v', ev2, r'⟩ := p1.sr.sl i _ _ hf hx
      rw [ev'] at ev2
      cases ev2
      refine hp (gT w.K H1 C Fp mu1) x y z v u 0 2 _ ez (r'.to0 gS_gT.to0) r1 fun v hz => q1 _ H1 Fp mu1 ⟨fun _ _ h _ _ => h, ⟨[], by simp, fun _ h => nomatch h⟩, fun _ h => .inl h, p1.sr.tk, fun j d hj => ?_, fun _ _ h => h, p1.sr.setPl (List.getElem?_eq_some_iff.mp hx).1 hf hz⟩
      have ne : i ≠ j := fun z => by subst z; rw [hf] at hj; cases hj
      exact ⟨hj, by rw [List.getElem?_set_ne ne], by rw [List.getElem?_set_ne ne]⟩
end
end Mi
end MiK_

section MiT_
set_option linter.all false
set_option Elab.async false
/-! MiT: further rules: isinstance, a module's ints, x[::-1], what is never reached, a, b = x, y, x[k] op= e. -/
namespace Mi
open PySem PySem.Spec PyProof.Rows L2

section
variable {X : Cx} {cl : Nat → List W → List W → R W} {w : Wish} {fl : List Fg} {C : Addr → Prop} {ρ : Env} {M : List Mi.W} {σ : L2.St} {H : Hp} {Fp : List (List Addr)} {mu : List Addr} {Q : VK} {lv : Lv}
/-- isinstance(e, t) -/
theorem pe_isi2 {p pt : Expr} {pp pos : Pos} {a : E} {t : Ty} (hk : w.K = X.K) (ha : PE X p (TR cl w fl 2 a)) (hT : PE X pt (tC (.ty t.name))) (hg : Gl X "isinstance") (hm : X.mg "isinstance" = none)
    (he : starEach [p, pt] X.env = (false, eval p X.env) :: starEach [pt] X.env) (he2 : starEach [pt] X.env = (false, eval pt X.env) :: starEach [] X.env) (hpl : (backTo pos (starEach [pt] X.env)).any (·.1) = false) :
    PE X (.Call (.Name "isinstance" pp) [p, pt] [] pos) (TV cl w fl (.f 2) (.isi t a)) := by
  refine PE.weak (pe_isi hk ha hT hg hm he he2 hpl) fun σ H Q ⟨C, ρ, M, Fp, mu, s, q⟩ => ⟨C, ρ, M, Fp, mu, s, ?_⟩
  have q : OutV w fl (.f 2) ρ σ Fp C H mu ((ev cl a ρ M).bind fun x M => R.of (isiW t [x]) M) Q := q
  show OutV w fl (.f 2) ρ σ Fp C H mu ((evs cl [a] ρ M).bind fun ws M => R.of (biW (.isi t) ws) M) Q
  rw [evs_one]
  exact q
/-- a whole number of the module's -/
theorem pe_gi {x : Str} {n : Int} {pos : Pos} (hg : Gl X x) (hm : ∃ t, X.mg x = some (.int n t)) (hd : (x == ("__debug__" : Str)) = false) : PE X (.Name x pos) (TV cl w fl (.f 2) (.gint x n)) := by
  obtain ⟨t, hm⟩ := hm
  exact pe_cn (v := .int n) (x := .int n) (pe_glob hg hm ⟨t, rfl⟩ hd) (fun _ _ => rfl) (fun _ h => nomatch h) (fun _ h => nomatch h) fun G => by unfold Rep; rfl
theorem RepL.rev {G : Gh} {d : Nat} : ∀ {ws : List Mi.W} {vs : List V}, RepL G ws d vs → RepL G ws.reverse d vs.reverse
  | [], vs, h => by unfold RepL at h; subst h; exact .nil
  | y :: ws, vs, h => by
    unfold RepL at h
    obtain ⟨v, r, e, h1, h2⟩ := h
    subst e
    rw [List.reverse_cons, List.reverse_cons]
    exact h2.rev.append (.cons h1 .nil)
/-- e[::-1], e a list -/
theorem pe_rv {p : Expr} {a : E} {k : Nat} {p1 p2 p3 pos : Pos} (hk : w.K = X.K) (ha : PE X p (TR cl w fl 1 a)) : PE X (.Subscript p (.Slice none none (some (.UnaryOp .USub (.Constant (.int 1) k p1) p2)) p3) pos) (TV cl w fl (.f 1) (.rev a)) := by
  refine PE.weak (pe_revL ha) fun σ H Q ⟨C, ρ, M, Fp, mu, s, q⟩ => ?_
  have q : OutV w fl (.f 1) ρ σ Fp C H mu ((ev cl a ρ M).bind fun x M => R.of (revW x) M) Q := q
  refine bindR isOutV s q fun x v M1 H1 mu1 p1 r1 q1 => ?_
  obtain ⟨z, ez, g⟩ := q1.give
  cases x with
  | lst ws =>
    cases ez
    obtain ⟨b, vs, e1, h1, h2, h3⟩ := rep_lst r1
    subst e1
    rw [← hk]
    exact ⟨b, vs, rfl, .inl (.inl h1), fun l hl => g.lst p1.sr h3.rev (by rw [List.length_reverse]; exact h2) hl⟩
  | _ => cases ez
end

section
variable {X : Cx} {cl : Nat → List W → List W → R W} {w : Wish} {ret : Lv} {fl fn fb fc f1 : List Fg} {C : Addr → Prop} {ρ : Env} {M : List Mi.W} {σ : L2.St} {H : Hp} {Fp : List (List Addr)} {mu : List Addr} {D : Ends} {lv : Lv} {pos : Pos}
theorem ps_nev {st : Stmt} : PS X st (TSt cl w ret fl fn fb fc .never) := PS.weak (ps_never) fun D σ H ⟨C, ρ, M, Fp, mu, s, q⟩ => by
  have q : OutS w ret fl fn fb fc ρ σ Fp C H mu .no D := q
  exact q.elim
/-! ### a, b = x, y -/
theorem two_args {G : Gh} {xs : List Mi.W} {vs : List V} (h : RepDs G [0, 0] xs vs) : ∃ x v y u, xs = [x, y] ∧ vs = [v, u] ∧ Rep G x 0 v ∧ Rep G y 0 u := by
  obtain ⟨h1, h2, h3⟩ := h
  match xs, vs, h1, h2 with
  | [x, y], [v, u], _, _ => exact ⟨x, v, y, u, rfl, rfl, h3 0 x v 0 rfl rfl rfl, h3 1 y u 0 rfl rfl rfl⟩
theorem three_args {G : Gh} {xs : List Mi.W} {vs : List V} (h : RepDs G [0, 0, 0] xs vs) : ∃ x v y u z t, xs = [x, y, z] ∧ vs = [v, u, t] ∧ Rep G x 0 v ∧ Rep G y 0 u ∧ Rep G z 0 t := by
  obtain ⟨h1, h2, h3⟩ := h
  match xs, vs, h1, h2 with
  | [x, y, z], [v, u, t], _, _ => exact ⟨x, v, y, u, z, t, rfl, rfl, h3 0 x v 0 rfl rfl rfl, h3 1 y u 0 rfl rfl rfl, h3 2 z t 0 rfl rfl rfl⟩
theorem set_pst {i : Nat} {x : Mi.W} {v : V} (s : SR w.K C fl ρ M σ H Fp mu) (hi : i < ρ.length) (hb : ∀ d, fl[i]? ≠ some (.bo d)) (r : Rep (gT w.K H C Fp mu) x 0 v) : Pst w.K C fl ρ σ Fp H mu (fl.set i .pl) (ρ.set i (some x)) M (σ.set i (some v)) H Fp mu :=
  ⟨fun _ _ h _ _ => h, ⟨[], by simp, fun _ h => nomatch h⟩, fun _ h => .inl h, s.tk, fun j d e => by
    have ne : i ≠ j := fun z => hb d (z ▸ e)
    exact ⟨by rw [List.getElem?_set_ne ne]; exact e, by rw [List.getElem?_set_ne ne], by rw [List.getElem?_set_ne ne]⟩, fun j d e => bo_set (by intro z; cases z) e, s.setPl2 hi r⟩
theorem set_nbo {i j : Nat} (h : ∀ d, fl[j]? ≠ some (.bo d)) : ∀ d, (fl.set i .pl)[j]? ≠ some (.bo d) := fun d e => h d (bo_set (by intro z; cases z) e)
theorem ps_pr2 {st : Stmt} {es : List E} {i j : Nat} (h : PS X st (tPar i j (TL cl w fl [0, 0] es))) (hi : ∀ d, fl[i]? ≠ some (.bo d)) (hj : ∀ d, fl[j]? ≠ some (.bo d)) :
    PS X st (TSt cl w ret fl ((fl.set i .pl).set j .pl) fb fc (.par [i, j] es)) := by
  refine PS.weak h fun D σ H ⟨C, ρ, M, Fp, mu, s, q⟩ => ?_
  have q : OutS w ret fl ((fl.set i .pl).set j .pl) fb fc ρ σ Fp C H mu ((evs cl es ρ M).bind fun ws M => if ws.length = [i, j].length ∧ ([i, j].all fun i => decide (i < ρ.length)) = true then .ok (.nx, setAll ρ [i, j] ws) M else .no) D := q
  refine bindL isOutS s (inS s q) fun xs vs M' H' mu' p r q' => ?_
  obtain ⟨x, v, y, u, e1, e2, r1, r2⟩ := two_args r
  subst e1 e2
  have q' := q'.2
  split at q'
  · rename_i hc
    simp only [List.all_cons, List.all_nil, Bool.and_true, Bool.and_eq_true, decide_eq_true_eq] at hc
    have q' : ∀ σ' H2 Fp' mu2, Pst w.K C fl ρ σ Fp H' mu' ((fl.set i .pl).set j .pl) ((ρ.set i (some x)).set j (some y)) M' σ' H2 Fp' mu2 → D.nx σ' H2 := q'
    have p1 := set_pst p.sr hc.2.1 hi r1
    have p2 := set_pst p1.sr (i := j) (by rw [List.length_set]; exact hc.2.2) (set_nbo hj) r2
    exact ⟨v, u, rfl, q' _ H' Fp mu' (p1.trans p2)⟩
  · exact q'.elim
theorem ps_pr3 {st : Stmt} {es : List E} {i j l : Nat} (h : PS X st (tPar3 i j l (TL cl w fl [0, 0, 0] es))) (hi : ∀ d, fl[i]? ≠ some (.bo d)) (hj : ∀ d, fl[j]? ≠ some (.bo d)) (hl : ∀ d, fl[l]? ≠ some (.bo d)) :
    PS X st (TSt cl w ret fl (((fl.set i .pl).set j .pl).set l .pl) fb fc (.par [i, j, l] es)) := by
  refine PS.weak h fun D σ H ⟨C, ρ, M, Fp, mu, s, q⟩ => ?_
  have q : OutS w ret fl (((fl.set i .pl).set j .pl).set l .pl) fb fc ρ σ Fp C H mu ((evs cl es ρ M).bind fun ws M => if ws.length = [i, j, l].length ∧ ([i, j, l].all fun i => decide (i < ρ.length)) = true then .ok (.nx, setAll ρ [i, j, l] ws) M else .no) D := q
  refine bindL isOutS s (inS s q) fun xs vs M' H' mu' p r q' => ?_
  obtain ⟨x, v, y, u, z, t, e1, e2, r1, r2, r3⟩ := three_args r
  subst e1 e2
  have q' := q'.2
  split at q'
  · rename_i hc
    simp only [List.all_cons, List.all_nil, Bool.and_true, Bool.and_eq_true, decide_eq_true_eq] at hc
    have q' : ∀ σ' H2 Fp' mu2, Pst w.K C fl ρ σ Fp H' mu' (((fl.set i .pl).set j .pl).set l .pl) (((ρ.set i (some x)).set j (some y)).set l (some z)) M' σ' H2 Fp' mu2 → D.nx σ' H2 := q'
    have p1 := set_pst p.sr hc.2.1 hi r1
    have p2 := set_pst p1.sr (i := j) (by rw [List.length_set]; exact hc.2.2.1) (set_nbo hj) r2
    have p3 := set_pst p2.sr (i := l) (by rw [List.length_set, List.length_set]; exact hc.2.2.2) (set_nbo (set_nbo hl)) r3
    exact ⟨v, u, t, rfl, q' _ H' Fp mu' ((p1.trans p2).trans p3)⟩
  · exact q'.elim
/-- x[j], x[k] = u, v, x owned -/
theorem ps_swp {p1 pk1 p2 pk2 pv : Expr} {kt : Nat} {sp1 sp2 tp : Pos} {i : Nat} {k1 k2 v1 v2 : E} (hk : w.K = X.K) (hc : X.calm = true) (hu : X.A.units + 1 < cLine) (hv : PE X pv (TR cl w fl 0 (.tup [v1, v2]))) (ho1 : PE X p1 (tVar i)) (hi1 : PE X pk1 (TR cl w fl 2 k1)) (ho2 : PE X p2 (tVar i)) (hi2 : PE X pk2 (TR cl w fl 2 k2)) (hf : fl[i]? = some (.ow 1))
    (ha1 : ∀ v, assign (.Subscript p1 pk1 sp1) X.env v = (do
      let ov ← holding [v] (eval p1 X.env)
      let iv ← holding [v, ov] (eval pk1 X.env)
      standAt sp1
      holding [v, ov, iv] (setItem ov iv v)
      release [v, ov, iv] []))
    (ha2 : ∀ v, assign (.Subscript p2 pk2 sp2) X.env v = (do
      let ov ← holding [v] (eval p2 X.env)
      let iv ← holding [v, ov] (eval pk2 X.env)
      standAt sp2
      holding [v, ov, iv] (setItem ov iv v)
      release [v, ov, iv] []))
    (hs : swapsWithSole [.Tuple [.Subscript p1 pk1 sp1, .Subscript p2 pk2 sp2] kt tp] pv pos.line X.env = pure false) (hw : swappedStores [.Tuple [.Subscript p1 pk1 sp1, .Subscript p2 pk2 sp2] kt tp] pv X.env = pure none) :
    PS X (.Assign [.Tuple [.Subscript p1 pk1 sp1, .Subscript p2 pk2 sp2] kt tp] pv pos) (TSt cl w ret fl fl fb fc (.swp i k1 k2 v1 v2)) := by
  refine PS.weak (ps_asg hv (pg_tup (n := 2) hc (pgs_cons (pg_sub ho1 hi1 (set_any hu) ha1) (pgs_cons (pg_sub ho2 hi2 (set_any hu) ha2) pgs_nil))) hs hw) fun D σ H ⟨C, ρ, M, Fp, mu, s, q⟩ => ?_
  have q : OutS w ret fl fl fb fc ρ σ Fp C H mu ((ev cl (.tup [v1, v2]) ρ M).bind fun t M => match t with
    | .tup [x, y] => match slot ρ i with
      | some c => (ev cl k1 ρ M).bind fun q M => match setW c q x with
        | some c' => (ev cl k2 (ρ.set i (some c')) M).bind fun q2 M => R.of ((setW c' q2 y).map fun z => (Fl.nx, ρ.set i (some z))) M
        | none => .no
      | none => .no
    | _ => .no) D := q
  refine bindR isOutS s (inS s q) fun t ut M1 H1 mu1 p1 r1 q1 => ?_
  match t, r1, q1 with
  | .tup [x, y], r1, q1 =>
    obtain ⟨at_, vs, e0, h1, _, h3⟩ := rep_tup r1
    unfold RepL at h3
    obtain ⟨u1, r, e1, rx, h3⟩ := h3
    unfold RepL at h3
    obtain ⟨u2, r', e2, ry, h3⟩ := h3
    unfold RepL at h3
    subst e0 e1 e2 h3
    refine ⟨at_, [u1, u2], rfl, .inl (.inl h1), rfl, u1, [u2], rfl, ?_⟩
    cases es : slot ρ i with
    | none => rw [es] at q1; exact q1.2.elim
    | some c =>
      rw [es] at q1
      have hx := slot_some es
      obtain ⟨vx, ev', r⟩ := p1.sr.sl i _ _ hf hx
      refine ⟨vx, join_some ev', bindR isOutS p1.sr q1 fun qk uk M2 H2 mu2 p2 r2 q2 => ?_⟩
      cases ez : setW c qk x with
      | none => rw [ez] at q2; exact q2.2.elim
      | some c' =>
        rw [ez] at q2
        obtain ⟨v', ev2, r'⟩ := p2.sr.sl i _ _ hf hx
        rw [ev'] at ev2
        cases ev2
        obtain ⟨a, ea, hS⟩ := own1_ref ez r'
        subst ea
        rw [hS] at r'
        refine set_give (G := gS w.K H2 C Fp mu2) (G2 := gT w.K H2 C Fp mu2) ez r' r2 rfl ((rx.to p2.toT).to0 gS_gT0) (fun o => mut_to0 hS) fun o hn => ?_
        have st := p2.sr.mut hf hx ev' hS hn
        have hx2 : (ρ.set i (some c'))[i]? = some (some c') := List.getElem?_set_self (List.getElem?_eq_some_iff.mp hx).1
        refine ⟨u2, [], rfl, .ref a, join_some ev', bindR isOutS st.sr (inS st.sr (OutS.shift st q2.2)) fun qk2 uk2 M3 H3 mu3 p3 r3 q3 => ?_⟩
        have q3 := q3.2
        cases ez2 : setW c' qk2 y with
        | none => rw [ez2] at q3; exact q3.elim
        | some z =>
          rw [ez2] at q3
          have q3 : ∀ σ' H' Fp' mu', Pst w.K C fl (ρ.set i (some c')) σ Fp H3 mu3 fl (ρ.set i (some z)) M3 σ' H' Fp' mu' → D.nx σ' H' := q3
          obtain ⟨v3, ev3, r4⟩ := p3.sr.sl i _ _ hf hx2
          rw [ev'] at ev3
          cases ev3
          rw [hS] at r4
          have ry2 : Rep (gS w.K (upd H2 a o) C Fp mu2) y 0 u2 := ((ry.to p2.toT).to0 gS_gT0).to0 (mut_to0 hS)
          have ry3 : Rep (gS w.K H3 C Fp mu3) y 0 u2 := ((Rep.to0 (G := gS w.K (upd H2 a o) C Fp mu2) (G' := gT w.K (upd H2 a o) C Fp mu2) ⟨rfl, fun _ _ e k => ⟨e, k⟩, fun _ _ e => e⟩ ry2).to p3.toT).to0 gS_gT0
          refine set_give (G := gS w.K H3 C Fp mu3) (G2 := gT w.K H3 C Fp mu3) ez2 r4 r3 rfl ry3 (fun o => mut_to0 hS) fun o2 hn2 => ⟨rfl, q3 σ _ Fp mu3 ?_⟩
          have st2 := p3.sr.mut hf hx2 ev' hS hn2
          rw [List.set_set] at st2
          exact st2
  | .tup [], _, q1 => exact q1.2.elim
  | .tup [_], _, q1 => exact q1.2.elim
  | .tup (_ :: _ :: _ :: _), _, q1 => exact q1.2.elim
  | .non, _, q1 => exact q1.2.elim
  | .bl _, _, q1 => exact q1.2.elim
  | .int _, _, q1 => exact q1.2.elim
  | .str _, _, q1 => exact q1.2.elim
  | .lst _, _, q1 => exact q1.2.elim
  | .dct _, _, q1 => exact q1.2.elim
  | .frz _, _, q1 => exact q1.2.elim
  | .loc _, _, q1 => exact q1.2.elim
end

/-! ### x.index(y, k), x.index(y) of a tuple -/
section
variable {X : Cx} {cl : Nat → List W → List W → R W} {w : Wish} {fl : List Fg} {C : Addr → Prop} {ρ : Env} {M : List Mi.W} {σ : L2.St} {H : Hp} {Fp : List (List Addr)} {mu : List Addr} {Q : VK} {lv : Lv}
/-- found at j, not ahead of it from k on -/
def fndV (ys : List V) (y : V) (k j : Nat) : Prop := flatV y = true ∧ ys.all flatV = true ∧ k ≤ j ∧ (∃ z, ys[j]? = some z ∧ eqV z y = true) ∧ ∀ (m : Nat) (z' : V), k ≤ m → m < j → ys[m]? = some z' → eqV z' y = false
def eqN (y : V) (us : Array Value) (m : Nat) : Bool := match us[m]? with
  | some u => eqU y u
  | none => false
theorem eqN_at {A : Around} {s : Shared} {ys : List V} {its : List Value} {y : V} {u : Value} (rv : Vals ys its) (ry : RelV y u) (fy : flatV y = true) (fys : ys.all flatV = true) (j : Nat) (hj : j < its.toArray.size) : SeqAt.EqAt A s its.toArray[j] u (eqN y its.toArray j) := by
  unfold eqN
  rw [Array.getElem?_eq_getElem hj]
  exact mem_eqAt ry fy rv fys _ (by simp)
theorem eqN_of {ys : List V} {its : List Value} {y : V} (rv : Vals ys its) (fys : ys.all flatV = true) {m : Nat} {z : V} (h : ys[m]? = some z) : eqN y its.toArray m = eqV z y := by
  obtain ⟨u, hu, ru⟩ := rv.get h
  unfold eqN
  rw [show its.toArray[m]? = some u by rw [List.getElem?_toArray]; exact hu]
  exact eqU_of ru (flat_at fys h)
def rIndex3 (K : PySem.W.Frag) : V → List V → Hp → VK → Prop := fun x xs H Q => ∃ (a : Addr) (ys : List V) (y : V) (k j : Nat), x = V.ref a ∧ xs = [y, .int k] ∧ SqL K H a ys ∧ fndV ys y k j ∧ Q (.int (j : Nat)) H
theorem mt_index3 : MtR X "list.index" (rIndex3 X.K) := by
  intro pins s σ H x xs v us Q I rx rxs h
  obtain ⟨a, ys, y, k, j, rfl, rfl, hs, ⟨fy, fys, hkj, ⟨z, hz, hzj⟩, hno⟩, q⟩ := h
  cases rx
  obtain ⟨uy, uk, rfl, ry, rk⟩ := vals2 rxs
  obtain ⟨t, rfl⟩ := rk
  obtain ⟨its, rv, ⟨⟨cls, dd, data, sl⟩, n, ho, hc, hdn, hd⟩, hlen⟩ := I.list hs
  simp only at hc hd
  subst hc hd
  have hvl := rv.length
  have hj : j < its.toArray.size := by
    have := (List.getElem?_eq_some_iff.mp hz).1
    simp; omega
  have hsl := sizeLine_eq
  have hsf : SeqAt.searchFrom (k : Int) its.toArray.size = k := by rw [SeqAt.searchFrom_nonneg (by omega)]; simp
  refine call_meets PySem.F.slot_list_index ⟨_, ho, rfl⟩ PySem.F.entry_list_index (PySem.F.args_list_index_3 _ _ _)
    (SeqAt.list_index3_found a its.toArray n dd sl uy (eqN y its.toArray) (k : Int) t j hj (by rw [hsf]; exact hkj) (by simp at hj; omega) ?_ ?_) ⟨ho, fun i hi => eqN_at rv ry fy fys i hi, ?_⟩
  · rw [eqN_of rv fys hz]; exact hzj
  · intro m hm h1 h2
    rw [hsf] at h1
    have hmy : m < ys.length := by simp at hm; omega
    have hy' : ys[m]? = some ys[m] := List.getElem?_eq_getElem hmy
    rw [eqN_of rv fys hy']
    exact hno m _ h1 h2 hy'
  · exact ⟨.int (j : Nat), H, I.tok _, ⟨_, rfl⟩, q⟩
/-- .. of a tuple -/
def rIndexT (K : PySem.W.Frag) : V → List V → Hp → VK → Prop := fun x xs H Q => ∃ (a : Addr) (ys : List V) (y : V) (j : Nat), x = V.ref a ∧ xs = [y] ∧ H a = some (.tup ys) ∧ fndV ys y 0 j ∧ Q (.int (j : Nat)) H
theorem mt_indexT : MtR X "tuple.index" (rIndexT X.K) := by
  intro pins s σ H x xs v us Q I rx rxs h
  obtain ⟨a, ys, y, j, rfl, rfl, hs, ⟨fy, fys, hkj, ⟨z, hz, hzj⟩, hno⟩, q⟩ := h
  cases rx
  cases rxs with
  | cons ry rt =>
    rename_i uy ut
    cases rt
    obtain ⟨hlen, its, rv, ⟨cls, dd, data, sl⟩, ho, hc, n, hd⟩ := (show ObjOk X.prog X.w H s.heap a (.tup ys) from I.hok a _ hs)
    simp only at hc hd
    subst hc hd
    have hvl := rv.length
    have hj : j < its.toArray.size := by
      have := (List.getElem?_eq_some_iff.mp hz).1
      simp; omega
    refine call_meets PySem.F.slot_tuple_index ⟨_, ho, rfl⟩ PySem.F.entry_tuple_index (PySem.F.args_tuple_index_2 _ _)
      (SeqAt.tuple_index2_found a its.toArray n dd sl uy (eqN y its.toArray) j hj (Nat.zero_le _) hj ?_ ?_) ⟨ho, fun i hi => eqN_at rv ry fy fys i hi, ?_⟩
    · rw [eqN_of rv fys hz]; exact hzj
    · intro m hm h1 h2
      have hmy : m < ys.length := by simp at hm; omega
      have hy' : ys[m]? = some ys[m] := List.getElem?_eq_getElem hmy
      rw [eqN_of rv fys hy']
      exact hno m _ h1 h2 hy'
    · exact ⟨.int (j : Nat), H, I.tok _, ⟨_, rfl⟩, q⟩
theorem findIx_drop {ws : List Mi.W} {y : Mi.W} {k n : Nat} (h : findIx (ws.drop k) y = some n) : (∃ z, ws[k + n]? = some z ∧ weq z y = true) ∧ ∀ (m : Nat) (z' : Mi.W), k ≤ m → m < k + n → ws[m]? = some z' → weq z' y = false := by
  obtain ⟨⟨z, h1, h2⟩, h3⟩ := findIx_spec _ _ _ h
  refine ⟨⟨z, by rw [List.getElem?_drop] at h1; exact h1, h2⟩, fun m z' a b c => ?_⟩
  refine h3 (m - k) z' (by omega) ?_
  rw [List.getElem?_drop, show k + (m - k) = m by omega]
  exact c
theorem pe_ixf {p p2 p3 : Expr} {apos cpos : Pos} {a b c : E} (hk : w.K = X.K) (ha : PE X p (TR cl w fl 1 a)) (hb : PE X p2 (TR cl w fl 2 b)) (hc : PE X p3 (TR cl w fl 2 c))
    (hbase : attributeBase p "index" X.env (eval p X.env) = eval p X.env)
    (hfew : ((backTo cpos (starEach [p2, p3] X.env)).all (fun x => !x.1) && (backToKw cpos (keywordEach [] X.env)).all (fun x => x.1.isSome) && decide (([p2, p3] : List Expr).length + ([] : List Keyword).length + (if ([] : List Keyword).isEmpty then 0 else 1) < 30)) = true)
    (hline : (apos.endLine == cpos.line) = true) (hs : starEach [p2, p3] X.env = (false, eval p2 X.env) :: starEach [p3] X.env) (hs2 : starEach [p3] X.env = (false, eval p3 X.env) :: starEach [] X.env) (hpl : (backTo cpos (starEach [p3] X.env)).any (·.1) = false) :
    PE X (.Call (.Attribute p "index" apos) [p2, p3] [] cpos) (TV cl w fl (.f 2) (.ixf a b c)) := by
  refine PE.weak (pe_bm PySem.F.plainAttrs_list PySem.F.slot_list_index PySem.F.type_list_index mt_index3 ha (pa_cons hb (pa_cons hc pa_nil hs2) hs) hbase hfew hline hs hpl) fun σ H Q ⟨C, ρ, M, Fp, mu, s, q⟩ => ?_
  have q : OutV w fl (.f 2) ρ σ Fp C H mu ((ev cl a ρ M).bind fun x M => if recv .index x then (ev cl b ρ M).bind fun y M => (ev cl c ρ M).bind fun z M => R.of (ixfW x y z) M else .no) Q := q
  refine bindR isOutV s q fun x v M1 H1 mu1 p1 r1 q1 => ?_
  cases x with
  | lst ws =>
    have q1 : OutV w fl (.f 2) ρ σ Fp C H1 mu1 ((ev cl b ρ M1).bind fun y M => (ev cl c ρ M).bind fun z M => R.of (ixfW (.lst ws) y z) M) Q := q1
    obtain ⟨c1, vs, e1, h1, h2, h3⟩ := rep_lst r1
    refine ⟨by rw [e1]; exact .inl ⟨rfl, vs, .inl (.inl h1)⟩, bindR isOutV p1.sr q1 fun y u M2 H2 mu2 p2 r2 q2 => bindR isOutV p2.sr q2 fun z u3 M3 H3 mu3 p3 r3 q3 => ?_⟩
    obtain ⟨t, ez, g⟩ := q3.give
    cases z with
    | int k =>
      have ez : (if y.flat = true ∧ ws.all W.flat = true ∧ 0 ≤ k then (findIx (ws.drop k.toNat) y).map fun n : Nat => W.int (k + n) else none) = some t := ez
      split at ez
      · rename_i hf
        obtain ⟨n, en, e⟩ := Option.map_eq_some_iff.mp ez
        subst e
        obtain ⟨⟨z1, hz1, hz2⟩, hno⟩ := findIx_drop en
        obtain ⟨c', vs', e1', h1', h2', h3'⟩ := rep_lst ((r1.to p2.toT).to p3.toT)
        have r2' := r2.to p3.toT
        obtain ⟨v1, hv1, rv1⟩ := h3'.get hz1
        obtain ⟨kn, rfl⟩ := Int.eq_ofNat_of_zero_le hf.2.2
        have hkn : ((kn : Int)).toNat = kn := rfl
        rw [hkn] at hz1 hv1 hno
        refine ⟨c', vs', u, kn, kn + n, e1', by rw [rep_int r3], .inl (.inl h1'), ⟨flat_rep r2' hf.1, flat_all h3' hf.2.1, by omega, ⟨v1, hv1, ?_⟩, fun m z' hm1 hm hz' => ?_⟩, ?_⟩
        · rw [flat_eq rv1 r2' (flat_all_get hf.2.1 hz1) hf.1]; exact hz2
        · have hml : m < ws.length := by
            have := h3'.len
            have := (List.getElem?_eq_some_iff.mp hz').1
            omega
          obtain ⟨v2, hv2, rv2⟩ := h3'.get (i := m) (w := ws[m]) (by simp [hml])
          rw [hz'] at hv2
          cases hv2
          rw [flat_eq rv2 r2' (flat_all_get hf.2.1 (j := m) (by simp [hml])) hf.1]
          exact hno m _ hm1 hm (by simp [hml])
        · have := g.int p3.sr
          have e : ((kn + n : Nat) : Int) = (kn : Int) + n := by omega
          rw [e]; exact this
      · cases ez
    | _ => cases ez
  | _ => exact q1.elim
end
end Mi
end MiT_

section MiU_
set_option linter.all false
set_option Elab.async false
/-! MiU: x[k] op= e, x owned. -/
namespace Mi
open PySem PySem.Spec PyProof.Rows L2

section
variable {X : Cx} {cl : Nat → List W → List W → R W} {w : Wish} {ret : Lv} {fl fn fb fc f1 : List Fg} {C : Addr → Prop} {ρ : Env} {M : List Mi.W} {σ : L2.St} {H : Hp} {Fp : List (List Addr)} {mu : List Addr} {D : Ends} {lv : Lv} {pos : Pos}
theorem pget_list : PGet X (rIxL X.K) := by
  intro pins s σ H x y v u Q I rx ry h
  obtain ⟨p, xs, i, z, rfl, rfl, hq, he, q⟩ := h
  cases rx
  obtain ⟨t, rfl⟩ := ry
  obtain ⟨its, r, pl, hz⟩ := I.list hq
  obtain ⟨j, k1, k2, k3, k4, k5⟩ := atI_get he
  obtain ⟨c, ec, rc⟩ := r.get k2
  have e1 := r.length
  have e2 := line63
  have last : EP X pins σ Q c s := ⟨z, H, I, rc, q⟩
  rcases Int.lt_or_le i 0 with neg | pos
  · have ej : (i + (its.toArray.size : Int)).toNat = j := by
      rw [seqIndex_neg (by omega) k4] at k1
      rw [List.size_toArray, ← e1]
      exact Option.some.inj k1
    exact wpAny_getItem_list_neg (Q := fun r s' => EP X pins σ Q r s') pl.isList (by omega) (by rw [List.size_toArray]; omega) (by omega) (by rw [ej]; simpa using ec) last
  · have ej : i.toNat = j := by
      rw [seqIndex_of pos k5] at k1
      exact Option.some.inj k1
    exact wpAny_getItem_list pl.isList pos (by omega) (by rw [ej]; simpa using ec) last
def rGet2 (K : PySem.W.Frag) : V → V → Hp → VK → Prop := fun o i H Q => rIxL K o i H Q ∨ rIxK o i H Q
theorem pget_any (hu : X.A.units + 1 < cLine) : PGet X (rGet2 X.K) := fun pins s σ H o i ov iv Q I ro ri h => by
  rcases h with h | h
  · exact pget_list pins s σ H o i ov iv Q I ro ri h
  · exact (get_K hu I ro ri h).2
/-- an owned value read at q -/
theorem get_give {K : PySem.W.Frag} {G G2 : Gh} {x q y : Mi.W} {v k : V} {S : List Addr} {n : Nat} {Q : VK} (e : ixW x q = some y) (hx : Own G 1 x v S) (own : ∃ a, v = .ref a ∧ S = [a]) (hq : Rep G2 q n k) (hH : G2.H = G.H) (g : ∀ u, Rep G y 0 u → Q u G.H) : rGet2 K v k G.H Q := by
  cases x with
  | lst ws =>
    obtain ⟨a, vs, e1, h1, h2, h3, h4⟩ := own1_lst hx
    subst e1
    cases q with
    | int i =>
      have e : L2.atI ws i = some y := e
      obtain ⟨j, k1, k2, k3, k4, k5⟩ := atI_get e
      obtain ⟨u, eu, ru⟩ := h3.get k2
      refine .inl ⟨a, vs, i, u, rfl, rep_int hq, .inl (.inl h1), ?_, g u ru⟩
      unfold L2.atI at e ⊢
      rw [h3.len]
      cases ei : ixN ws.length i with
      | none => rw [ei] at e; cases e
      | some m =>
        rw [ei] at e
        obtain ⟨u', eu', ru'⟩ := h3.get (show ws[m]? = some y from e)
        have : j = m := by
          have hm := (ixN_seq ei).1
          rw [k1] at hm
          exact Option.some.inj hm
        subst this
        exact eu
    | _ => cases e
  | dct kvs =>
    obtain ⟨a, xs, e1, h1, h2, h3, h4⟩ := own1_dct hx
    subst e1
    have e : (match q.key? with
      | some k => if (kvs.all fun p => p.1.flat == k.flat) then getK kvs k else none
      | none => none) = some y := by cases q <;> exact e
    split at e
    · rename_i ky ek
      split at e
      · rename_i hf
        obtain ⟨i1, i2⟩ := getK_rep (k := ky) h3
        obtain ⟨u, eu, ru⟩ := i1 _ e
        exact .inr ⟨a, xs, ky, u, rfl, .inl h1, by rw [flats h3]; exact hf, hH ▸ key_rep hq ek, eu, g u ru⟩
      · cases e
    · cases e
  | _ =>
    exfalso
    obtain ⟨a, e1, e2⟩ := own
    unfold Own at hx
    rw [hx.1] at e2
    cases e2
/-- x[k] op= e -/
theorem ps_agx {st : Stmt} {k e : E} {i : Nat} {o : Bop} {t : TIp} (hk : w.K = X.K) (h : PS X st (tAugS (tVar i) (TR cl w fl 2 k) (TR cl w fl 2 e) (rGet2 X.K) t rSetA)) (hp : PipOk t o) (hf : fl[i]? = some (.ow 1)) : PS X st (TSt cl w ret fl fl fb fc (.augx i o k e)) := by
  refine PS.weak h fun D σ H ⟨C, ρ, M, Fp, mu, s, q⟩ => ?_
  have q : OutS w ret fl fl fb fc ρ σ Fp C H mu (match slot ρ i with
    | some x => if x.box then (ev cl k ρ M).bind fun q M => match ixW x q with
        | some y => (ev cl e ρ M).bind fun z M => R.of ((augW o y z).bind fun y => (setW x q y).map fun z => (Fl.nx, ρ.set i (some z))) M
        | none => .no
      else .no
    | none => .no) D := q
  cases es : slot ρ i with
  | none => rw [es] at q; exact q.elim
  | some x =>
    rw [es] at q
    simp only at q
    split at q
    case isFalse => exact q.elim
    rename_i hbx
    have hx := slot_some es
    obtain ⟨v, ev', r⟩ := s.sl i _ _ hf hx
    refine ⟨v, join_some ev', bindR isOutS s (inS s q) fun qk uk M1 H1 mu1 p1 r1 q1 => ?_⟩
    cases ey : ixW x qk with
    | none => rw [ey] at q1; exact q1.2.elim
    | some y =>
      rw [ey] at q1
      obtain ⟨v1, ev1, rr1⟩ := p1.sr.sl i _ _ hf hx
      rw [ev'] at ev1
      cases ev1
      have own : ∃ a, v = .ref a ∧ Fp[i]?.getD [] = [a] := by
        cases x with
        | lst ws => obtain ⟨a, vs, e1, _, _, _, h4⟩ := own1_lst r; exact ⟨a, e1, h4⟩
        | dct ws => obtain ⟨a, vs, e1, _, _, _, h4⟩ := own1_dct r; exact ⟨a, e1, h4⟩
        | _ => cases hbx
      rw [← hk]
      refine get_give (G := gS w.K H1 C Fp mu1) (G2 := gT w.K H1 C Fp mu1) ey rr1 own r1 rfl fun u ru => bindR isOutS p1.sr q1 fun z uz M2 H2 mu2 p2 r2 q2 => ?_
      have q2 := q2.2
      cases ea : augW o y z with
      | none => rw [ea] at q2; exact q2.elim
      | some y' =>
        rw [ea] at q2
        have q2 : OutS w ret fl fl fb fc ρ σ Fp C H2 mu2 (R.of ((setW x qk y').map fun z => (Fl.nx, ρ.set i (some z))) M2) D := q2
        cases ez : setW x qk y' with
        | none => rw [ez] at q2; exact q2.elim
        | some x' =>
          rw [ez] at q2
          have q2 : ∀ σ' H' Fp' mu', Pst w.K C fl ρ σ Fp H2 mu2 fl (ρ.set i (some x')) M2 σ' H' Fp' mu' → D.nx σ' H' := q2
          obtain ⟨a, ea', hS⟩ := own
          subst ea'
          refine hp (gT w.K H2 C Fp mu2) y z y' u uz 0 2 _ ea ((ru.to0 gS_gT.to0).to p2.toT) r2 fun v2 hv2 => ?_
          obtain ⟨v3, ev3, rr3⟩ := p2.sr.sl i _ _ hf hx
          rw [ev'] at ev3
          cases ev3
          rw [hS] at rr3
          exact set_give (G := gS w.K H2 C Fp mu2) (G2 := gT w.K H2 C Fp mu2) ez rr3 (r1.to p2.toT) rfl (hv2.to0 gS_gT0) (fun o => mut_to0 hS) fun o hn => q2 σ _ Fp mu2 (p2.sr.mut hf hx ev' hS hn)
end
end Mi
end MiU_

section MiV_
set_option linter.all false
set_option Elab.async false
/-! MiV: comprehensions that lay up something of any kind: dicts with keys of any kind, sets. -/
namespace Mi
open PySem PySem.Spec PyProof.Rows L2

section
variable {X : Cx}
/-- what the loop of a block asks of a turn; inner: what is done with an item that is kept -/
def TurnB (X : Cx) (tg : Expr) (ifs : List Expr) (inner : PySem.Env → Addr → (Shared → Prop) → (Value → Shared → Prop) → Shared → Prop) (env : PySem.Env) (it : Value) (D : Addr) (R : Result → Shared → Prop) (J : Nat → Shared → Prop) : Prop :=
  ∀ n s, J n s → wpAny (model X.prog X.w) X.A (pyNext it) (fun r s1 => match r with
    | none => R (.ok .next) s1
    | some v => wpAny (model X.prog X.w) X.A (letOwnedTupleGo tg it v) (fun _ s2 => wpAny (model X.prog X.w) X.A (assign tg env v) (fun _ s3 =>
        wpAny (model X.prog X.w) X.A (forIn ifs true fun c r => if r = true then do let ok ← isTrue c env (eval c env); pure (ForInStep.yield ok) else pure (ForInStep.yield r)) (fun ok s4 =>
          if ok = true then inner env D (fun s' => ∃ m, m < n ∧ J m s') (notedBy (model X.prog X.w) X.A env fun e s' => R (.error e) s') s4
          else ∃ m, m < n ∧ J m s4) (notedBy (model X.prog X.w) X.A env fun e s' => R (.error e) s') s3) (notedBy (model X.prog X.w) X.A env fun e s' => R (.error e) s') s2) (notedBy (model X.prog X.w) X.A env fun e s' => R (.error e) s') s1) (notedBy (model X.prog X.w) X.A env fun e s' => R (.error e) s') s
/-- the reading of such a comprehension -/
def tB (ho : Addr → HO) (wi : TI) (g : TG) (tt : TT) (tin : Addr → L2.St → Hp → (Hp → Prop) → Prop) (vs : List Nat) : TE := fun σ H Q => wi σ H fun J H1 => ∀ D, H1 D = none → ∃ W : Nat → Nat → Hp → Prop, (∃ m, W 0 m (upd H1 D (ho D))) ∧ ∀ i m H, W i m H →
  (J.stop i H ∧ Q (.ref D) H) ∨ (J.go i H ∧ ∃ Nx : Hp → Prop, (∀ H', Nx H' → ∃ m', m' < m ∧ W (i + 1) m' H') ∧ ∀ x H', J.yld i H x H' → g x (L2.wipe σ vs) H' fun σ2 H2 => L2.wipe σ2 vs = L2.wipe σ vs ∧ tt σ2 H2 fun b H3 => if b = true then tin D σ2 H3 Nx else Nx H3)
/-- the block of a comprehension, run through -/
theorem block_run {C tg iter : Expr} {ifs : List Expr} {mk : Sem Value} {o0 : Obj} {ho : Addr → HO} {inner : PySem.Env → Addr → (Shared → Prop) → (Value → Shared → Prop) → Shared → Prop} {tin : Addr → L2.St → Hp → (Hp → Prop) → Prop}
    {pins : List (Addr × Obj)} {s : Shared} {σ : L2.St} {H : Hp} {Q : VK} {scope : Scope} {own : List (Str × Nat)} {pos : Pos} {wi : TI} {g : TG} {tt : TT} {use : Option (Value → Sem Unit)} {Qf : Value → Shared → Prop}
    (hC : clausesOf C = [⟨tg, iter, ifs, 0⟩]) (hcalm : X.calm = true) (hN : X.N.Nodup)
    (hmk : ∀ {Q' : Value → Shared → Prop} {E' : Value → Shared → Prop} (s' : Shared), Q' (.ref s'.heap.objs.size) { s' with heap := s'.heap.push o0 } → wpAny (model X.prog X.w) X.A mk Q' E' s')
    (hnew : ∀ (H' : Hp) (h : Heap), sysModules < h.objs.size → ObjOk X.prog X.w H' (h.push o0) h.objs.size (ho h.objs.size))
    (hstart : ∀ {R : Result → Shared → Prop} {it acc : Value} {env : PySem.Env} {s' : Shared}, codeAny (model X.prog X.w) X.A (.compLoop C 0 it acc env) R s' →
      wpAny (model X.prog X.w) X.A (pyIter it) (fun it' s2 => codeAny (model X.prog X.w) X.A (.compLoop C 0 it' acc env) R s2) (notedBy (model X.prog X.w) X.A env fun x s2 => R (.error x) s2) s' → codeAny (model X.prog X.w) X.A (.compStart C 0 it acc env) R s')
    (hloop : ∀ {R : Result → Shared → Prop} {it : Value} {D : Addr} {env : PySem.Env} {s' : Shared} (J : Nat → Shared → Prop), TurnB X tg ifs inner env it D R J → ∀ n, J n s' → codeAny (model X.prog X.w) X.A (.compLoop C 0 it (.ref D) env) R s')
    (hin : ∀ (s : Shared) (H : Hp) (C : Addr) (cs : List (Str × Addr)) (fp : List Addr) (pins : List (Addr × Obj)) (σ' : L2.St) (H' : Hp) (s' : Shared) (D : Addr) (Nx : Hp → Prop) (P : Shared → Prop) (E' : Value → Shared → Prop), Inv (X.blk s H scope (compEnvC scope cs C X.env) fp) pins σ' H' s' → tin D σ' H' Nx →
      (∀ s2 H2, Inv (X.blk s H scope (compEnvC scope cs C X.env) fp) pins σ' H2 s2 → Nx H2 → P s2) → inner (compEnvC scope cs C X.env) D P E' s')
    (I : Inv X pins σ H s) (hi : PI X tg iter wi) (ok : BlkOk X.N X.env.scope scope own)
    (hg : ∀ (s : Shared) (H : Hp) (C : Addr) (cs : List (Str × Addr)) (fp : List Addr), PG (X.blk s H scope (compEnvC scope cs C X.env) fp) tg g)
    (ht : ∀ (s : Shared) (H : Hp) (C : Addr) (cs : List (Str × Addr)) (fp : List Addr), PTs (X.blk s H scope (compEnvC scope cs C X.env) fp) ifs tt)
    (hs : ∀ x, foldedSetIterable iter X.env x = pure x) (h : tB ho wi g tt tin (own.map (·.2)) σ H Q)
    (hend : ∀ D B s' m H', Inv X pins σ H' s' → Q (.ref D) H' → s'.heap.Ns B m → FpOk X pins H' B → compPost (model X.prog X.w) X.A X.xe use Qf (.ref D) B (.ok .next) s') :
    wpAny (model X.prog X.w) X.A (comprehension C scope X.env pos mk false (eval iter X.env) use) Qf X.xe s := by
  have closed : closureFor scope X.env = pure (cloFrom X.env.cells scope.names []) := closure_ok fun y hy e => (ok.free y hy e).elim (fun k => I.ok.has _ (.inl k)) fun k => I.ok.has _ (.inr k)
  refine wpAny_comprehension_free (use := use) hC hs closed ok.kind (fun y hy e => by rw [ok.uniq y hy, e]) (thn (hi.run pins s σ H _ I h) fun x1 s1 k1 => thn k1 fun it1 s2 k2 => ?_)
  obtain ⟨a, fp, tn, J, H2, ea, I2, walk, t2, f2, q⟩ := k2
  subst ea
  refine hmk s2 (newEnv_comp ?_)
  generalize eD : s2.heap.objs.size = D
  have free : H2 D = none := I2.hok.fresh (Nat.le_of_eq eD)
  obtain ⟨W, ⟨m0, w0⟩, turn⟩ := q D free
  generalize e3 : ({ s2 with heap := s2.heap.push o0 } : Shared) = s3
  generalize eH : upd H2 D (ho D) = H3 at w0
  have I3 : Inv X pins σ H3 s3 := by
    subst e3 eH
    refine I2.laid (t' := s2.toks) (fun b o e => Heap.get?_push_of_some _ e) (Nat.le_of_eq eD) ?_
    rw [← eD]
    exact hnew _ _ I2.big
  have up3 : ∀ b o, s2.heap.get? b = some o → s3.heap.get? b = some o := fun b o e => by subst e3; exact Heap.get?_push_of_some _ e
  have size3 : s3.heap.objs.size = s2.heap.objs.size + 1 := by subst e3; exact Heap.size_push ..
  have f3 : ∀ b ∈ fp, FpOk X pins H3 b ∧ b < s3.heap.objs.size := fun b hb => by
    obtain ⟨o, e, _⟩ := walk.obj _ _ t2 b hb
    have lt := Heap.lt_size e
    refine ⟨⟨?_, (f2 b hb).2⟩, by rw [size3]; exact Nat.lt_succ_of_lt lt⟩
    subst eH
    rw [upd_ne (by rw [← eD]; exact Nat.ne_of_lt lt)]
    exact (f2 b hb).1
  have t3 : tn 0 s3.heap := walk.keep _ _ _ t2 fun b _ o e => up3 b o e
  have I4 := block_start I3 ok hN f3
  have kg := hg s3 H3 s3.heap.objs.size (cellsFrom (s3.heap.objs.size + 1) scope.names (cloFrom X.env.cells scope.names [])) fp
  have kt := ht s3 H3 s3.heap.objs.size (cellsFrom (s3.heap.objs.size + 1) scope.names (cloFrom X.env.cells scope.names [])) fp
  have ki := hin s3 H3 s3.heap.objs.size (cellsFrom (s3.heap.objs.size + 1) scope.names (cloFrom X.env.cells scope.names [])) fp
  show codeAny _ _ (.compStart C 0 (.ref a) (.ref D) (compEnvC scope (cellsFrom (s3.heap.objs.size + 1) scope.names (cloFrom X.env.cells scope.names [])) s3.heap.objs.size X.env)) (compPost (model X.prog X.w) X.A X.xe use Qf (.ref D) s3.heap.objs.size) { s3 with heap := pushCells (s3.heap.push { cls := .type "dict", data := .dict #[] }) scope.names }
  generalize ee : compEnvC scope (cellsFrom (s3.heap.objs.size + 1) scope.names (cloFrom X.env.cells scope.names [])) s3.heap.objs.size X.env = ce at I4 kg kt ki ⊢
  have loc : ce.locals = s3.heap.objs.size := by subst ee; rfl
  generalize e4 : ({ s3 with heap := pushCells (s3.heap.push { cls := .type "dict", data := .dict #[] }) scope.names } : Shared) = s4 at I4 ⊢
  have t4 : tn 0 s4.heap := walk.keep _ _ _ t3 fun b _ o e => by subst e4; exact pushCells_keeps _ _ _ _ (Heap.get?_push_of_some _ e)
  -- the iterator's objects, at every time
  have still : ∀ {σ' : L2.St} {H' : Hp} {s' : Shared}, Inv (X.blk s3 H3 scope ce fp) [] σ' H' s' → (∀ b ∈ fp, H' b = none) → ∀ b ∈ fp, FpOk (X.blk s3 H3 scope ce fp) [] H' b := fun J' z b hb =>
    ⟨z b hb, (J'.ok.exf b hb).1, J'.ok.exfs b hb, .inl hb, fun x c e => (J'.ok.exf b hb).2 x c e, fun p hp => by simp at hp⟩
  suffices loop : codeAny (model X.prog X.w) X.A (.compLoop C 0 (.ref a) (.ref D) ce) (compPost (model X.prog X.w) X.A X.xe use Qf (.ref D) s3.heap.objs.size) s4 from hstart loop (walk.self X.A 0 _ _ _ t4 loop)
  refine hloop (fun n s' => ∃ i H', Inv (X.blk s3 H3 scope ce fp) [] (L2.wipe σ (own.map (·.2))) H' s' ∧ tn i s'.heap ∧ (∀ b ∈ fp, H' b = none) ∧ W i n H') ?_ m0 ⟨0, H3, I4, t4, fun b hb => (f3 b hb).1.1, w0⟩
  rintro n s5 ⟨i, H5, I5, t5, n5, w5⟩
  rcases turn i n H5 w5 with ⟨stop, fin⟩ | ⟨go, Nx, hNx, step⟩
  · refine thnF (walk.done (X.blk s3 H3 scope ce fp) rfl rfl rfl hcalm i [] s5 _ H5 (fun _ _ => False) I5 (still I5 n5) t5 stop) fun r s6 ⟨er, I6⟩ => ?_
    subst er
    have back : Inv X pins σ H5 s6 := I3.call' (ch := fp) I6.os I6.base I6.hok I6.bare fun b hb => ⟨(f3 b hb).1.2.2.2.1, (f3 b hb).1.2.1, (f3 b hb).1.2.2.2.2.1, (f3 b hb).1.2.2.2.2.2⟩
    have nB : H5 ce.locals = none := I6.free
    obtain ⟨m, hn, _⟩ := I6.loc
    have hn : s6.heap.Ns ce.locals m := hn
    rw [loc] at hn nB
    exact hend D s3.heap.objs.size s6 m H5 back fin hn (I3.fpOk (Nat.le_refl _) nB)
  · refine thnF (walk.item (X.blk s3 H3 scope ce fp) rfl rfl rfl hcalm i [] s5 _ H5 (fun _ _ => False) I5 (still I5 n5) t5 go) fun r s6 ⟨u, er, k6⟩ => ?_
    subst er
    refine thnF k6 fun _ s7 ⟨x, H7, I7, r7, y7, t7, n7⟩ => ?_
    refine thnF (kg.run _ s7 _ H7 x u _ (I7.pinned (still I7 n7) (walk.obj _ _ t7)) r7 (step x H7 y7)) fun _ s8 ⟨σ8, H8, I8, w8, q8⟩ => ?_
    refine thnF (kt.run _ s8 σ8 H8 _ I8 q8) fun b s9 ⟨H9, I9, q9⟩ => ?_
    have close : ∀ {s' : Shared} {H' : Hp}, Inv (X.blk s3 H3 scope ce fp) ([] ++ pinsAt fp s7.heap) σ8 H' s' → Nx H' → ∃ m, m < n ∧ ∃ i H', Inv (X.blk s3 H3 scope ce fp) [] (L2.wipe σ (own.map (·.2))) H' s' ∧ tn i s'.heap ∧ (∀ b ∈ fp, H' b = none) ∧ W i m H' := fun {s' H'} J' nx => by
      obtain ⟨m', lt, w'⟩ := hNx H' nx
      have held : ∀ b ∈ fp, ∀ o, s7.heap.get? b = some o → s'.heap.get? b = some o ∧ H' b = none := fun b hb o e =>
        have z := J'.pin (b, o) (List.mem_append_right _ (List.mem_append_right _ (mem_pinsAt hb e)))
        ⟨z.1, z.2.1⟩
      refine ⟨m', lt, i + 1, H', (J'.unpinned (pins := [])).weak (by rw [← w8, L2.wipe_length]) (fun j v e => by rw [← w8] at e; exact (wipe_some e).1), walk.keep _ _ _ t7 fun b hb o e => (held b hb o e).1, fun b hb => ?_, w'⟩
      obtain ⟨o, e, _⟩ := walk.obj _ _ t7 b hb
      exact (held b hb o e).2
    cases b with
    | false => exact close I9 (by simpa using q9)
    | true =>
      have q9 : tin D σ8 H9 Nx := by simpa using q9
      show inner ce D _ _ s9
      exact ki _ σ8 H9 s9 D Nx _ _ I9 q9 fun s2 H2 J2 nx => close J2 nx
end
end Mi
end MiV_

section MiW_
set_option linter.all false
set_option Elab.async false
/-! MiW: dict comprehensions. -/
namespace Mi
open PySem PySem.Spec PyProof.Rows L2

/-- what a store of z at y in the dict D wants -/
def rPutD (D : Addr) (y z : V) (H : Hp) (P : Hp → Prop) : Prop :=
  ∃ ys k, DAt H D ys ∧ (ys.all fun p => p.1.flat == k.flat) = true ∧ kyV k H y ∧ ys.length < sizeLine ∧ ∀ ho, DAt (upd H D ho) D (putK ys k z) → P (upd H D ho)
section
variable {X : Cx} {pins : List (Addr × Obj)} {σ : L2.St} {H : Hp} {s : Shared} {E : Value → Shared → Prop} {D : Addr} {v : V} {u r : Value} {Q : Unit → Shared → Prop}
/-- a comprehension's store, the keys tuples -/
theorem dsT (hu : X.A.units < cLine) (I : Inv X pins σ H s) {zs : List (List L2.Key × V)} {ks : List L2.Key} {b : Addr} (e : H D = some (.dT zs)) (eb : H b = some (.tup (ks.map kV))) (hl : zs.length < sizeLine) (rv : RelV v r) (k : ∀ s', Inv X pins σ (upd H D (.dT (L2.putK zs ks v))) s' → Q () s') :
    wpAny (model X.prog X.w) X.A (dictSet D (.ref b) r) Q E s := by
  obtain ⟨c1, c2, es, c3, c4⟩ := dt_of I.hok e
  have c5 : es.length ≤ sizeLine := (Paired.length c3) ▸ c1
  have c6 : (L2.putK zs ks v).length ≤ sizeLine := Nat.le_trans (length_putK zs ks v) hl
  refine wpAny_dictSet_heap (knd := tupleKind (mixKind X.prog X.w)) (hsz := c5) hu (key_of I.hok eb) c4 fun h' m' same => k _ ?_
  obtain ⟨o, es', ep, d1, d2, d3, d4, _, d5⟩ := m'
  have keep := (c3.put ks eb rv).keeps (H' := upd H D (.dT (L2.putK zs ks v))) fun c ys ec => by
    rw [upd_ne (ne_of ec e fun z => nomatch z)]; exact ec
  exact d_write I (e ▸ True.intro) same ⟨o, d1⟩ ⟨c6, c2, _, keep, o, es', ep, d1, d2, d3, d4, d5⟩
theorem dsAny (hu : X.A.units < cLine) (I : Inv X pins σ H s) {y : V} (ry : RelV y u) (rv : RelV v r) {P : Hp → Prop} (h : rPutD D y v H P) (k : ∀ H' s', P H' → Inv X pins σ H' s' → Q () s') : wpAny (model X.prog X.w) X.A (dictSet D u r) Q E s := by
  obtain ⟨ys, ky, hd, hf, hv, hl, q⟩ := h
  cases ky with
  | t ks =>
    obtain ⟨b, ey, eb⟩ := hv
    subst ey
    cases (show u = Value.ref b from ry)
    have fin : ∀ zs : List (List L2.Key × V), ys = zs.map (fun p => (Ky.t p.1, p.2)) → P (upd H D (.dT (L2.putK zs ks v))) := fun zs e =>
      q _ (.inr ⟨_, upd_same, by rw [putK_map (f := Ky.t) (fun _ _ h => by cases h; rfl), ← e]⟩)
    rcases hd with ⟨zs, e, ey⟩ | ⟨zs, e, ey⟩
    · cases zs with
      | cons z zr =>
        exfalso
        rw [ey, List.map_cons, List.all_cons] at hf
        cases z with | mk c d => cases c <;> simp [ofK, Ky.flat] at hf
      | nil =>
        have nb : b ≠ D := fun z => by rw [z, e] at eb; cases eb
        refine dsT hu (inv_kt I e) (zs := []) (ks := ks) (b := b) upd_same (by rw [upd_ne nb]; exact eb) (by rw [sizeLine_eq]; decide) rv fun s' I' => ?_
        rw [updupd] at I'
        exact k _ s' (fin [] (by rw [ey]; rfl)) I'
    · exact dsT hu I e eb (by rw [ey, List.length_map] at hl; exact hl) rv fun s' I' => k _ s' (fin zs ey) I'
  | i n =>
    have hv : y = .int n := hv
    subst hv
    have fin : ∀ zs : List (L2.Key × V), ys = zs.map (fun p => (ofK p.1, p.2)) → P (upd H D (.dK (L2.putK zs (.inl n) v))) := fun zs e =>
      q _ (.inl ⟨_, upd_same, by rw [putK_map fun _ _ => ofK_inj, ← e]; rfl⟩)
    rcases hd with ⟨zs, e, ey⟩ | ⟨zs, e, ey⟩
    · exact d_dictSet (k := .inl n) I e (by rw [ey, List.length_map] at hl; exact hl) ry rv fun s' I' => k _ s' (fin zs ey) I'
    · cases zs with
      | cons z zr =>
        exfalso
        rw [ey, List.map_cons, List.all_cons] at hf
        simp [Ky.flat] at hf
      | nil =>
        refine d_dictSet (k := .inl n) (inv_tk I e) (kvs := []) upd_same (by rw [sizeLine_eq]; decide) ry rv fun s' I' => ?_
        rw [updupd] at I'
        exact k _ s' (fin [] (by rw [ey]; rfl)) I'
  | s x =>
    have hv : y = .str x := hv
    subst hv
    have fin : ∀ zs : List (L2.Key × V), ys = zs.map (fun p => (ofK p.1, p.2)) → P (upd H D (.dK (L2.putK zs (.inr x) v))) := fun zs e =>
      q _ (.inl ⟨_, upd_same, by rw [putK_map fun _ _ => ofK_inj, ← e]; rfl⟩)
    rcases hd with ⟨zs, e, ey⟩ | ⟨zs, e, ey⟩
    · exact d_dictSet (k := .inr x) I e (by rw [ey, List.length_map] at hl; exact hl) ry rv fun s' I' => k _ s' (fin zs ey) I'
    · cases zs with
      | cons z zr =>
        exfalso
        rw [ey, List.map_cons, List.all_cons] at hf
        simp [Ky.flat] at hf
      | nil =>
        refine d_dictSet (k := .inr x) (inv_tk I e) (kvs := []) upd_same (by rw [sizeLine_eq]; decide) ry rv fun s' I' => ?_
        rw [updupd] at I'
        exact k _ s' (fin [] (by rw [ey]; rfl)) I'
end

/-! ### the rule -/
def inD (X : Cx) (kx vx : Expr) : PySem.Env → Addr → (Shared → Prop) → (Value → Shared → Prop) → Shared → Prop := fun env D P E s =>
  wpAny (model X.prog X.w) X.A (eval kx env) (fun kv s1 => wpAny (model X.prog X.w) X.A (eval vx env) (fun vv s2 => wpAny (model X.prog X.w) X.A (dictSet D kv vv) (fun _ s3 => P s3) E s2) E s1) E s
def tinD (tk tv : TE) : Addr → L2.St → Hp → (Hp → Prop) → Prop := fun D σ H Nx => tk σ H fun y H1 => tv σ H1 fun z H2 => rPutD D y z H2 Nx
section
variable {X : Cx} {kx vx tg iter : Expr} {ifs : List Expr} {scope : Scope} {own : List (Str × Nat)} {pos : Pos} {wi : TI} {g : TG} {tt : TT} {tk tv : TE}
theorem dc_run {pins : List (Addr × Obj)} {s : Shared} {σ : L2.St} {H : Hp} {Q : VK} {pos' : Pos} {use : Option (Value → Sem Unit)} {Qf : Value → Shared → Prop} (hu : X.A.units < cLine) (hc : X.calm = true) (hN : X.N.Nodup) (I : Inv X pins σ H s) (hi : PI X tg iter wi) (ok : BlkOk X.N X.env.scope scope own)
    (hg : ∀ (s : Shared) (H : Hp) (C : Addr) (cs : List (Str × Addr)) (fp : List Addr), PG (X.blk s H scope (compEnvC scope cs C X.env) fp) tg g) (ht : ∀ (s : Shared) (H : Hp) (C : Addr) (cs : List (Str × Addr)) (fp : List Addr), PTs (X.blk s H scope (compEnvC scope cs C X.env) fp) ifs tt)
    (hk : ∀ (s : Shared) (H : Hp) (C : Addr) (cs : List (Str × Addr)) (fp : List Addr), PE (X.blk s H scope (compEnvC scope cs C X.env) fp) kx tk) (hv : ∀ (s : Shared) (H : Hp) (C : Addr) (cs : List (Str × Addr)) (fp : List Addr), PE (X.blk s H scope (compEnvC scope cs C X.env) fp) vx tv)
    (hs : ∀ x, foldedSetIterable iter X.env x = pure x) (h : tB (fun _ => .dK []) wi g tt (tinD tk tv) (own.map (·.2)) σ H Q)
    (hend : ∀ D B s' m H', Inv X pins σ H' s' → Q (.ref D) H' → s'.heap.Ns B m → FpOk X pins H' B → compPost (model X.prog X.w) X.A X.xe use Qf (.ref D) B (.ok .next) s') :
    wpAny (model X.prog X.w) X.A (comprehension (.DictComp kx vx [⟨tg, iter, ifs, 0⟩] scope pos) scope X.env pos' newDict false (eval iter X.env) use) Qf X.xe s := by
  refine block_run (o0 := { cls := .type "dict", data := .dict #[] }) (inner := inD X kx vx) rfl hc hN (fun s' q => wpAny_newObj_type q) (fun H' h big => dk_empty h big) (fun a b => codeAny_compStart_dict a b) (fun J T n hJ => compLoop_anyD J T n hJ) (fun s H C cs fp pins σ' H' s' D Nx P E' I' q fin => ?_) I hi ok hg ht hs h hend
  refine thnF ((hk s H C cs fp).run pins s' σ' H' _ I' q) fun u s1 ⟨y, H1, I1, r1, q1⟩ => ?_
  refine thnF ((hv s H C cs fp).run pins s1 σ' H1 _ I1 q1) fun u2 s2 ⟨z, H2, I2, r2, q2⟩ => ?_
  exact dsAny (X := X.blk s H scope (compEnvC scope cs C X.env) fp) hu I2 r1 r2 q2 fun H3 s3 nx I3 => fin s3 H3 I3 nx
theorem pe_dcA (hu : X.A.units < cLine) (hc : X.calm = true) (hN : X.N.Nodup) (hi : PI X tg iter wi) (ok : BlkOk X.N X.env.scope scope own)
    (hg : ∀ (s : Shared) (H : Hp) (C : Addr) (cs : List (Str × Addr)) (fp : List Addr), PG (X.blk s H scope (compEnvC scope cs C X.env) fp) tg g) (ht : ∀ (s : Shared) (H : Hp) (C : Addr) (cs : List (Str × Addr)) (fp : List Addr), PTs (X.blk s H scope (compEnvC scope cs C X.env) fp) ifs tt)
    (hk : ∀ (s : Shared) (H : Hp) (C : Addr) (cs : List (Str × Addr)) (fp : List Addr), PE (X.blk s H scope (compEnvC scope cs C X.env) fp) kx tk) (hv : ∀ (s : Shared) (H : Hp) (C : Addr) (cs : List (Str × Addr)) (fp : List Addr), PE (X.blk s H scope (compEnvC scope cs C X.env) fp) vx tv)
    (hs : ∀ x, foldedSetIterable iter X.env x = pure x) : PE X (.DictComp kx vx [⟨tg, iter, ifs, 0⟩] scope pos) (tB (fun _ => .dK []) wi g tt (tinD tk tv) (own.map (·.2))) := by
  refine ⟨fun pins s σ H Q I h => ?_⟩
  rw [arm_eval_DictComp]
  refine dc_run hu hc hN I hi ok hg ht hk hv hs h fun D B s' m H' I' q hn f => ⟨m, hn, fun h2 sb => ?_⟩
  obtain ⟨f0, f1, f2, f3, f4, f5⟩ := f
  exact ⟨.ref D, H', I'.turned (t' := s'.toks) (fun b o hb e => (sb.2 b hb).trans e) f0 f1 f3 f4 f5, rfl, q⟩
theorem sw_trueD {pos py : Pos} {y : Str} {l : Nat} {env : PySem.Env} {gs : List Comprehension} (hk : env.scope.kind = .function) (hy : env.scope.names.lookup y = some .local) (hl : (py.line == pos.line) = true)
    (ha : (scope.names.any fun (n, k) => n == y && (k == .local || k == .cell)) = false) : swapsWith (.DictComp kx vx gs scope pos) (some (.Name y py)) l env = pure true := by
  have ky : env.kindOf y = some .local := hy
  have hb : env.blockKind = .function := by unfold Env.blockKind; rw [hk]; rfl
  unfold swapsWith
  simp only [hb, ky, ha, Expr.pos, hl]
  rfl
theorem ps_setDcA {i : Nat} {y : Str} {py spos : Pos} (hu : X.A.units < cLine) (hc : X.calm = true) (hN : X.N.Nodup) (hy : X.N[i]? = some y) (hyl : X.env.scope.names.lookup y = some .local)
    (hsw : swapsWith (.DictComp kx vx [⟨tg, iter, ifs, 0⟩] scope pos) (some (.Name y py)) spos.line X.env = pure true) (hi : PI X tg iter wi) (ok : BlkOk X.N X.env.scope scope own)
    (hg : ∀ (s : Shared) (H : Hp) (C : Addr) (cs : List (Str × Addr)) (fp : List Addr), PG (X.blk s H scope (compEnvC scope cs C X.env) fp) tg g) (ht : ∀ (s : Shared) (H : Hp) (C : Addr) (cs : List (Str × Addr)) (fp : List Addr), PTs (X.blk s H scope (compEnvC scope cs C X.env) fp) ifs tt)
    (hk : ∀ (s : Shared) (H : Hp) (C : Addr) (cs : List (Str × Addr)) (fp : List Addr), PE (X.blk s H scope (compEnvC scope cs C X.env) fp) kx tk) (hv : ∀ (s : Shared) (H : Hp) (C : Addr) (cs : List (Str × Addr)) (fp : List Addr), PE (X.blk s H scope (compEnvC scope cs C X.env) fp) vx tv)
    (hs : ∀ x, foldedSetIterable iter X.env x = pure x) : PS X (.Assign [.Name y py] (.DictComp kx vx [⟨tg, iter, ifs, 0⟩] scope pos) spos) (tAsg (tB (fun _ => .dK []) wi g tt (tinD tk tv) (own.map (·.2))) (gName i)) := by
  refine ⟨fun pins s σ H D I h => ?_⟩
  rw [exec_Assign_Name_used _ _ _ _ hsw]
  refine wpAny_bind (wpAny_standAt (wpAny_bind ?_))
  show wpAny _ X.A (do let _ ← comprehension (.DictComp kx vx [⟨tg, iter, ifs, 0⟩] scope pos) scope X.env (firstIterPos [⟨tg, iter, ifs, 0⟩] pos) newDict false (eval iter X.env) (some (assign (.Name y py) X.env))) _ _ s
  have h : tB (fun _ => .dK []) wi g tt (tinD tk tv) (own.map (·.2)) σ H (fun x H1 => gName i x σ H1 D.nx) := h
  refine wpAny_bind (thn (dc_run (Qf := fun _ s' => SP X pins D .next s') hu hc hN I hi ok hg ht hk hv hs h fun L B s' m H' I' q hn f => ?_) fun _ s' hq => wpAny_pure (wpAny_pure hq))
  show wpAny _ _ (assign (.Name y py) X.env (.ref L)) _ _ _
  refine wpAny_assign_Name (store_ok2 (v := V.ref L) I' hN hy (.inl hyl) rfl (fun s2 I2 ⟨a, sb, ha⟩ => ?_) (.inr hyl))
  obtain ⟨f0, f1, f2, f3, f4, f5⟩ := f
  have ne : B ≠ a := ha.elim (fun z => z ▸ f1) fun z e => f4 y a z e.symm
  refine ⟨m, hn.sameBut sb ne, fun h3 sb3 => ?_⟩
  exact ⟨_, H', I2.turned (t' := s2.toks) (fun b o hb e => (sb3.2 b hb).trans e) f0 f1 f3 f4 f5, q⟩
end

/-! ### in the small language -/
/-- a turn -/
def turnD (cl : Nat → List W → List W → R W) (k v : E) (t : Tg) (cond : T) (own : List Nat) (ρ : Env) (w : W) (M : List W) : R (Option (Ky × W)) :=
  R.calm (match bindT t w (wipeE ρ own) with
    | none => .no
    | some ρ' => (evT cl cond ρ' M).bind fun b M => if b then (ev cl k ρ' M).bind fun x M => (ev cl v ρ' M).bind fun y M => match x.key? with
        | some q => .ok (some (q, y)) M
        | none => .no
      else .ok none M)
theorem ev_dc (cl : Nat → List W → List W → R W) (k v : E) (t : Tg) (it : I) (cond : T) (own : List Nat) (ρ : Env) (M : List W) :
    ev cl (.dc k v t it cond own) ρ M = (evI cl it ρ M).bind fun ws M => (compD (turnD cl k v t cond own ρ) ws [] M).bind fun r M => .ok (.dct r) M := rfl
theorem compD_ex {f : W → List W → R (Option (Ky × W))} (hf : ∀ w M, ∀ x N, f w M ≠ .ex x N) : ∀ ws acc M x N, compD f ws acc M ≠ .ex x N
  | [], acc, M, x, N, h => by cases h
  | w :: ws, acc, M, x, N, h => by
    unfold compD at h
    cases e : f w M with
    | no => rw [e] at h; cases h
    | ex y N' => exact hf _ _ _ _ e
    | ok o M1 =>
      rw [e, R.bind_ok] at h
      split at h
      · split at h
        · exact compD_ex hf ws _ M1 _ _ h
        · cases h
      · exact compD_ex hf ws acc M1 _ _ h
theorem turnD_ex {cl : Nat → List W → List W → R W} {k v : E} {t : Tg} {cond : T} {own : List Nat} {ρ : Env} (w : W) (M : List W) : ∀ x N, turnD cl k v t cond own ρ w M ≠ .ex x N := fun x N h => by
  unfold turnD at h
  generalize (match bindT t w (wipeE ρ own) with
    | none => (.no : R (Option (Ky × W)))
    | some ρ' => (evT cl cond ρ' M).bind fun b M => if b then (ev cl k ρ' M).bind fun x M => (ev cl v ρ' M).bind fun y M => match x.key? with
        | some q => .ok (some (q, y)) M
        | none => .no
      else .ok none M) = r at h
  cases r <;> cases h
theorem putK_le {α : Type} (kvs : List (Ky × α)) (k : Ky) (v : α) : (putK kvs k v).length ≤ kvs.length + 1 := by
  unfold putK
  split
  · rw [List.length_map]; omega
  · rw [List.length_append]; exact Nat.le_refl _
section
variable {X : Cx} {cl : Nat → List W → List W → R W} {w : Wish} {fl : List Fg} {C : Addr → Prop} {ρ : Env} {M : List Mi.W} {σ : L2.St} {H : Hp} {Fp : List (List Addr)} {mu : List Addr} {Q : VK}
/-- the turns of a dict comprehension -/
structure TurnsD (K : PySem.W.Frag) (fl : List Fg) (ρ : Env) (σ : L2.St) (Fp : List (List Addr)) (C : Addr → Prop) (H1 : Hp) (mu1 : List Addr) (f : Mi.W → List Mi.W → R (Option (Ky × Mi.W))) (ws : List Mi.W) (r : List (Ky × Mi.W)) (Me : List Mi.W) (D : Addr) (i : Nat) (H : Hp) (Mx : List Mi.W) (mui : List Addr) (xs : List (Ky × V)) (done : List (Ky × Mi.W)) : Prop where
  sr : SR K C fl ρ Mx σ H (Fp ++ [[D]]) mui
  ext : ∀ a o, H1 a = some o → a ∉ mu1 → H a = some o
  pre : ∃ more, mui = mu1 ++ more ∧ ∀ a ∈ more, H1 a = none
  at_ : DAt H D xs
  rep : RepD (gT K H C (Fp ++ [[D]]) mui) done 0 xs
  len : xs.length ≤ i
  eq : compD f (ws.drop i) done Mx = .ok r Me
theorem tdc_ok {it : I} {t : Tg} {cond : T} {k v : E} {own : List Nat} (hv : ∀ i ∈ t.vars, i ∈ own) (s : SR w.K C fl ρ M σ H Fp mu) (q : OutV w fl (.f 1) ρ σ Fp C H mu (ev cl (.dc k v t it cond own) ρ M) Q) :
    tB (fun _ => .dK []) (TIt false cl w fl it) (TGt w.quiet (plE fl own) t) (TB cl w.quiet (plE fl own) cond) (tinD (TR cl w.quiet (plE fl own) 2 k) (TR cl w.quiet (plE fl own) 0 v)) own σ H Q := by
  rw [ev_dc] at q
  refine bindI isOutV s q fun ws J M1 H1 mu1 p1 wk q1 D hD => ?_
  obtain ⟨hz, Gd, Y, wlk, gd, items⟩ := wk
  have s1 := p1.sr
  cases hr : compD (turnD cl k v t cond own ρ) ws [] M1 with
  | no => rw [hr] at q1; exact q1.elim
  | ex x N => exact absurd hr (compD_ex turnD_ex _ _ _ _ _)
  | ok r Me =>
    rw [hr] at q1
    have toG : ∀ {i H Mx mui xs done}, TurnsD w.K fl ρ σ Fp C H1 mu1 (turnD cl k v t cond own ρ) ws r Me D i H Mx mui xs done → (gT w.K H1 C Fp mu1).To (gT w.K H C (Fp ++ [[D]]) mui) := fun {i H Mx mui xs done} T => by
      have mr : ∀ a o, H1 a = some o → a ∈ mui → a ∈ mu1 := fun a o e z => by
        obtain ⟨more, em, fr⟩ := T.pre
        rw [em] at z
        rcases List.mem_append.mp z with z | z
        · exact z
        · rw [fr a z] at e; cases e
      refine ⟨rfl, fun a o e k => ⟨T.ext a o e fun z => k (.inl z), fun z => ?_⟩, fun a o e k => ⟨T.ext a o e k, fun z => k (mr a o e z)⟩, fun n a e => ?_⟩
      · rcases z with z | z | z
        · exact k (.inl (mr a o e z))
        · rcases mem_snoc.mp z with z | z
          · exact k (.inr (.inl z))
          · have e : H1 a = some o := e
            rw [z, hD] at e; cases e
        · exact k (.inr (.inr z))
      · obtain ⟨more, em, _⟩ := T.pre
        have e : mu1[n]? = some a := e
        show mui[n]? = some a
        rw [em, List.getElem?_append_left (List.getElem?_eq_some_iff.mp e).1]; exact e
    refine ⟨fun i m H => m = ws.length - i ∧ i ≤ ws.length ∧ ∃ Mx mui xs done, TurnsD w.K fl ρ σ Fp C H1 mu1 (turnD cl k v t cond own ρ) ws r Me D i H Mx mui xs done, ⟨_, rfl, Nat.zero_le _, M1, mu1, [], [], s1.push hD True.intro, fun a o e _ => by rw [upd_ne (fun z => by rw [z, hD] at e; cases e)]; exact e, ⟨[], by simp, fun _ h => nomatch h⟩, .inl ⟨[], upd_same, rfl⟩, by unfold RepD; rfl, Nat.le_refl _, by rw [List.drop_zero]; exact hr⟩, ?_⟩
    rintro i m H ⟨rfl, hi, Mx, mui, xs, done, T⟩
    by_cases hlt : i < ws.length
    · refine .inr ⟨wlk.goes i H hlt (gd _ (toG T)), fun H' => ∃ Mx mui xs done, TurnsD w.K fl ρ σ Fp C H1 mu1 (turnD cl k v t cond own ρ) ws r Me D (i + 1) H' Mx mui xs done, fun H' t => ⟨_, by omega, rfl, by omega, t⟩, fun x H' yy => ?_⟩
      have y := wlk.yields i H x H' hlt (gd _ (toG T)) yy
      obtain ⟨u, eu, s2, ru, ex⟩ := item_sr (b := false) T.sr (items _ i x H' (toG T) (fun b vs e => T.sr.tups e) hlt y)
      have ed : ws.drop i = u :: ws.drop (i + 1) := by
        rw [List.drop_eq_getElem_cons hlt]
        rw [List.getElem?_eq_getElem hlt] at eu
        cases eu; rfl
      have eq := T.eq
      rw [ed] at eq
      unfold compD at eq
      obtain ⟨o, M2, e1, eq⟩ := bind_ok eq
      have e1 := calm_ok e1
      cases hb : bindT t u (wipeE ρ own) with
      | none => rw [hb] at e1; cases e1
      | some ρ' =>
        rw [hb] at e1
        obtain ⟨b, M3, e2, e3⟩ := bind_ok e1
        refine ⟨C, wipeE ρ own, ρ', Mx, Fp ++ [[D]], mui, u, s2.comp own, ru, hb, fun σ2 s3 o1 o2 => ⟨(wipe_only o1 hv).trans (wipe_only (vs := own) ⟨L2.wipe_length σ own, fun i hi => L2.wipe_out hi⟩ fun _ h => h), C, ρ', Mx, Fp ++ [[D]], mui, s3, ?_⟩⟩
        show OutB _ _ _ _ _ _ _ _ (evT cl cond ρ' Mx) _
        rw [e2]
        intro H3 mu3 p3
        have ext : ∀ {H4 M4 mu4}, Po w.K (plE fl own) ρ' σ2 (Fp ++ [[D]]) C H' mui C M4 H4 mu4 → (∀ a o, H1 a = some o → a ∉ mu1 → H4 a = some o) ∧ ∃ more, mu4 = mu1 ++ more ∧ ∀ a ∈ more, H1 a = none := fun {H4 M4 mu4} p => by
          obtain ⟨more, em, fr⟩ := T.pre
          have mr : ∀ a o, H1 a = some o → a ∈ mui → a ∈ mu1 := fun a o e z => by
            rw [em] at z
            rcases List.mem_append.mp z with z | z
            · exact z
            · rw [fr a z] at e; cases e
          refine ⟨fun a o e k => p.ext a o (ex a o (T.ext a o e k)) fun z => k (mr a o e z), ?_⟩
          obtain ⟨more2, em2, fr2⟩ := p.pre
          refine ⟨more ++ more2, by rw [em2, em, List.append_assoc], fun a ha => ?_⟩
          rcases List.mem_append.mp ha with ha | ha
          · exact fr a ha
          · cases e : H1 a with
            | none => rfl
            | some o' =>
              by_cases k : a ∈ mu1
              · obtain ⟨o2, e2⟩ := s2.tr a (List.mem_append_left _ (by rw [em]; exact List.mem_append_left _ k))
                rw [fr2 a ha] at e2; cases e2
              · have := ex a o' (T.ext a o' e k)
                rw [fr2 a ha] at this; cases this
        have rep2 : RepD (gT w.K H' C (Fp ++ [[D]]) mui) done 0 xs :=
          RepD.to (G := gT w.K H C (Fp ++ [[D]]) mui) (G' := gT w.K H' C (Fp ++ [[D]]) mui) ⟨rfl, fun a o e k => ⟨ex a o e, k⟩, fun a o e k => ⟨ex a o e, k⟩, fun _ _ e => e⟩ T.rep
        have keepD : ∀ {H4 M4 mu4}, Po w.K (plE fl own) ρ' σ2 (Fp ++ [[D]]) C H' mui C M4 H4 mu4 → DAt H4 D xs := fun {H4 M4 mu4} p => T.at_.to fun o e => p.ext _ _ (ex _ _ e) (D_notmu T.sr)
        cases b with
        | false =>
          refine iteF ⟨M3, mu3, xs, done, s2.along p3, (ext p3).1, (ext p3).2, keepD p3, rep2.to p3.toT, Nat.le_succ_of_le T.len, ?_⟩
          have e3 : (R.ok none M3 : R (Option (Ky × Mi.W))) = .ok o M2 := e3
          cases e3
          exact eq
        | true =>
          have e3 : ((ev cl k ρ' M3).bind fun x M => (ev cl v ρ' M).bind fun y M => match x.key? with
            | some q => (R.ok (some (q, y)) M : R (Option (Ky × Mi.W)))
            | none => .no) = .ok o M2 := e3
          obtain ⟨kw, M4, e4, e5⟩ := bind_ok e3
          obtain ⟨vw, M5, e6, e7⟩ := bind_ok e5
          cases ek : kw.key? with
          | none => rw [ek] at e7; cases e7
          | some kk =>
            rw [ek] at e7
            cases e7
            have eq : (if (done.all fun p => p.1.flat == kk.flat) then compD (turnD cl k v t cond own ρ) (ws.drop (i + 1)) (putK done kk vw) M2 else .no) = R.ok r Me := eq
            split at eq
            case isFalse => cases eq
            rename_i hfl
            refine iteT ⟨C, ρ', M3, Fp ++ [[D]], mu3, p3.sr, ?_⟩
            show OutR _ _ _ _ _ _ _ _ _ (ev cl k ρ' M3) _
            rw [e4]
            intro kv H4 mu4 p4 rk
            refine ⟨C, ρ', M4, Fp ++ [[D]], mu4, p4.sr, ?_⟩
            show OutR _ _ _ _ _ _ _ _ _ (ev cl v ρ' M4) _
            rw [e6]
            intro vv H5 mu5 p5 rv
            have p := (p3.trans p4).trans p5
            have hl : σ.length ≤ Fp.length := s.lp
            have aD := keepD p
            have rD := rep2.to p.toT
            refine ⟨xs, kk, aD, by rw [flats rD]; exact hfl, key_rep (rk.to p5.toT) ek, by have := T.len; omega, fun ho hd => ⟨M2, mu5, putK xs kk vv, putK done kk vw, (s2.along p).top hl hd.nt, fun a o e k => ?_, (ext p).2, hd, ?_, ?_, eq⟩⟩
            · rw [upd_ne (fun z => by rw [z, hD] at e; cases e)]
              exact (ext p).1 a o e k
            · exact RepD.to0 top_to0 (rD.put rv)
            · have := putK_le xs kk vv
              have := T.len
              omega
    · have e : i = ws.length := by omega
      subst e
      refine .inl ⟨wlk.stops H (gd _ (toG T)), ?_⟩
      have eq := T.eq
      rw [List.drop_length] at eq
      have eq : R.ok done Mx = R.ok r Me := eq
      injection eq with e1 e2
      subst e1 e2
      have hl : σ.length ≤ Fp.length := s.lp
      have sp := T.sr.pop hl
      refine q1 (.ref D) H mui [D] ⟨T.ext, T.pre, fun a z => z.elim .inl fun z => .inr (List.mem_singleton.mp z ▸ hD), fun a z => .inl z, sp⟩ (by simp) (fun a h => by rw [List.mem_singleton.mp h]; exact hD) ?_
      show Own _ 1 _ _ _
      have r' : RepD (gT w.K H (fun a => C a ∨ a ∈ [D]) Fp mui) done 0 xs := by
        refine RepD.to0 (G := gT w.K H C (Fp ++ [[D]]) mui) (G' := gT w.K H (fun a => C a ∨ a ∈ [D]) Fp mui) ⟨rfl, fun a o e k => ⟨e, fun z => k ?_⟩, fun _ _ e => e⟩ T.rep
        rcases z with z | z | z | z
        · exact .inl z
        · exact .inr (.inl (mem_snoc.mpr (.inl z)))
        · exact .inr (.inr z)
        · exact .inr (.inl (mem_snoc.mpr (.inr (List.mem_singleton.mp z))))
      exact own_dct r' (by have := T.len; omega) T.at_
end
end Mi
end MiW_

section MiX_
set_option linter.all false
set_option Elab.async false
/-! MiX: further changes of owned values: x.remove(y), x.pop(k) kept, d.setdefault(k, []).append(v); slots wiped. -/
namespace Mi
open PySem PySem.Spec PyProof.Rows L2

section
variable {K : PySem.W.Frag} {C : Addr → Prop} {fl : List Fg} {ρ : Env} {M : List W} {σ : L2.St} {H H' : Hp} {Fp : List (List Addr)} {mu : List Addr}
/-- what is persistent stands when the nodes S become S' -/
theorem mutG_to0 {i : Nat} {S S' : List Addr} (hS : Fp[i]?.getD [] = S) (ext : ∀ a o, a ∉ S → H a = some o → H' a = some o) (fr : ∀ a ∈ S', a ∈ S ∨ H a = none) : (gS K H C Fp mu).To0 (gS K H' C (Fp.set i S') mu) := by
  have iF : ∀ a ∈ S, a ∈ Fp.flatten := fun a ha => mem_flat (i := i) (by rw [hS]; exact ha)
  refine ⟨rfl, fun a o e k => ⟨ext a o (fun z => k (.inr (.inl (iF a z)))) e, fun z => k ?_⟩, fun _ _ e => e⟩
  rcases z with z | z | z
  · exact .inl z
  · rcases flat_set z with z | z
    · rcases fr a z with z | z
      · exact .inr (.inl (iF a z))
      · have e : H a = some o := e
        rw [z] at e; cases e
    · exact .inr (.inl z)
  · exact .inr (.inr z)
/-- an owned value changed: its nodes S are S' then -/
theorem SR.mutG (s : SR K C fl ρ M σ H Fp mu) {i d : Nat} {x x' : W} {v : V} {S S' : List Addr} (hf : fl[i]? = some (.ow d)) (hx : ρ[i]? = some (some x)) (hv : (σ[i]?).join = some v) (hS : Fp[i]?.getD [] = S)
    (ext : ∀ a o, a ∉ S → H a = some o → H' a = some o) (nd' : S'.Nodup) (fr : ∀ a ∈ S', a ∈ S ∨ H a = none) (live : ∀ a, a ∈ S ∨ a ∈ S' → ∃ o, H' a = some o ∧ NT o)
    (hn : Own (gS K H' C (Fp.set i S') mu) d x' v S') : Pst K C fl ρ σ Fp H mu fl (ρ.set i (some x')) M σ H' (Fp.set i S') mu := by
  have iF : ∀ a ∈ S, a ∈ Fp.flatten := fun a ha => mem_flat (i := i) (by rw [hS]; exact ha)
  have hi : i < ρ.length := (List.getElem?_eq_some_iff.mp hx).1
  have hiF : i < Fp.length := by have := s.lr; have := s.lp; omega
  have nd := List.nodup_append.mp s.nd
  -- of the new nodes
  have new : ∀ a o, H a = some o → a ∈ (Fp.set i S').flatten → a ∈ Fp.flatten := fun a o e z => by
    rcases flat_set z with z | z
    · rcases fr a z with z | z
      · exact iF a z
      · rw [z] at e; cases e
    · exact z
  have eB : ∀ a o, H a = some o → allB C (Fp.set i S') mu a → allB C Fp mu a := fun a o e z => by
    rcases z with z | z | z
    · exact .inl z
    · exact .inr (.inl (new a o e z))
    · exact .inr (.inr z)
  have t0 : (gT K H C Fp mu).To0 (gT K H' C (Fp.set i S') mu) := ⟨rfl, fun a o e k => ⟨ext a o (fun z => k (.inr (.inl (iF a z)))) e, fun z => k (eB a o e z)⟩, fun _ _ e => e⟩
  have t1 : (gS K H C Fp mu).To (gS K H' C (Fp.set i S') mu) := ⟨rfl, t0.h0, fun a o e k => ⟨ext a o (fun z => k (.inr (iF a z))) e, fun z => k (z.imp id (new a o e))⟩, fun _ _ e => e⟩
  have all : ∀ a, (∃ o, H a = some o) → ∃ o, H' a = some o := fun a ⟨o, e⟩ => by
    by_cases z : a ∈ S
    · exact (live a (.inl z)).imp fun _ h => h.1
    · exact ⟨o, ext a o z e⟩
  have alln : ∀ a, (∃ o, H a = some o ∧ NT o) → ∃ o, H' a = some o ∧ NT o := fun a ⟨o, e, n⟩ => by
    by_cases z : a ∈ S
    · exact live a (.inl z)
    · exact ⟨o, ext a o z e, n⟩
  have nS' : ∀ a ∈ S', a ∉ (Fp.set i []).flatten ∧ a ∉ mu ∧ ¬ C a := fun a ha => by
    rcases fr a ha with z | z
    · refine ⟨fun k => ?_, fun k => nd.2.2 a k a (iF a z) rfl, s.cd a (List.mem_append_right _ (iF a z))⟩
      obtain ⟨l, hl, h⟩ := List.mem_flatten.mp k
      obtain ⟨j, hj, e⟩ := List.mem_iff_getElem.mp hl
      by_cases q : i = j
      · subst q
        rw [List.getElem_set_self] at e
        rw [← e] at h; cases h
      · rw [List.getElem_set_ne q] at e
        have hj' : j < Fp.length := by simpa using hj
        exact q (flat_one nd.2.1 (by rw [hS]; exact z) (by rw [List.getElem?_eq_getElem hj', e]; exact h))
    · have no : ∀ o, H a ≠ some o := fun o e => by rw [z] at e; cases e
      refine ⟨fun k => ?_, fun k => ?_, fun k => ?_⟩
      · obtain ⟨o, e⟩ := s.tr a (List.mem_append_right _ (flat_set_nil k)); exact no o e
      · obtain ⟨o, e⟩ := s.tr a (List.mem_append_left _ k); exact no o e
      · obtain ⟨o, e⟩ := s.ct a k; exact no o e
  have setset : Fp.set i S' = (Fp.set i []).set i S' := by rw [List.set_set]
  have sr : SR K C fl (ρ.set i (some x')) M σ H' (Fp.set i S') mu := by
    refine ⟨by simpa using s.lr, by simpa using s.lp, s.lf, ?_, fun a h => ?_, fun a h => alln a (s.ct' a h), fun a h => ?_, s.cl, fun n y b e1 e2 => (s.ce n y b e1 e2).to0 t0 fun c o hc h => ext c o ?_ h, fun j g y hg hy => ?_⟩
    · refine List.nodup_append.mpr ⟨nd.1, ?_, fun a ha b hb e => ?_⟩
      · rw [setset]
        exact nodup_set (nodup_setNil nd.2.1) nd' fun a ha => (nS' a ha).1
      · subst e
        rcases flat_set hb with z | z
        · exact (nS' a z).2.1 ha
        · exact nd.2.2 a ha a z rfl
    · rcases List.mem_append.mp h with z | z
      · exact s.cd a (List.mem_append_left _ z)
      · rcases flat_set z with z | z
        · exact (nS' a z).2.2
        · exact s.cd a (List.mem_append_right _ z)
    · rcases List.mem_append.mp h with z | z
      · exact alln a (s.tr' a (List.mem_append_left _ z))
      · rcases flat_set z with z | z
        · exact live a (.inr z)
        · exact alln a (s.tr' a (List.mem_append_right _ z))
    · rw [List.mem_singleton.mp hc]
      exact fun z => nd.2.2 b (List.mem_of_getElem? e2) b (iF b z) rfl
    · by_cases e : i = j
      · subst e
        rw [hf] at hg; cases hg
        rw [List.getElem?_set_self hi] at hy
        cases hy
        refine ⟨v, hv, ?_⟩
        rw [List.getElem?_set_self hiF]; exact hn
      · rw [List.getElem?_set_ne e] at hy
        rw [List.getElem?_set_ne e]
        refine (s.sl j g y hg hy).to t1 fun b o hb h => ext b o (fun z => ?_) h
        exact e (flat_one nd.2.1 (by rw [hS]; exact z) hb)
  refine ⟨fun a o h _ k => ext a o (fun z => k (iF a z)) h, ⟨[], by simp, fun _ h => nomatch h⟩, fun a h => ?_, fun a h => all a (s.tk a h), fun j d hj => ?_, fun _ _ h => h, sr⟩
  · rcases flat_set h with z | z
    · exact (fr a z).imp (iF a) id
    · exact .inl z
  · have ne : i ≠ j := fun z => by subst z; rw [hf] at hj; cases hj
    exact ⟨hj, by rw [List.getElem?_set_ne ne], rfl⟩
/-- slots forgotten -/
theorem wipeE_get {ρ : Env} {i : Nat} : ∀ {vs : List Nat}, i ∉ vs → (wipeE ρ vs)[i]? = ρ[i]?
  | [], _ => rfl
  | v :: vs, h => by
    rw [List.mem_cons, not_or] at h
    unfold wipeE
    rw [List.getElem?_set_ne (fun e => h.1 e.symm)]
    exact wipeE_get h.2
theorem wipeE_len {ρ : Env} : ∀ {vs : List Nat}, (wipeE ρ vs).length = ρ.length
  | [] => rfl
  | v :: vs => by unfold wipeE; rw [List.length_set]; exact wipeE_len
theorem SR.forget (s : SR K C fl ρ M σ H Fp mu) {vs : List Nat} (hv : ∀ i ∈ vs, fl[i]? = some .pl) : Pst K C fl ρ σ Fp H mu fl (wipeE ρ vs) M σ H Fp mu := by
  refine ⟨fun _ _ h _ _ => h, ⟨[], by simp, fun _ h => nomatch h⟩, fun _ h => .inl h, s.tk, fun j d hj => ⟨hj, wipeE_get fun z => ?_, rfl⟩, fun _ _ h => h, ⟨by rw [wipeE_len]; exact s.lr, s.lp, s.lf, s.nd, s.cd, s.ct', s.tr', s.cl, s.ce, fun i g x hg hx => ?_⟩⟩
  · rw [hv j z] at hj; cases hj
  · exact s.sl i g x hg (by rw [wipeE_get (wipeE_some hx)] at hx; exact hx)
end

section
variable {X : Cx} {cl : Nat → List W → List W → R W} {w : Wish} {ret : Lv} {fl fn fb fc f1 : List Fg} {C : Addr → Prop} {ρ : Env} {M : List Mi.W} {σ : L2.St} {H : Hp} {Fp : List (List Addr)} {mu : List Addr} {D : Ends} {lv : Lv} {pos : Pos}
theorem ss_wipe {sts : List Stmt} {is : List Nat} {ss : List S} (hs : PSs X sts (TSs cl w ret fl fn fb fc ss)) (hl : ∀ i ∈ is, fl[i]? = some Fg.pl) : PSs X sts (TSs cl w ret fl fn fb fc (.wipe is :: ss)) :=
  PSs.weak hs fun D σ H ⟨C, ρ, M, Fp, mu, sr, q⟩ => ⟨C, wipeE ρ is, M, Fp, mu, (sr.forget hl).sr, OutS.shift (sr.forget hl) q⟩

/-! ### x.remove(y) -/
def rRemD (K : PySem.W.Frag) : V → List V → Hp → VK → Prop := fun x xs H Q => ∃ (a : Addr) (us : List V) (y : V) (d : PyData) (ds : List PyData) (j : Nat) (z : PyData), x = V.ref a ∧ xs = [y] ∧ H a = some (.lst us) ∧ DpAll K H us ds ∧ Dp K H y d ∧
  SeqAt.shaped (.list ds) = true ∧ SeqAt.shaped d = true ∧ ds[j]? = some z ∧ PyData.eqv z d = true ∧ (∀ (m : Nat) (z' : PyData), m < j → ds[m]? = some z' → PyData.eqv z' d = false) ∧ Q .non (upd H a (.lst (us.eraseIdx j)))
theorem mt_removeD (hu : X.A.units + 65 < cLine) : MtM X "list.remove" (rRemD X.K) := by
  intro pins s σ H x xs v us' Q I rx rxs h
  obtain ⟨a, us, y, d, ds, j, z, rfl, rfl, hH, hl, hy, sl, sd, hz, hzj, hno, q⟩ := h
  cases rx
  obtain ⟨uy, rfl, ry⟩ := rxs.one
  obtain ⟨bs, r1⟩ := Dp.reads I d y uy hy ry
  have hxs : PyData.canLayAll0 ds = true := SeqAt.canLay_of_shaped sl
  obtain ⟨zl, its, n, r, hlen, e⟩ := I.lstM hH
  obtain ⟨as, h4⟩ := Dp.readsAll I ds _ its hl r
  have hn : its.length = ds.length := SeqAt.ReadsAll.length ds its as h4
  have hmap : its.map (SeqAt.readOf s.heap) = ds := SeqAt.readsAll_map ds its as hxs h4
  have hjd : j < ds.length := (List.getElem?_eq_some_iff.mp hz).1
  have hj : j < its.toArray.size := by rw [List.size_toArray, hn]; exact hjd
  have get : ∀ (m : Nat) (hm : m < its.toArray.size) (z' : PyData), ds[m]? = some z' → SeqAt.readOf s.heap its.toArray[m] = z' := fun m hm z' hz' => by
    have hml : m < its.length := by simpa using hm
    rw [← hmap, List.getElem?_map, List.getElem?_eq_getElem hml] at hz'
    have k : SeqAt.readOf s.heap its[m] = z' := Option.some.inj hz'
    simpa using k
  refine call_meets PySem.F.slot_list_remove ⟨_, e, rfl⟩ PySem.F.entry_list_remove (PySem.F.args_list_remove_2 _ _)
    (SeqAt.list_removeAt a its.toArray n none #[] uy (fun u => PyData.eqv (SeqAt.readOf s.heap u) d) j hj ?_ (fun m hm lt => ?_) (by rw [List.size_toArray, ← hlen]; exact zl)) ⟨e, SeqAt.items_eqAt (vs := its.toArray) (show ReadsAll s.heap its.toArray.toList ds as from h4) r1 hxs (SeqAt.canLay_of_shaped sd) (room_in_shaped sd hu), ?_⟩
  · show PyData.eqv (SeqAt.readOf s.heap its.toArray[j]) d = true
    rw [get j hj z hz]; exact hzj
  · show PyData.eqv (SeqAt.readOf s.heap its.toArray[m]) d = false
    have hmd : m < ds.length := by rw [List.size_toArray, hn] at hm; exact hm
    rw [get m hm ds[m] (List.getElem?_eq_getElem hmd)]
    exact hno m _ lt (List.getElem?_eq_getElem hmd)
  · refine ⟨.non, _, I.lset (its' := its.eraseIdx j) hH e ?_ (r.eraseIdx j) (Nat.le_trans (List.length_eraseIdx_le ..) zl), rfl, q⟩
    show its.toArray.eraseIdxIfInBounds j = (its.eraseIdx j).toArray
    rw [List.eraseIdxIfInBounds_toArray]
end
section
variable {X : Cx} {cl : Nat → List W → List W → R W} {w : Wish} {ret : Lv} {fl fn fb fc f1 : List Fg} {C : Addr → Prop} {ρ : Env} {M : List Mi.W} {σ : L2.St} {H : Hp} {Fp : List (List Addr)} {mu : List Addr} {D : Ends} {lv : Lv} {pos : Pos}
theorem ps_rem {p pe : Expr} {apos cpos : Pos} {i : Nat} {e : E} (hk : w.K = X.K) (hu : X.A.units + 65 < cLine) (ho : PE X p (tVar i)) (ha : PA X [pe] (TL cl w fl [2] [e])) (hf : fl[i]? = some (.ow 1)) (hs : swapsWith (.Call (.Attribute p "remove" apos) [pe] [] cpos) none pos.line X.env = pure false)
    (hbase : attributeBase p "remove" X.env (eval p X.env) = eval p X.env)
    (hfew : ((backTo cpos (starEach [pe] X.env)).all (fun x => !x.1) && (backToKw cpos (keywordEach [] X.env)).all (fun x => x.1.isSome) && decide (([pe] : List Expr).length + ([] : List Keyword).length + (if ([] : List Keyword).isEmpty then 0 else 1) < 30)) = true)
    (hline : (apos.endLine == cpos.line) = true) (hst : starEach [pe] X.env = (false, eval pe X.env) :: starEach [] X.env) (hpl : (backTo cpos (starEach [] X.env)).any (·.1) = false) :
    PS X (.Expr (.Call (.Attribute p "remove" apos) [pe] [] cpos) pos) (TSt cl w ret fl fl fb fc (.rem i e)) := by
  refine PS.weak (ps_expr (pe_bm PySem.F.plainAttrs_list PySem.F.slot_list_remove PySem.F.type_list_remove (mt_removeD hu) ho ha hbase hfew hline hst hpl) hs) fun D σ H ⟨C, ρ, M, Fp, mu, s, q⟩ => ?_
  have q : OutS w ret fl fl fb fc ρ σ Fp C H mu (match slot ρ i with
    | some (.lst ws) => (ev cl e ρ M).bind fun w M => R.of ((remW ws w).map fun z => (Fl.nx, ρ.set i (some z))) M
    | _ => .no) D := q
  split at q
  · rename_i ws es
    have hx := slot_some es
    obtain ⟨v, ev', r⟩ := s.sl i _ _ hf hx
    obtain ⟨a, vs, e1, h1, h2, h3, h4⟩ := own1_lst r
    subst e1
    refine ⟨.ref a, join_some ev', ?_, bindL1 isOutS s (inS s q) fun x u M1 H1 mu1 p1 r1 q1 => ?_⟩
    · rw [← hk]; exact .inl ⟨rfl, vs, .inl (.inl h1)⟩
    · have q1 := q1.2
      obtain ⟨v', ev2, r'⟩ := p1.sr.sl i _ _ hf hx
      rw [ev'] at ev2
      cases ev2
      obtain ⟨a', vs', e1, h1', h2', h3', h4'⟩ := own1_lst r'
      cases e1
      unfold remW at q1
      split at q1
      · rename_i hd
        cases ef : findIx ws x with
        | none => rw [ef] at q1; exact q1.elim
        | some n =>
          rw [ef] at q1
          have q1 : ∀ σ' H' Fp' mu', Pst w.K C fl ρ σ Fp H1 mu1 fl (ρ.set i (some (.lst (ws.eraseIdx n)))) M1 σ' H' Fp' mu' → D.nx σ' H' := q1
          obtain ⟨⟨z1, hz1, hz2⟩, hno⟩ := findIx_spec _ _ _ ef
          obtain ⟨k1, k2⟩ := r1.shaped hd.1
          have dl : depthL ws ≤ 59 := by have := hd.2; unfold W.depth at this; omega
          obtain ⟨j1, j2, j3⟩ := RepL.dp h3' (by omega)
          rw [← hk]
          refine ⟨a, vs', u, dat x, datL ws, n, dat z1, rfl, rfl, h1', j1, k1, ?_, k2, ?_, ?_, fun m z' hm hz' => ?_, q1 σ _ Fp mu1 (p1.sr.mut hf hx ev' h4' (own_lst (vs := vs'.eraseIdx n) ?_ (Nat.le_trans (List.length_eraseIdx_le ..) h2') upd_same))⟩
          · unfold SeqAt.shaped
            simp only [PyData.canLay0, j2, PyData.depth, Bool.true_and, decide_eq_true_eq]
            exact decide_eq_true (by omega)
          · rw [datL_get, List.getElem?_map, hz1]; rfl
          · rw [dat_eqv]; exact hz2
          · rw [datL_get, List.getElem?_map] at hz'
            obtain ⟨z2, e2, e3⟩ := Option.map_eq_some_iff.mp hz'
            subst e3
            rw [dat_eqv]
            exact hno m z2 hm e2
          · exact RepL.to0 (mut_to0 h4') (h3'.erase n)
      · exact q1.elim
  · exact q.elim

/-! ### x.pop(k), kept -/
/-- what is asked of a pop, and what it gives -/
theorem pop_at {i : Nat} {ws : List Mi.W} {k : Int} {y z : Mi.W} (s : SR w.K C fl ρ M σ H Fp mu) (hf : fl[i]? = some (.ow 1)) (hx : ρ[i]? = some (some (.lst ws))) (hp : popW (.lst ws) (.int k) = some (y, z)) {Q : VK} {a : Addr} (ev' : (σ[i]?).join = some (.ref a))
    (g : ∀ u H', Pst w.K C fl ρ σ Fp H mu fl (ρ.set i (some z)) M σ H' Fp mu → Rep (gT w.K H' C Fp mu) y 0 u → Q u H') : rPopAt (.ref a) [.int k] H Q := by
  obtain ⟨v, ev2, r⟩ := s.sl i _ _ hf hx
  rw [ev'] at ev2
  cases ev2
  obtain ⟨a', vs, e1, h1, h2, h3, h4⟩ := own1_lst r
  cases e1
  have hp : (if -(2 ^ 63) ≤ k ∧ k < 2 ^ 63 then (ixN ws.length k).bind fun j => ws[j]?.map fun y => (y, W.lst (ws.eraseIdx j)) else none) = some (y, z) := hp
  split at hp
  · rename_i hl
    cases ei : ixN ws.length k with
    | none => rw [ei] at hp; cases hp
    | some j =>
      rw [ei] at hp
      cases ey : ws[j]? with
      | none => simp [ey] at hp
      | some y' =>
        simp [ey] at hp
        obtain ⟨e1, e2⟩ := hp
        subst e1 e2
        obtain ⟨u', eu, ru⟩ := h3.get ey
        rw [← h3.len] at ei
        have st := s.mut (o := .lst (vs.eraseIdx j)) hf hx ev' h4 (own_lst (vs := vs.eraseIdx j) (RepL.to0 (mut_to0 h4) (h3.erase j)) (Nat.le_trans (List.length_eraseIdx_le ..) h2) upd_same)
        refine ⟨a, vs, k, j, u', rfl, rfl, h1, hl.1, hl.2, (ixN_seq ei).1, eu, g u' _ st ?_⟩
        exact Rep.to0 (G := gS w.K (upd H a (.lst (vs.eraseIdx j))) C Fp mu) (G' := gT w.K (upd H a (.lst (vs.eraseIdx j))) C Fp mu) ⟨rfl, fun a o e k => ⟨e, k⟩, fun _ _ e => e⟩ (ru.to0 (mut_to0 h4))
  · cases hp
theorem tL_one {e : E} {d : Nat} {P : List V → Hp → Prop} (h : At w.K fl σ H fun ρ M Fp C mu => OutL w fl [d] ρ σ Fp C H mu (evs cl [e] ρ M) P) : TL cl w fl [d] [e] σ H P := h
/-- x = y.pop(e) -/
theorem ps_pv {p pe tg : Expr} {apos cpos : Pos} {i j : Nat} {e : E} (hk : w.K = X.K) (ho : PE X p (tVar j)) (ha : PA X [pe] (TL cl w fl [2] [e])) (hf : fl[j]? = some (.ow 1)) (hg : PG X tg (gName i)) (hbo : ∀ d, fl[i]? ≠ some (.bo d))
    (hs : swapsWithSole [tg] (.Call (.Attribute p "pop" apos) [pe] [] cpos) pos.line X.env = pure false) (hw : swappedStores [tg] (.Call (.Attribute p "pop" apos) [pe] [] cpos) X.env = pure none) (h1 : (assignEach [tg] X.env).map (·.2) = [assign tg X.env])
    (hbase : attributeBase p "pop" X.env (eval p X.env) = eval p X.env)
    (hfew : ((backTo cpos (starEach [pe] X.env)).all (fun x => !x.1) && (backToKw cpos (keywordEach [] X.env)).all (fun x => x.1.isSome) && decide (([pe] : List Expr).length + ([] : List Keyword).length + (if ([] : List Keyword).isEmpty then 0 else 1) < 30)) = true)
    (hline : (apos.endLine == cpos.line) = true) (hst : starEach [pe] X.env = (false, eval pe X.env) :: starEach [] X.env) (hpl : (backTo cpos (starEach [] X.env)).any (·.1) = false) :
    PS X (.Assign [tg] (.Call (.Attribute p "pop" apos) [pe] [] cpos) pos) (TSt cl w ret fl (fl.set i .pl) fb fc (.popv i j e)) := by
  refine PS.weak (ps_asg (pe_bm PySem.F.plainAttrs_list PySem.F.slot_list_pop PySem.F.type_list_pop mt_popAt ho ha hbase hfew hline hst hpl) hg hs hw h1) fun D σ H ⟨C, ρ, M, Fp, mu, s, q⟩ => ?_
  have q : OutS w ret fl (fl.set i .pl) fb fc ρ σ Fp C H mu (match slot ρ j with
    | some (.lst ws) => if i = j ∨ ¬ i < ρ.length then .no else (ev cl e ρ M).bind fun w M => R.of ((popW (.lst ws) w).map fun z => (Fl.nx, (ρ.set j (some z.2)).set i (some z.1))) M
    | _ => .no) D := q
  split at q
  · rename_i ws es
    split at q
    · exact q.elim
    rename_i hij
    rw [not_or, Classical.not_not] at hij
    have hx := slot_some es
    obtain ⟨v, ev', r⟩ := s.sl j _ _ hf hx
    obtain ⟨a, vs, e1, h1, h2, h3, h4⟩ := own1_lst r
    subst e1
    refine ⟨.ref a, join_some ev', ?_, bindL1 isOutS s (inS s q) fun x u M1 H1 mu1 p1 r1 q1 => ?_⟩
    · rw [← hk]; exact .inl ⟨rfl, vs, .inl (.inl h1)⟩
    · have q1 := q1.2
      cases ep : popW (.lst ws) x with
      | none => rw [ep] at q1; exact q1.elim
      | some yz =>
        rw [ep] at q1
        obtain ⟨y, z⟩ := yz
        have q2 : ∀ σ' H' Fp' mu', Pst w.K C fl ρ σ Fp H1 mu1 (fl.set i .pl) ((ρ.set j (some z)).set i (some y)) M1 σ' H' Fp' mu' → D.nx σ' H' := q1
        clear q1 q
        cases x with
        | int k =>
          rw [rep_int r1]
          refine pop_at p1.sr hf hx ep ev' fun u' H2 st ru => ?_
          refine q2 _ H2 Fp mu1 (st.trans (set_pst st.sr (by rw [List.length_set]; exact hij.2) hbo ru))
        | _ => cases ep
  · exact q.elim
/-- x.append(y.pop(e)) -/
theorem ps_apop {p po pe : Expr} {apos apos2 cpos cpos2 : Pos} {i j : Nat} {e : E} (hk : w.K = X.K) (hi : PE X p (tVar i)) (ho : PE X po (tVar j)) (ha : PA X [pe] (TL cl w fl [2] [e])) (hfi : fl[i]? = some (.ow 1)) (hf : fl[j]? = some (.ow 1))
    (hs : swapsWith (.Call (.Attribute p "append" apos) [.Call (.Attribute po "pop" apos2) [pe] [] cpos2] [] cpos) none pos.line X.env = pure false)
    (hbase : attributeBase p "append" X.env (eval p X.env) = eval p X.env) (hbase2 : attributeBase po "pop" X.env (eval po X.env) = eval po X.env)
    (hfew : ((backTo cpos2 (starEach [pe] X.env)).all (fun x => !x.1) && (backToKw cpos2 (keywordEach [] X.env)).all (fun x => x.1.isSome) && decide (([pe] : List Expr).length + ([] : List Keyword).length + (if ([] : List Keyword).isEmpty then 0 else 1) < 30)) = true)
    (hline : (apos.endLine == cpos.line) = true) (hline2 : (apos2.endLine == cpos2.line) = true) (hst : starEach [pe] X.env = (false, eval pe X.env) :: starEach [] X.env) (hpl : (backTo cpos2 (starEach [] X.env)).any (·.1) = false) :
    PS X (.Expr (.Call (.Attribute p "append" apos) [.Call (.Attribute po "pop" apos2) [pe] [] cpos2] [] cpos) pos) (TSt cl w ret fl fl fb fc (.apop i j e)) := by
  refine PS.weak (ps_expr (pe_bm PySem.F.plainAttrs_list PySem.F.slot_list_append PySem.F.type_list_append mt_append hi (pa_cons (pe_bm PySem.F.plainAttrs_list PySem.F.slot_list_pop PySem.F.type_list_pop mt_popAt ho ha hbase2 hfew hline2 hst hpl) pa_nil rfl) hbase rfl hline rfl rfl) hs) fun D σ H ⟨C, ρ, M, Fp, mu, s, q⟩ => ?_
  have q : OutS w ret fl fl fb fc ρ σ Fp C H mu (match slot ρ i, slot ρ j with
    | some (.lst us), some (.lst ws) => if i = j then .no else (ev cl e ρ M).bind fun w M => match popW (.lst ws) w with
      | some (y, z) => R.of ((appW (.lst us) y).map fun u => (Fl.nx, (ρ.set j (some z)).set i (some u))) M
      | none => .no
    | _, _ => .no) D := q
  split at q
  · rename_i us ws es1 es
    split at q
    · exact q.elim
    rename_i hij
    have hx1 := slot_some es1
    have hx := slot_some es
    obtain ⟨v1, ev1, rr1⟩ := s.sl i _ _ hfi hx1
    obtain ⟨b, vs1, e1, g1, g2, g3, g4⟩ := own1_lst rr1
    subst e1
    obtain ⟨v, ev', r⟩ := s.sl j _ _ hf hx
    obtain ⟨a, vs, e1, h1, h2, h3, h4⟩ := own1_lst r
    subst e1
    refine ⟨.ref b, join_some ev1, ?_, .ref a, join_some ev', ?_, bindL1 isOutS s (inS s q) fun x u M1 H1 mu1 p1 r1 q1 => ?_⟩
    · rw [← hk]; exact .inl ⟨rfl, vs1, .inl (.inl g1)⟩
    · rw [← hk]; exact .inl ⟨rfl, vs, .inl (.inl h1)⟩
    · have q1 := q1.2
      cases ep : popW (.lst ws) x with
      | none => rw [ep] at q1; exact q1.elim
      | some yz =>
        rw [ep] at q1
        obtain ⟨y, z⟩ := yz
        have q1 : OutS w ret fl fl fb fc ρ σ Fp C H1 mu1 (R.of ((if us.length < sizeLine then some (W.lst (us ++ [y])) else none).map fun u => (Fl.nx, (ρ.set j (some z)).set i (some u))) M1) D := q1
        split at q1
        · rename_i hl
          have q2 : ∀ σ' H' Fp' mu', Pst w.K C fl ρ σ Fp H1 mu1 fl ((ρ.set j (some z)).set i (some (.lst (us ++ [y])))) M1 σ' H' Fp' mu' → D.nx σ' H' := q1
          clear q1 q
          cases x with
          | int k =>
            rw [rep_int r1]
            refine pop_at p1.sr hf hx ep ev' fun u' H2 st ru => ?_
            have hx2 : (ρ.set j (some z))[i]? = some (some (.lst us)) := by rw [List.getElem?_set_ne (fun e => hij e.symm)]; exact hx1
            obtain ⟨v2, ev2, rr2⟩ := st.sr.sl i _ _ hfi hx2
            rw [ev1] at ev2
            cases ev2
            obtain ⟨b', vs', e1, g1', g2', g3', g4'⟩ := own1_lst rr2
            cases e1
            have hl' : vs'.length < sizeLine := by rw [g3'.len]; exact hl
            refine ⟨b, vs', u', rfl, rfl, g1', hl', q2 σ _ Fp mu1 (st.trans (st.sr.mut hfi hx2 ev1 g4' (own_lst (vs := vs' ++ [u']) ?_ (by rw [List.length_append]; exact hl') upd_same)))⟩
            exact RepL.to0 (mut_to0 g4') (g3'.append (.cons (ru.to0 gS_gT0) .nil))
          | _ => cases ep
        · exact q1.elim
  · exact q.elim
end
end Mi
end MiX_

section MiY_
set_option linter.all false
set_option Elab.async false
/-! MiY: d.setdefault(k, []).append(v). -/
namespace Mi
open PySem PySem.Spec PyProof.Rows L2

/-- d.setdefault(y, z), the keys ints and texts -/
def rSetd : V → List V → Hp → VK → Prop := fun x xs H Q => ∃ a ys k y z, x = .ref a ∧ xs = [y, z] ∧ DAt H a ys ∧ (ys.all fun p => p.1.flat) = true ∧ k.flat = true ∧ kyV k H y ∧ ys.length < sizeLine ∧
  (∀ v, getV ys k = some v → Q v H) ∧ (getV ys k = none → ∀ ho, DAt (upd H a ho) a (putK ys k z) → Q z (upd H a ho))
theorem getV_ofK : ∀ (zs : List (L2.Key × V)) (k : L2.Key), getV (zs.map fun p => (ofK p.1, p.2)) (ofK k) = valV zs k
  | [], _ => rfl
  | z :: zs, k => by
    have ih := getV_ofK zs k
    unfold getV valV at ih ⊢
    rw [List.map_cons, List.find?_cons, List.find?_cons]
    by_cases e : z.1 = k
    · have h1 : decide (ofK z.1 = ofK k) = true := decide_eq_true (by rw [e])
      simp only [h1, decide_eq_true e]; rfl
    · have h1 : decide (ofK z.1 = ofK k) = false := decide_eq_false fun q => e (ofK_inj q)
      simp only [h1, decide_eq_false e]; exact ih
theorem mt_setd {X : Cx} : MtM X "dict.setdefault" rSetd := by
  intro pins s σ H x xs v us Q I rx rxs h
  obtain ⟨a, ys, k, y, z, rfl, rfl, hd, hf, hk, hv, hl, q1, q2⟩ := h
  cases rx
  obtain ⟨u, u', rfl, ru, ru'⟩ := vals2 rxs
  obtain ⟨key, ek, ey⟩ : ∃ key : L2.Key, k = ofK key ∧ y = kV key := by
    cases k with
    | i n => exact ⟨.inl n, rfl, hv⟩
    | s n => exact ⟨.inr n, rfl, hv⟩
    | t n => cases hk
  subst ek ey
  rcases hd with ⟨zs, e, ez⟩ | ⟨zs, e, ez⟩
  · subst ez
    refine d_setd I e ru ru' (by rw [List.length_map] at hl; exact hl) (fun v hv' w' s' I' r => ?_) fun hn w' s' I' r => ?_
    · exact ⟨v, H, I', r, q1 v (by rw [getV_ofK]; exact hv')⟩
    · exact ⟨z, _, I', r, q2 (by rw [getV_ofK]; exact hn) _ (.inl ⟨_, upd_same, by rw [putK_map fun _ _ => ofK_inj]⟩)⟩
  · cases zs with
    | cons z zr =>
      exfalso
      rw [ez, List.map_cons, List.all_cons] at hf
      simp [Ky.flat] at hf
    | nil =>
      subst ez
      refine d_setd (inv_tk I e) (kvs := []) upd_same ru ru' (by rw [sizeLine_eq]; decide) (fun v hv' => by cases hv') fun hn w' s' I' r => ?_
      rw [updupd] at I'
      exact ⟨z, _, I', r, q2 rfl _ (.inl ⟨_, upd_same, by rw [putK_map fun _ _ => ofK_inj]; rfl⟩)⟩
theorem dat_uniq {H : Hp} {a : Addr} {xs ys : List (Ky × V)} (h : DAt H a xs) (k : DAt H a ys) : xs = ys := by
  rcases h with ⟨zs, e, q⟩ | ⟨zs, e, q⟩ <;> rcases k with ⟨zs', e', q'⟩ | ⟨zs', e', q'⟩ <;> rw [e] at e' <;> cases e' <;> rw [q, q']
theorem F3.len {R : W → V → List Addr → Prop} : ∀ {ws : List W} {vs : List V} {ss : List (List Addr)}, F3 R ws vs ss → vs.length = ws.length ∧ ss.length = ws.length
  | _, _, _, .nil => ⟨rfl, rfl⟩
  | _, _, _, .cons _ t => ⟨by simp [t.len.1], by simp [t.len.2]⟩
theorem F3.at {R : W → V → List Addr → Prop} : ∀ {ws : List W} {vs : List V} {ss : List (List Addr)} {j : Nat} {w : W}, F3 R ws vs ss → ws[j]? = some w → ∃ v s, vs[j]? = some v ∧ ss[j]? = some s ∧ R w v s
  | _, _, _, j, _, .nil, e => by simp at e
  | _, _, _, 0, _, .cons h t, e => by simp at e; subst e; exact ⟨_, _, rfl, rfl, h⟩
  | _, _, _, j + 1, _, .cons h t, e => by
    obtain ⟨v, s, e1, e2, r⟩ := t.at (j := j) (by simpa using e)
    exact ⟨v, s, by simpa using e1, by simpa using e2, r⟩
theorem F3.snoc {R : W → V → List Addr → Prop} {w : W} {v : V} {s : List Addr} (h : R w v s) : ∀ {ws : List W} {vs : List V} {ss : List (List Addr)}, F3 R ws vs ss → F3 R (ws ++ [w]) (vs ++ [v]) (ss ++ [s])
  | _, _, _, .nil => .cons h .nil
  | _, _, _, .cons h1 t => .cons h1 (F3.snoc h t)
/-- the j-th otherwise, the others by another ghost -/
theorem F3.setAt {R R' : W → V → List Addr → Prop} {w' : W} {v : V} {s : List Addr} (hn : R' w' v s) : ∀ {ws : List W} {vs : List V} {ss : List (List Addr)} {j : Nat}, F3 R ws vs ss → vs[j]? = some v → ss[j]? = some s → (∀ (m : Nat) (w : W) (v : V) (s : List Addr), m ≠ j → ss[m]? = some s → R w v s → R' w v s) → F3 R' (ws.set j w') vs ss
  | _, _, _, j, .nil, e, _, _ => by simp at e
  | _, _, _, 0, .cons h t, e1, e2, f => by
    simp at e1 e2
    subst e1 e2
    refine .cons hn ?_
    have : ∀ {ws : List W} {vs : List V} {ss : List (List Addr)} (n : Nat), F3 R ws vs ss → (∀ (m : Nat) (w : W) (v : V) (s : List Addr), ss[m]? = some s → R w v s → R' w v s) → F3 R' ws vs ss := by
      intro ws vs ss n h g
      induction h with
      | nil => exact .nil
      | cons h t ih => exact .cons (g 0 _ _ _ rfl h) (ih fun m w v s e => g (m + 1) w v s (by simpa using e))
    exact this 0 t fun m w v s e => f (m + 1) w v s (by omega) (by simpa using e)
  | _, _, _, j + 1, .cons h t, e1, e2, f => by
    rw [List.set_cons_succ]
    exact .cons (f 0 _ _ _ (by omega) rfl h) (F3.setAt hn t (by simpa using e1) (by simpa using e2) fun m w v s ne e => f (m + 1) w v s (by omega) (by simpa using e))
theorem setdJ_some {kvs : List (Ky × W)} {k : Ky} {j : Nat} (h : (kvs.findIdx? fun p => decide (p.1 = k)) = some j) : setdJ kvs k = (kvs, j) := by unfold setdJ; rw [h]
theorem setdJ_none {kvs : List (Ky × W)} {k : Ky} (h : (kvs.findIdx? fun p => decide (p.1 = k)) = none) : setdJ kvs k = (kvs ++ [(k, .lst [])], kvs.length) := by unfold setdJ; rw [h]
theorem getV_find : ∀ {xs : List (Ky × V)} {k : Ky}, getV xs k = ((xs.findIdx? fun p => decide (p.1 = k)).bind fun j => xs[j]?).map (·.2)
  | [], k => rfl
  | x :: xs, k => by
    have ih := getV_find (xs := xs) (k := k)
    unfold getV at ih ⊢
    rw [List.find?_cons, List.findIdx?_cons]
    by_cases e : x.1 = k
    · simp only [decide_eq_true e]; rfl
    · simp only [decide_eq_false e]
      rw [ih]
      cases (xs.findIdx? fun p => decide (p.1 = k)) <;> simp
theorem find_keys {α β : Type} {xs : List (Ky × α)} {ys : List (Ky × β)} {k : Ky} (h : xs.map (·.1) = ys.map (·.1)) : (xs.findIdx? fun p => decide (p.1 = k)) = ys.findIdx? fun p => decide (p.1 = k) := by
  have e1 : ∀ {γ : Type} (zs : List (Ky × γ)), (zs.findIdx? fun p => decide (p.1 = k)) = (zs.map (·.1)).findIdx? fun q => decide (q = k) := fun zs => by rw [List.findIdx?_map]; rfl
  rw [e1, e1, h]
theorem putK_new {α : Type} {xs : List (Ky × α)} {k : Ky} {v : α} (h : (xs.findIdx? fun p => decide (p.1 = k)) = none) : putK xs k v = xs ++ [(k, v)] := by
  unfold putK
  rw [if_neg]
  intro z
  obtain ⟨p, hp, e⟩ := List.any_eq_true.mp z
  have := (List.findIdx?_eq_none_iff.mp h) p hp
  rw [e] at this; cases this
theorem flatten_at {ss : List (List Addr)} {j m : Nat} {s t : List Addr} {a : Addr} (nd : ss.flatten.Nodup) (e1 : ss[j]? = some s) (e2 : ss[m]? = some t) (ha : a ∈ s) (hb : a ∈ t) : m = j :=
  (flat_one nd (i := j) (j := m) (a := a) (by rw [e1]; exact ha) (by rw [e2]; exact hb)).symm
section
variable {X : Cx} {cl : Nat → List W → List W → R W} {w : Wish} {ret : Lv} {fl fn fb fc f1 : List Fg} {C : Addr → Prop} {ρ : Env} {M : List Mi.W} {σ : L2.St} {H : Hp} {Fp : List (List Addr)} {mu : List Addr} {D : Ends} {lv : Lv} {pos : Pos}
theorem own2_dct {G : Gh} {kvs : List (Ky × Mi.W)} {v : V} {S : List Addr} (h : Own G 2 (.dct kvs) v S) : ∃ a xs Ss, v = .ref a ∧ DAt G.H a xs ∧ xs.length ≤ sizeLine ∧ kvs.map (·.1) = xs.map (·.1) ∧ F3 (Own G 1) (kvs.map (·.2)) (xs.map (·.2)) Ss ∧ S = a :: Ss.flatten := by
  unfold Own at h; exact h
theorem own2_mk {G : Gh} {kvs : List (Ky × Mi.W)} {a : Addr} {xs : List (Ky × V)} {Ss : List (List Addr)} (h1 : DAt G.H a xs) (h2 : xs.length ≤ sizeLine) (h3 : kvs.map (·.1) = xs.map (·.1)) (h4 : F3 (Own G 1) (kvs.map (·.2)) (xs.map (·.2)) Ss) : Own G 2 (.dct kvs) (.ref a) (a :: Ss.flatten) := by
  unfold Own; exact ⟨a, xs, Ss, rfl, h1, h2, h3, h4, rfl⟩
theorem isD_of {H : Hp} {a : Addr} {xs : List (Ky × V)} (h : DAt H a xs) : IsD H a := by
  rcases h with ⟨ys, e, _⟩ | ⟨ys, e, _⟩
  · exact .inl ⟨_, .inl e⟩
  · exact .inr ⟨_, .inl e⟩
/-- the list at j of the slot i's dict takes one more -/
theorem sda_app {i j : Nat} {kvs : List (Ky × Mi.W)} {ky : Ky} {ws : List Mi.W} {y : Mi.W} {u q : V} (s : SR w.K C fl ρ M σ H Fp mu) (hf : fl[i]? = some (.ow 2)) (hx : ρ[i]? = some (some (.dct kvs))) {a : Addr} (ev' : (σ[i]?).join = some (.ref a))
    (ej : kvs[j]? = some (ky, .lst ws)) (eq : ∀ xs, DAt H a xs → kvs.map (·.1) = xs.map (·.1) → (xs[j]?).map (·.2) = some q) (ry : Rep (gT w.K H C Fp mu) y 0 u) (hl : ws.length < sizeLine) {Q : Hp → Prop}
    (g : ∀ H', Pst w.K C fl ρ σ Fp H mu fl (ρ.set i (some (.dct (kvs.set j (ky, .lst (ws ++ [y])))))) M σ H' Fp mu → Q H') : ∃ b vs, q = .ref b ∧ H b = some (.lst vs) ∧ vs.length < sizeLine ∧ Q (upd H b (.lst (vs ++ [u]))) := by
  obtain ⟨v, ev2, r⟩ := s.sl i _ _ hf hx
  rw [ev'] at ev2
  cases ev2
  obtain ⟨a', xs, Ss, e1, h1, h2, h3, h4, h5⟩ := own2_dct r
  cases e1
  have h1 : DAt H a xs := h1
  have ej2 : (kvs.map (·.2))[j]? = some (.lst ws) := by rw [List.getElem?_map, ej]; rfl
  obtain ⟨v, S, e2, e3, ow⟩ := h4.at ej2
  have eqq := eq xs h1 h3
  rw [List.getElem?_map] at e2
  rw [e2] at eqq
  cases eqq
  obtain ⟨b, vs, e4, k1, k2, k3, k4⟩ := own1_lst ow
  subst e4 k4
  have nd := List.nodup_append.mp s.nd
  have iS : ∀ c, c ∈ a :: Ss.flatten → c ∈ Fp.flatten := fun c hc => mem_flat (i := i) (by rw [h5]; exact hc)
  have ndS : (a :: Ss.flatten).Nodup := by
    rw [← h5]
    cases z : Fp[i]? with
    | none => exact List.nodup_nil
    | some l => exact List.Sublist.nodup (List.sublist_flatten_of_mem (List.mem_of_getElem? z)) nd.2.1
  have bS : b ∈ Ss.flatten := List.mem_flatten.mpr ⟨[b], List.mem_of_getElem? e3, List.mem_cons_self⟩
  have nab : b ≠ a := fun z => (List.nodup_cons.mp ndS).1 (z ▸ bS)
  have fpi : Fp.set i (a :: Ss.flatten) = Fp := by
    refine List.ext_getElem? fun m => ?_
    by_cases e : i = m
    · subst e
      by_cases l : i < Fp.length
      · rw [List.getElem?_set_self l]
        rw [List.getElem?_eq_getElem l] at h5
        have h5 : Fp[i] = a :: Ss.flatten := h5
        rw [List.getElem?_eq_getElem l, h5]
      · rw [List.getElem?_eq_none (by simpa using l), List.getElem?_eq_none (by simpa using l)]
    · rw [List.getElem?_set_ne e]
  have up : ∀ c o, c ≠ b → H c = some o → upd H b (.lst (vs ++ [u])) c = some o := fun c o n e => by rw [upd_ne n]; exact e
  have hlv : vs.length < sizeLine := by rw [k3.len]; exact hl
  have t0 : (gS w.K H C Fp mu).To0 (gS w.K (upd H b (.lst (vs ++ [u]))) C Fp mu) := ⟨rfl, fun c o e k => ⟨up c o (fun z => k (.inr (.inl (iS c (z ▸ List.mem_cons_of_mem _ bS))))) e, k⟩, fun _ _ e => e⟩
  have ndF : Ss.flatten.Nodup := (List.nodup_cons.mp ndS).2
  have st := s.mutG (S := a :: Ss.flatten) (S' := a :: Ss.flatten) (H' := upd H b (.lst (vs ++ [u]))) (x' := .dct (kvs.set j (ky, .lst (ws ++ [y])))) hf hx ev' h5 (fun c o n e => up c o (fun z => n (z ▸ List.mem_cons_of_mem _ bS)) e) ndS (fun c hc => .inl hc) (fun c hc => by
      obtain ⟨o, e, n⟩ := s.tr' c (List.mem_append_right _ (iS c (hc.elim id id)))
      by_cases z : c = b
      · exact ⟨.lst (vs ++ [u]), by rw [z, upd_same], True.intro⟩
      · exact ⟨o, up c o z e, n⟩) (by
      rw [fpi]
      refine own2_mk (h1.to fun o e => up a o nab.symm e) h2 (by rw [List.map_set, h3]; exact (List.ext_getElem? fun m => by
          by_cases e : j = m
          · subst e
            by_cases l : j < (xs.map (·.1)).length
            · rw [List.getElem?_set_self l, ← h3, List.getElem?_map, ej]; rfl
            · rw [List.getElem?_eq_none (by simpa using l), List.getElem?_eq_none (by simpa using l)]
          · rw [List.getElem?_set_ne e])) ?_
      rw [List.map_set]
      refine F3.setAt (R := Own (gS w.K H C Fp mu) 1) ?_ h4 (by rw [List.getElem?_map]; exact e2) e3 fun m w' v' s' ne es o => ?_
      · refine own_lst (vs := vs ++ [u]) (RepL.to0 t0 (k3.append (.cons (ry.to0 gS_gT0) .nil))) (by rw [List.length_append]; exact hlv) upd_same
      · refine o.to0 t0 fun c o' hc e => up c o' (fun z => ?_) e
        subst z
        exact ne (flatten_at ndF e3 es List.mem_cons_self hc))
  rw [fpi] at st
  exact ⟨b, vs, rfl, k1, hlv, g _ st⟩
theorem ps_sda {p pk pv : Expr} {apos1 apos2 cpos1 cpos2 lpos : Pos} {i : Nat} {k v : E} (hk : w.K = X.K) (ho : PE X p (tVar i)) (hkk : PE X pk (TR cl w fl 2 k)) (hv : PE X pv (TR cl w fl 0 v)) (hf : fl[i]? = some (.ow 2))
    (hs : swapsWith (.Call (.Attribute (.Call (.Attribute p "setdefault" apos1) [pk, .List [] lpos] [] cpos1) "append" apos2) [pv] [] cpos2) none pos.line X.env = pure false)
    (hbase1 : attributeBase p "setdefault" X.env (eval p X.env) = eval p X.env)
    (hbase2 : attributeBase (.Call (.Attribute p "setdefault" apos1) [pk, .List [] lpos] [] cpos1) "append" X.env (eval (.Call (.Attribute p "setdefault" apos1) [pk, .List [] lpos] [] cpos1) X.env) = eval (.Call (.Attribute p "setdefault" apos1) [pk, .List [] lpos] [] cpos1) X.env)
    (hfew1 : ((backTo cpos1 (starEach [pk, .List [] lpos] X.env)).all (fun x => !x.1) && (backToKw cpos1 (keywordEach [] X.env)).all (fun x => x.1.isSome) && decide (([pk, .List [] lpos] : List Expr).length + ([] : List Keyword).length + (if ([] : List Keyword).isEmpty then 0 else 1) < 30)) = true)
    (hfew2 : ((backTo cpos2 (starEach [pv] X.env)).all (fun x => !x.1) && (backToKw cpos2 (keywordEach [] X.env)).all (fun x => x.1.isSome) && decide (([pv] : List Expr).length + ([] : List Keyword).length + (if ([] : List Keyword).isEmpty then 0 else 1) < 30)) = true)
    (hline1 : (apos1.endLine == cpos1.line) = true) (hline2 : (apos2.endLine == cpos2.line) = true) (hst1 : starEach [pk, .List [] lpos] X.env = (false, eval pk X.env) :: starEach [.List [] lpos] X.env) (hst2 : starEach [pv] X.env = (false, eval pv X.env) :: starEach [] X.env) :
    PS X (.Expr (.Call (.Attribute (.Call (.Attribute p "setdefault" apos1) [pk, .List [] lpos] [] cpos1) "append" apos2) [pv] [] cpos2) pos) (TSt cl w ret fl fl fb fc (.sda i k v)) := by
  refine PS.weak (ps_expr (pe_bm PySem.F.plainAttrs_list PySem.F.slot_list_append PySem.F.type_list_append mt_append
    (pe_bm PySem.F.plainAttrs_dict PySem.F.slot_dict_setdefault PySem.F.type_dict_setdefault mt_setd ho (pa_cons hkk (pa_cons (pe_lst pa_nil) pa_nil rfl) hst1) hbase1 hfew1 hline1 hst1 rfl)
    (pa_cons hv pa_nil hst2) hbase2 hfew2 hline2 hst2 rfl) hs) fun D σ H ⟨C, ρ, M, Fp, mu, s, q⟩ => ?_
  have q : OutS w ret fl fl fb fc ρ σ Fp C H mu (match slot ρ i with
    | some (.dct kvs) => (ev cl k ρ M).bind fun q M => match q.key? with
      | some ky => if (kvs.all fun p => p.1.flat) = true ∧ ky.flat = true ∧ kvs.length < sizeLine then
          match (setdJ kvs ky).1[(setdJ kvs ky).2]? with
          | some (_, .lst ws) => (ev cl v (ρ.set i (some (.dct (setdJ kvs ky).1))) M).bind fun y M => R.of ((appW (.lst ws) y).map fun z => (Fl.nx, ρ.set i (some (.dct ((setdJ kvs ky).1.set (setdJ kvs ky).2 (ky, z)))))) M
          | _ => .no
        else .no
      | none => .no
    | _ => .no) D := q
  split at q
  case h_2 => exact q.elim
  rename_i kvs es
  have hx := slot_some es
  obtain ⟨v0, ev', r⟩ := s.sl i _ _ hf hx
  obtain ⟨a, xs0, Ss0, e1, h1, h2, h3, h4, h5⟩ := own2_dct r
  subst e1
  refine ⟨.ref a, join_some ev', .inr (.inr (.inl ⟨rfl, ?_⟩)), bindR isOutS s (inS s q) fun x u M1 H1 mu1 p1 r1 q1 => ?_⟩
  · rcases h1 with ⟨ys, e2, _⟩ | ⟨ys, e2, _⟩
    · exact .inl ⟨_, e2⟩
    · exact .inr ⟨_, e2⟩
  have q1 := q1.2
  cases ek : x.key? with
  | none => rw [ek] at q1; exact q1.elim
  | some ky =>
    rw [ek] at q1
    simp only at q1
    split at q1
    case isFalse => exact q1.elim
    rename_i hc
    obtain ⟨c1, c2, c3⟩ := hc
    refine ⟨Nat.zero_le _, fun l hl => ?_⟩
    -- the new list
    have pf : Po w.K fl ρ σ Fp C H1 mu1 C M1 (upd H1 l (.lst [])) mu1 := Po.laid p1.sr hl
    have s2 := pf.sr
    obtain ⟨v2, ev2, r2⟩ := s2.sl i _ _ hf hx
    rw [ev'] at ev2
    cases ev2
    obtain ⟨a', xs, Ss, e1, k1, k2, k3, k4, k5⟩ := own2_dct r2
    cases e1
    have k1 : DAt (upd H1 l (.lst [])) a xs := k1
    have len : kvs.length = xs.length := by have := congrArg List.length k3; simpa using this
    have flats2 : (xs.all fun p => p.1.flat) = true := by
      have z : ∀ {γ : Type} (zs : List (Ky × γ)), (zs.all fun p => p.1.flat) = (zs.map (·.1)).all Ky.flat := fun zs => by rw [List.all_map]; rfl
      rw [z, ← k3, ← z]; exact c1
    split at q1
    case h_2 => exact q1.elim
    rename_i ws ejj
    refine ⟨a, xs, ky, u, .ref l, rfl, rfl, k1, flats2, c2, key_rep (r1.to pf.toT) ek, by rw [← len]; exact c3, fun vv hvv => ?_, fun hnn ho hd => ?_⟩
    · -- there
      have q1 := OutS.shift (pf.pst p1.sr) q1
      rw [getV_find] at hvv
      obtain ⟨⟨kk, vv'⟩, e6, e7⟩ := Option.map_eq_some_iff.mp hvv
      obtain ⟨j, ej, ejx⟩ := Option.bind_eq_some_iff.mp e6
      cases e7
      have ejk : (kvs.findIdx? fun p => decide (p.1 = ky)) = some j := by rw [find_keys k3]; exact ej
      simp only [setdJ_some ejk] at q1 ejj
      have self : ρ.set i (some (.dct kvs)) = ρ := by
        refine List.ext_getElem? fun m => ?_
        by_cases e : i = m
        · subst e
          rw [List.getElem?_set_self (List.getElem?_eq_some_iff.mp hx).1, hx]
        · rw [List.getElem?_set_ne e]
      simp only [self] at q1
      obtain ⟨v3, S3, f1, f2, f3⟩ := k4.at (j := j) (w := .lst ws) (by rw [List.getElem?_map, ejj]; rfl)
      rw [List.getElem?_map, ejx] at f1
      cases f1
      obtain ⟨b, vs, f4, f5, _⟩ := own1_lst f3
      refine ⟨?_, bindR isOutS s2 (inS s2 q1) fun y uy M3 H3 mu3 p3 r3 q3 => ?_⟩
      case refine_1 => have f4 : vv' = V.ref b := f4; subst f4; exact .inl ⟨rfl, vs, .inl (.inl f5)⟩
      have q3 : OutS w ret fl fl fb fc ρ σ Fp C H3 mu3 (R.of ((if ws.length < sizeLine then some (W.lst (ws ++ [y])) else none).map fun z => (Fl.nx, ρ.set i (some (.dct (kvs.set j (ky, z)))))) M3) D := q3.2
      split at q3
      case isFalse => exact q3.elim
      rename_i hlw
      have q3 : ∀ σ' H' Fp' mu', Pst w.K C fl ρ σ Fp H3 mu3 fl (ρ.set i (some (.dct (kvs.set j (ky, .lst (ws ++ [y])))))) M3 σ' H' Fp' mu' → D.nx σ' H' := q3
      have keep : ∀ xs', DAt H3 a xs' → kvs.map (·.1) = xs'.map (·.1) → (xs'[j]?).map (·.2) = some vv' := fun xs' hd' hk' => by
        have am : a ∉ mu1 := fun z => (List.nodup_append.mp s2.nd).2.2 a z a (mem_flat (i := i) (by rw [k5]; exact List.mem_cons_self)) rfl
        have e3 : DAt H3 a xs := k1.to fun o e => p3.ext a o e am
        rw [← dat_uniq e3 hd', ejx]; rfl
      have kyj : kvs[j]? = some (ky, .lst ws) := by
        have jl : j < kvs.length := (List.getElem?_eq_some_iff.mp ejj).1
        have := (List.findIdx?_eq_some_iff_getElem.mp ejk).2.1
        have k1 : kvs[j].1 = ky := by simpa using this
        have k2 := (List.getElem?_eq_some_iff.mp ejj).2
        rw [List.getElem?_eq_getElem jl]
        exact congrArg some (Prod.ext k1 (by rw [k2]))
      obtain ⟨b', vs', e8, e9, e10, e11⟩ := sda_app (q := vv') p3.sr hf hx ev' kyj keep r3 hlw (Q := fun H' => D.nx σ H') fun H' st => q3 σ H' Fp mu3 st
      exact ⟨b', vs', uy, e8, rfl, e9, e10, e11⟩
    · -- new
      rw [getV_find] at hnn
      have enx : (xs.findIdx? fun p => decide (p.1 = ky)) = none := by
        cases z : (xs.findIdx? fun p => decide (p.1 = ky)) with
        | none => rfl
        | some j =>
          have jl : j < xs.length := (List.findIdx?_eq_some_iff_getElem.mp z).1
          rw [z] at hnn
          simp [jl] at hnn
      have enk : (kvs.findIdx? fun p => decide (p.1 = ky)) = none := by rw [find_keys k3]; exact enx
      rw [putK_new enx] at hd
      simp only [setdJ_none enk] at q1 ejj
      rw [List.getElem?_append_right (Nat.le_refl _), Nat.sub_self] at ejj
      simp at ejj
      obtain ⟨e8, e9⟩ := ejj
      subst e8 e9
      obtain ⟨v5, ev5, r5⟩ := p1.sr.sl i _ _ hf hx
      rw [ev'] at ev5
      cases ev5
      obtain ⟨a5, xs5, Ss5, e5, g1, g2, g3, g4, g5⟩ := own2_dct r5
      cases e5
      have g1 : DAt H1 a xs5 := g1
      have nal : a ≠ l := fun z => by obtain ⟨o, e⟩ := g1.some; rw [z, hl] at e; cases e
      have xe : xs5 = xs := dat_uniq (g1.to fun o e => by rw [upd_ne nal]; exact e) k1
      subst xe
      have ndF := List.nodup_append.mp p1.sr.nd
      have iS : ∀ c, c ∈ a :: Ss5.flatten → c ∈ Fp.flatten := fun c hc => mem_flat (i := i) (by rw [g5]; exact hc)
      have ndS : (a :: Ss5.flatten).Nodup := by
        rw [← g5]
        cases z : Fp[i]? with
        | none => exact List.nodup_nil
        | some l => exact List.Sublist.nodup (List.sublist_flatten_of_mem (List.mem_of_getElem? z)) ndF.2.1
      have live : ∀ c, c ∈ a :: Ss5.flatten → ∃ o, H1 c = some o ∧ NT o := fun c hc => p1.sr.tr' c (List.mem_append_right _ (iS c hc))
      have nl : ∀ c, c ∈ a :: Ss5.flatten → c ≠ l := fun c hc z => by obtain ⟨o, e, _⟩ := live c hc; rw [z, hl] at e; cases e
      have ext : ∀ c o, c ∉ a :: Ss5.flatten → H1 c = some o → upd (upd H1 l (.lst [])) a ho c = some o := fun c o n e => by
        have n1 : c ≠ a := fun z => by rw [z] at n; exact n List.mem_cons_self
        rw [upd_ne n1, upd_ne (fun z => by rw [z, hl] at e; cases e)]; exact e
      have memS : ∀ c, c ∈ a :: (Ss5 ++ [[l]]).flatten → c ∈ a :: Ss5.flatten ∨ c = l := fun c hc => by
        have e : a :: (Ss5 ++ [[l]]).flatten = (a :: Ss5.flatten) ++ [l] := by simp
        rw [e, List.mem_append, List.mem_singleton] at hc
        exact hc
      have fr : ∀ c ∈ a :: (Ss5 ++ [[l]]).flatten, c ∈ a :: Ss5.flatten ∨ H1 c = none := fun c hc => (memS c hc).imp id fun z => by rw [z]; exact hl
      have t0 := mutG_to0 (K := w.K) (C := C) (mu := mu1) g5 ext fr
      have nd2 : (a :: (Ss5 ++ [[l]]).flatten).Nodup := by
        have : (a :: (Ss5 ++ [[l]]).flatten) = (a :: Ss5.flatten) ++ [l] := by simp
        rw [this]
        exact List.nodup_append.mpr ⟨ndS, by simp, fun c hc d hd e => nl c hc (e.trans (List.mem_singleton.mp hd))⟩
      have st := p1.sr.mutG (x' := .dct (kvs ++ [(ky, .lst [])])) (S' := a :: (Ss5 ++ [[l]]).flatten) (H' := upd (upd H1 l (.lst [])) a ho) hf hx ev' g5 ext nd2 fr (fun c hc => by
          by_cases z : c = a
          · exact ⟨ho, by rw [z, upd_same], hd.nt⟩
          · by_cases z2 : c = l
            · exact ⟨.lst [], by rw [upd_ne z, z2, upd_same], True.intro⟩
            · have hc' : c ∈ a :: Ss5.flatten := hc.elim id fun h => (memS c h).elim id fun h => absurd h z2
              obtain ⟨o, e, n⟩ := live c hc'
              exact ⟨o, by rw [upd_ne z, upd_ne z2]; exact e, n⟩) (by
          refine own2_mk hd (by rw [List.length_append, List.length_singleton, ← len]; exact c3) (by rw [List.map_append, List.map_append, g3]; rfl) ?_
          rw [List.map_append, List.map_append]
          refine F3.snoc (own_lst (vs := []) .nil (Nat.zero_le _) (by show upd (upd H1 l (.lst [])) a ho l = _; rw [upd_ne nal.symm, upd_same])) (g4.imp fun w' v' s' hm o => o.to0 t0 fun c o' hc e => ?_)
          -- an owned list's node stays
          show upd (upd H1 l (.lst [])) a ho c = some o'
          have hcS : c ∈ Ss5.flatten := flatten_mem hm hc
          have nca : c ≠ a := fun z => by rw [z] at hcS; exact (List.nodup_cons.mp ndS).1 hcS
          rw [upd_ne nca, upd_ne (nl c (List.mem_cons_of_mem _ hcS))]
          exact e)
      have hx1 : (ρ.set i (some (W.dct (kvs ++ [(ky, W.lst [])]))))[i]? = some (some (W.dct (kvs ++ [(ky, W.lst [])]))) := List.getElem?_set_self (List.getElem?_eq_some_iff.mp hx).1
      have atl : upd (upd H1 l (.lst [])) a ho l = some (.lst []) := by rw [upd_ne nal.symm, upd_same]
      refine ⟨.inl ⟨rfl, [], .inl (.inl atl)⟩, bindR isOutS st.sr (inS st.sr (OutS.shift st q1)) fun y uy M3 H3 mu3 p3 r3 q3 => ?_⟩
      have q3 : ∀ σ' H' Fp' mu', Pst w.K C fl (ρ.set i (some (W.dct (kvs ++ [(ky, W.lst [])])))) σ (Fp.set i (a :: (Ss5 ++ [[l]]).flatten)) H3 mu3 fl (ρ.set i (some (W.dct ((kvs ++ [(ky, W.lst [])]).set kvs.length (ky, W.lst ([] ++ [y])))))) M3 σ' H' Fp' mu' → D.nx σ' H' := by
        have q3 : OutS w ret fl fl fb fc (ρ.set i (some (W.dct (kvs ++ [(ky, W.lst [])])))) σ (Fp.set i (a :: (Ss5 ++ [[l]]).flatten)) C H3 mu3 (R.of ((if ([] : List Mi.W).length < sizeLine then some (W.lst ([] ++ [y])) else none).map fun z => (Fl.nx, ρ.set i (some (W.dct ((kvs ++ [(ky, W.lst [])]).set kvs.length (ky, z)))))) M3) D := q3.2
        rw [if_pos (by rw [sizeLine_eq]; decide)] at q3
        exact q3
      have keep : ∀ xs', DAt H3 a xs' → (kvs ++ [(ky, W.lst [])]).map (·.1) = xs'.map (·.1) → (xs'[kvs.length]?).map (·.2) = some (V.ref l) := fun xs' hd' hk' => by
        have am : a ∉ mu1 := fun z => ndF.2.2 a z a (iS a List.mem_cons_self) rfl
        have e3 : DAt H3 a (xs5 ++ [(ky, V.ref l)]) := hd.to fun o e => p3.ext a o e am
        rw [← dat_uniq e3 hd', len, List.getElem?_append_right (Nat.le_refl _), Nat.sub_self]; rfl
      obtain ⟨b', vs', e8, e9, e10, e11⟩ := sda_app (q := V.ref l) (ws := []) p3.sr hf hx1 ev' (j := kvs.length) (ky := ky) (by rw [List.getElem?_append_right (Nat.le_refl _), Nat.sub_self]; rfl) keep r3 (by rw [sizeLine_eq]; decide) (Q := fun H' => D.nx σ H') fun H' st' => q3 σ H' _ mu3 (by rw [List.set_set] at st'; exact st')
      exact ⟨b', vs', uy, e8, rfl, e9, e10, e11⟩
end
end Mi
end MiY_

section MiZ1_
set_option linter.all false
set_option Elab.async false
/-! MiZ1: shapes of expressions. -/
namespace Mi
open PySem PySem.Spec PyProof.Rows L2

/-! ### shapes -/
def notStar : Expr → Bool
  | .Starred .. => false
  | _ => true
def notSlice : Expr → Bool
  | .Slice .. => false
  | _ => true
def notSet : Expr → Bool
  | .Set .. => false
  | _ => true
def notCall0 : Expr → Bool
  | .Call (.Name _ _) [] [] _ => false
  | _ => true
def testPlain : Expr → Bool
  | .UnaryOp .Not _ _ => false
  | .BoolOp .. => false
  | .IfExp .. => false
  | .Compare .. => false
  | _ => true
def notComp : Expr → Bool
  | .ListComp .. => false
  | .SetComp .. => false
  | .DictComp .. => false
  | _ => true
theorem star_ok {p : Expr} {ps : List Expr} {env : PySem.Env} (h : notStar p = true) : starEach (p :: ps) env = (false, eval p env) :: starEach ps env := by
  cases p <;> first | rfl | cases h
theorem slice_ok {p : Expr} (h : notSlice p = true) : PlainIx p := fun o i => by
  cases p <;> first | rfl | cases h
theorem behind_ok {p : Expr} {op : CmpOp} (h : notSet p = true) : behindInMarks op p = false := by
  cases p <;> first | rfl | cases h
theorem folded_ok {p : Expr} {env : PySem.Env} (h : notSet p = true) (x : Value) : foldedSetIterable p env x = pure x := by
  cases p <;> first | rfl | cases h
theorem base_ok {p : Expr} {a : Str} {env : PySem.Env} {t : Sem Value} (h : notCall0 p = true) : attributeBase p a env t = t := by
  unfold attributeBase
  split
  · cases h
  · rfl
theorem test_ok {p : Expr} {env : PySem.Env} (h : testPlain p = true) (whole : Sem Value) : isTrue p env whole = (do let v ← whole; standAt p.pos; holding [v] (truthy v)) := by
  cases p with
  | UnaryOp op x pos => cases op <;> first | rfl | cases h
  | _ => first | rfl | cases h
theorem swaps_ok {p : Expr} {t : Option Expr} {l : Nat} {env : PySem.Env} (h : notComp p = true) : swapsWith p t l env = pure false := by
  cases p <;> first | rfl | cases h
theorem last_ok {op op' : CmpOp} {p q : Expr} (h : notSet q = true) : lastMarks [op, op'] [p, q] = false := by
  show lastMarks [op'] [q] = false
  exact behind_ok h

end Mi
end MiZ1_

section MiZ_
set_option linter.all false
set_option Elab.async false
/-! MiZ: raise, try; gcd, dict(d). -/
namespace Mi
open PySem PySem.Spec PyProof.Rows L2

/-- the classes of errors by their numbers -/
def exName : Nat → Str
  | 0 => "WorksError" | 1 => "TooLarge" | 2 => "StuckWorks" | 3 => "OpenWorks" | 4 => "NoStory" | 5 => "BadDeed" | 6 => "BadEntry" | 7 => "UnknownName" | 8 => "InvalidLine"
  | _ => "?"
/-- what must hold of such a class -/
structure ExF (K : PySem.W.Frag) (C : Addr) : Prop where
  kp : PySem.W.keepIn K (.ref C) = true
  new : PySem.W.excIn K C He.veBase "ValueError.__new__" = true
  sub : PySem.W.subIn K (.ref C) (.type "BaseException") = some true
  typ : PySem.W.typeIn K (.ref C) = some (.type "type")
  ec : ExcC K C
def Cv.V : Cv → V
  | .non => .non
  | .bl b => .bl b
  | .int i => .int i
  | .str x => .str x
def Cv.ok : Cv → Bool
  | .str x => PyData.strOk x && decide (x.length ≤ 16777216)
  | _ => true
theorem Cv.rep {G : Gh} {d : Nat} : ∀ {v : Cv}, v.ok = true → Rep G v.w d v.V
  | .non, _ => by show Rep G .non d .non; unfold Rep; rfl
  | .bl b, _ => by show Rep G (.bl b) d (.bl b); unfold Rep; rfl
  | .int i, _ => by show Rep G (.int i) d (.int i); unfold Rep; rfl
  | .str x, h => by
    have h : (PyData.strOk x && decide (x.length ≤ 16777216)) = true := h
    rw [Bool.and_eq_true, decide_eq_true_eq] at h
    show Rep G (.str x) d (.str x); unfold Rep; exact ⟨rfl, h.1, by rw [sizeLine_eq]; exact h.2⟩
theorem Cv.val {K : PySem.W.Frag} {H : Hp} {C : Addr → Prop} {Fp : List (List Addr)} {mu : List Addr} {v : Cv} (h : v.ok = true) : ∀ lv : Lv, Val lv (gT K H C Fp mu) v.w v.V []
  | .t n => ⟨rfl, Cv.rep h⟩
  | .f n => by
    have r := Cv.rep (G := gT K H C Fp mu) (d := 0) h
    show Own _ n v.w v.V []
    cases n with
    | zero => unfold Own; exact ⟨rfl, r⟩
    | succ n => cases v <;> (unfold Own; exact ⟨rfl, r⟩)
/-- more stands -/
theorem SR.grow {K : PySem.W.Frag} {C : Addr → Prop} {fl : List Fg} {ρ : Env} {M : List W} {σ : L2.St} {H H' : Hp} {Fp : List (List Addr)} {mu : List Addr} (s : SR K C fl ρ M σ H Fp mu) (h : ∀ a o, H a = some o → H' a = some o) : SR K C fl ρ M σ H' Fp mu := by
  have t0 : (gT K H C Fp mu).To0 (gT K H' C Fp mu) := ⟨rfl, fun a o e k => ⟨h a o e, k⟩, fun _ _ e => e⟩
  have t1 : (gS K H C Fp mu).To (gS K H' C Fp mu) := ⟨rfl, fun a o e k => ⟨h a o e, k⟩, fun a o e k => ⟨h a o e, k⟩, fun _ _ e => e⟩
  have all : ∀ a, (∃ o, H a = some o ∧ NT o) → ∃ o, H' a = some o ∧ NT o := fun a ⟨o, e, n⟩ => ⟨o, h a o e, n⟩
  exact ⟨s.lr, s.lp, s.lf, s.nd, s.cd, fun a c => all a (s.ct' a c), fun a c => all a (s.tr' a c), s.cl, fun n x a e1 e2 => (s.ce n x a e1 e2).to0 t0 fun a o _ e => h a o e, fun i g x e1 e2 => (s.sl i g x e1 e2).to t1 fun a o _ e => h a o e⟩

/-! ### the words of an except clause -/
section
variable {X : Cx} {a D : Addr} {oe : Obj} {pn : List (Addr × Obj)}
def rIsET (K : PySem.W.Frag) (D a : Addr) : List V → Hp → VK → Prop := fun xs H Q => ∃ (tp : Addr) (Cs : List Addr) (b : Bool), xs = [.ref a, .ref tp] ∧ H tp = some (.tup (Cs.map V.ref)) ∧ PySem.W.kitAny K (.ref D) (Cs.map Value.ref) = some b ∧ Q (.bl b) H
theorem vals_refs : ∀ {Cs : List Addr} {its : List Value}, Vals (Cs.map V.ref) its → its = Cs.map Value.ref
  | [], _, .nil => rfl
  | c :: Cs, _, .cons h t => by cases (show _ = Value.ref c from h); rw [vals_refs t]; rfl
theorem call_isET (C : ExcC X.K D) (hz : Zc (.ref D) none oe) (hf : ∃ vs, oe.data = .fields vs) : CallR (X.suite a ((a, oe) :: pn)) (.builtin "isinstance") (rIsET X.K D a) := by
  intro pins s σ H xs us Q I r h
  obtain ⟨tp, Cs, b, rfl, hT, e, q⟩ := h
  obtain ⟨u1, u2, rfl, r1, r2⟩ := vals2 r
  cases (show u1 = Value.ref a from r1)
  cases (show u2 = Value.ref tp from r2)
  obtain ⟨hget, _⟩ := I.pin (a, oe) (List.mem_append.mpr (.inl List.mem_cons_self))
  obtain ⟨vs, hv⟩ := hf
  have J : PySem.W.InstAt s.heap a oe D none := by
    obtain ⟨oc, od, oda, osl⟩ := oe
    obtain ⟨h1, h2⟩ := hz
    dsimp only at h1 h2 hv
    subst h1 h2 hv
    exact ⟨hget, rfl, rfl, trivial⟩
  obtain ⟨_, its, rv, o, h1, h2, n, h3⟩ := I.hok tp _ hT
  have ei := vals_refs rv
  subst ei
  obtain ⟨oc, od, dt, sl⟩ := o
  simp only at h2 h3
  subst h2 h3
  exact PySem.W.kia_tup (PySem.W.handS_kitx_exc C.hg C.hk C.hs C.hd C.ha C.hn C.ht C.hm) I.kIn J h1 e (fun z => nomatch z) fun tk => ⟨.bl b, H, I.kept (t' := tk) fun _ _ z => z, rfl, q⟩
/-- a word whose value is v: n the error's slot -/
def tHx (n : Option Nat) (a : Addr) (v : V) : TE := fun σ H Q => (∀ i, n = some i → σ[i]? = some (some (V.ref a))) ∧ ∀ H', (∀ b o, H b = some o → H' b = some o) → Q v H'
end
def isBl : Cv → Bool
  | .bl _ => true
  | _ => false
/-- the classes of the text stand at C -/
structure ExT (X : Cx) (ex : List Nat) (C : Nat → Addr) : Prop where
  at_ : ∀ k ∈ ex, X.mg (exName k) = some (.ref (C k)) ∧ (exName k == ("__debug__" : Str)) = false ∧ ExF X.K (C k)
  kit : ∀ k ∈ ex, ∀ j ∈ ex, PySem.W.kitOne X.K (.ref (C k)) (.ref (C j)) = some (isaX k j)
  exm : ∀ k ∈ ex, ∀ j ∈ ex, j ≠ 0 → PySem.W.exmOne X.K (.ref (C k)) (.ref (C j)) = some (decide (k = j))
section
variable (gl : Str → Bool) (var : Nat → Expr → Bool) (ex : List Nat) (n : Option Nat) (k : Nat)
def ckHc : Cv → Expr → Bool
  | .non, .Constant .none _ _ => true
  | .bl b, .Constant (.bool b') _ _ => decide (b = b')
  | .int i, .Constant (.int j) _ _ => decide (i = j)
  | .str x, .Constant (.str y) _ _ => decide (x = y) && (Cv.str x).ok
  | _, _ => false
def ckNames : List Nat → List Expr → Bool
  | [], [] => true
  | j :: js, .Name y _ :: ps => decide (y = exName j) && decide (j ∈ ex) && gl y && ckNames js ps
  | _, _ => false
def ckHx : Hx → Expr → Bool
  | .c v, p => ckHc v p
  | .isE j, p => match p, n with
    | .Call (.Name x _) [q, .Name y _] [] _, some i => decide (x = ("isinstance" : Str)) && gl x && notStar q && var i q && decide (y = exName j) && decide (j ∈ ex) && gl y
    | _, _ => false
  | .isT js, p => match p, n with
    | .Call (.Name x _) [q, .Tuple ps _ _] [] _, some i => decide (x = ("isinstance" : Str)) && gl x && notStar q && var i q && ckNames gl ex js ps && decide (js.length ≤ 100)
    | _, _ => false
  | .not a, p => match p with
    | .UnaryOp .Not q _ => ckHx a q && isBl (a.val k)
    | _ => false
  | .and a b, p => match p with
    | .BoolOp .And [pa, pb] _ => ckHx a pa && isBl (a.val k) && ckHx b pb
    | _ => false
  | .or a b, p => match p with
    | .BoolOp .Or [pa, pb] _ => ckHx a pa && isBl (a.val k) && ckHx b pb
    | _ => false
  | .ite a b d, p => match p with
    | .IfExp pc pa pb _ => testPlain pc && ckHx a pc && isBl (a.val k) && ckHx b pa && ckHx d pb
    | _ => false
end
theorem isBl_of {v : Cv} (h : isBl v = true) : ∃ b, v = .bl b ∧ Hx.tru v = b := by cases v <;> first | exact ⟨_, rfl, rfl⟩ | cases h
theorem tHx_bl {n : Option Nat} {a : Addr} {v : Cv} {σ : L2.St} {H : Hp} {Q : VK} (h1 : ∀ i, n = some i → σ[i]? = some (some (V.ref a))) (h : ∀ b H', v = .bl b → (∀ c o, H c = some o → H' c = some o) → Q (.bl b) H') (hb : isBl v = true) : tHx n a v.V σ H Q := by
  obtain ⟨b, rfl, _⟩ := isBl_of hb
  exact ⟨h1, fun H' e => h b H' rfl e⟩
theorem kit_any {K : PySem.W.Frag} {t : Value} {f : Nat → Bool} {C : Nat → Addr} : ∀ {js : List Nat}, (∀ j ∈ js, PySem.W.kitOne K t (.ref (C j)) = some (f j)) → PySem.W.kitAny K t ((js.map C).map Value.ref) = some (js.any f)
  | [], _ => rfl
  | j :: js, h => by
    show PySem.W.kitAny K t (.ref (C j) :: (js.map C).map Value.ref) = _
    unfold PySem.W.kitAny
    rw [h j List.mem_cons_self, List.any_cons]
    cases hf : f j with
    | true => rfl
    | false => exact kit_any fun i hi => h i (List.mem_cons_of_mem _ hi)
section
variable {X : Cx} {a : Addr} {oe : Obj} {pn : List (Addr × Obj)} {gl : Str → Bool} {var : Nat → Expr → Bool} {ex : List Nat} {n : Option Nat} {k : Nat} {C : Nat → Addr}
theorem names_pa (hgl : ∀ y, gl y = true → Gl X y) (T : ExT X ex C) {pos : Pos} : ∀ {js : List Nat} {ps : List Expr}, ckNames gl ex js ps = true → (PA (X.suite a ((a, oe) :: pn)) ps (fun σ H Q => Q (js.map fun j => V.ref (C j)) H)) ∧ (∀ j ∈ js, j ∈ ex)
  | [], [], _ => ⟨PA.weak pa_nil fun _ _ _ q => q, fun _ h => nomatch h⟩
  | [], _ :: _, h => by simp [ckNames] at h
  | _ :: _, [], h => by simp [ckNames] at h
  | j :: js, p :: ps, h => by
    cases p with
    | Name y pp =>
      simp only [ckNames, Bool.and_eq_true, decide_eq_true_eq] at h
      obtain ⟨⟨⟨h1, h2⟩, h3⟩, h4⟩ := h
      subst h1
      obtain ⟨i1, i2⟩ := names_pa hgl T (pos := pos) h4
      obtain ⟨k1, k2, k3⟩ := T.at_ j h2
      refine ⟨PA.weak (pa_cons (pe_glob (X := X.suite a ((a, oe) :: pn)) (hgl _ h3) k1 (v := .ref (C j)) rfl k2) i1 rfl) fun σ H Q q => q, fun i hi => ?_⟩
      rcases List.mem_cons.mp hi with rfl | hi
      · exact h2
      · exact i2 i hi
    | _ => simp [ckNames] at h
theorem ckHx_ok (hgl : ∀ y, gl y = true → Gl X y) (hvar : ∀ i q, var i q = true → PE (X.suite a ((a, oe) :: pn)) q (tVar i)) (hm : X.mg "isinstance" = none) (T : ExT X ex C) (hk : k ∈ ex) (hz : Zc (.ref (C k)) none oe) (hf : ∃ vs, oe.data = .fields vs) :
    ∀ (h : Hx) {p : Expr}, ckHx gl var ex n k h p = true → PE (X.suite a ((a, oe) :: pn)) p (tHx n a (h.val k).V)
  | .c v, p, h => by
    have h : ckHc v p = true := h
    unfold ckHc at h
    split at h
    · exact PE.weak pe_non fun σ H Q q => q.2 H fun _ _ e => e
    · have e := of_decide_eq_true h
      subst e
      exact PE.weak pe_bl fun σ H Q q => q.2 H fun _ _ e => e
    · have e := of_decide_eq_true h
      subst e
      exact PE.weak pe_int fun σ H Q q => q.2 H fun _ _ e => e
    · rw [Bool.and_eq_true, decide_eq_true_eq] at h
      obtain ⟨e, _⟩ := h
      subst e
      exact PE.weak pe_str fun σ H Q q => q.2 H fun _ _ e => e
    · cases h
  | .isE j, p, h => by
    unfold ckHx at h
    split at h
    · rename_i x xp q y yp cp i
      simp only [Bool.and_eq_true, decide_eq_true_eq] at h
      obtain ⟨⟨⟨⟨⟨⟨h1, h2⟩, h3⟩, h4⟩, h5⟩, h6⟩, h7⟩ := h
      subst h1 h5
      obtain ⟨k1, k2, k3⟩ := T.at_ j h6
      refine PE.weak (pe_callB (X := X.suite a ((a, oe) :: pn)) (call_isE (T.at_ k hk).2.2.ec hz hf) (hgl _ h2) hm PyProof.Rows.boot_isinstance (pa_cons (hvar i q h4) (pa_cons (pe_glob (X := X.suite a ((a, oe) :: pn)) (hgl _ h7) k1 (v := .ref (C j)) rfl k2) pa_nil rfl) (star_ok h3)) (by decide +kernel) (by decide +kernel) (star_ok h3) rfl) fun σ H Q q => ?_
      refine ⟨.ref a, q.1 i rfl, .ref (C j), .ref (C j), isaX k j, rfl, fun u r => r, T.kit k hk j h6, q.2 H fun _ _ e => e⟩
    · cases h
  | .isT js, p, h => by
    unfold ckHx at h
    split at h
    · rename_i x xp q ps tk tpos cp i
      simp only [Bool.and_eq_true, decide_eq_true_eq] at h
      obtain ⟨⟨⟨⟨⟨h1, h2⟩, h3⟩, h4⟩, h5⟩, h6⟩ := h
      subst h1
      obtain ⟨i1, i2⟩ := names_pa (a := a) (oe := oe) (pn := pn) hgl T (pos := tpos) h5
      refine PE.weak (pe_callB (X := X.suite a ((a, oe) :: pn)) (call_isET (T.at_ k hk).2.2.ec hz hf) (hgl _ h2) hm PyProof.Rows.boot_isinstance (pa_cons (hvar i q h4) (pa_cons (pe_tup i1) pa_nil rfl) (star_ok h3)) (by decide +kernel) (by decide +kernel) (star_ok h3) rfl) fun σ H Q q => ?_
      refine ⟨.ref a, q.1 i rfl, by rw [List.length_map, sizeLine_eq]; omega, fun t ht => ⟨t, js.map C, js.any (isaX k), rfl, ?_, kit_any fun j hj => T.kit k hk j (i2 j hj), q.2 _ fun b o e => ?_⟩⟩
      · rw [upd_same, List.map_map]; rfl
      · rw [upd_ne (fun z => by rw [z, ht] at e; cases e)]; exact e
    · cases h
  | .not b, p, h => by
    unfold ckHx at h
    split at h
    · rw [Bool.and_eq_true] at h
      refine PE.weak (pe_not (ckHx_ok hgl hvar hm T hk hz hf b h.1)) fun σ H Q q => ?_
      refine tHx_bl q.1 (fun c H' ec e => ⟨c, rfl, ?_⟩) h.2
      have z := q.2 H' e
      simp only [Hx.val, ec, Hx.tru] at z
      exact z
    · cases h
  | .and b d, p, h => by
    unfold ckHx at h
    split at h
    · simp only [Bool.and_eq_true] at h
      obtain ⟨⟨h1, h2⟩, h3⟩ := h
      refine PE.weak (pe_and (ckHx_ok hgl hvar hm T hk hz hf b h1) (pe_one (ckHx_ok hgl hvar hm T hk hz hf d h3))) fun σ H Q q => ?_
      refine tHx_bl q.1 (fun c H' ec e => ⟨c, rfl, ?_⟩) h2
      have q1 := q.1
      have q2 := q.2
      simp only [Hx.val, ec, Hx.tru] at q2
      cases c with
      | true => exact ⟨q1, fun H2 e2 => q2 H2 fun b o z => e2 b o (e b o z)⟩
      | false => exact q2 H' e
    · cases h
  | .or b d, p, h => by
    unfold ckHx at h
    split at h
    · simp only [Bool.and_eq_true] at h
      obtain ⟨⟨h1, h2⟩, h3⟩ := h
      refine PE.weak (pe_or (ckHx_ok hgl hvar hm T hk hz hf b h1) (pe_one (ckHx_ok hgl hvar hm T hk hz hf d h3))) fun σ H Q q => ?_
      refine tHx_bl q.1 (fun c H' ec e => ⟨c, rfl, ?_⟩) h2
      have q1 := q.1
      have q2 := q.2
      simp only [Hx.val, ec, Hx.tru] at q2
      cases c with
      | false => exact ⟨q1, fun H2 e2 => q2 H2 fun b o z => e2 b o (e b o z)⟩
      | true => exact q2 H' e
    · cases h
  | .ite b d g, p, h => by
    unfold ckHx at h
    split at h
    · simp only [Bool.and_eq_true] at h
      obtain ⟨⟨⟨⟨h0, h1⟩, h2⟩, h3⟩, h4⟩ := h
      refine PE.weak (pe_ifExp (pt_val (ckHx_ok hgl hvar hm T hk hz hf b h1) (test_ok h0)) (ckHx_ok hgl hvar hm T hk hz hf d h3) (ckHx_ok hgl hvar hm T hk hz hf g h4)) fun σ H Q q => ?_
      show tHx n a (b.val k).V σ H fun x H1 => ∃ c, x = V.bl c ∧ if c = true then tHx n a (d.val k).V σ H1 Q else tHx n a (g.val k).V σ H1 Q
      refine tHx_bl q.1 (fun c H' ec e => ⟨c, rfl, ?_⟩) h2
      have q1 := q.1
      have q2 := q.2
      simp only [Hx.val, ec, Hx.tru] at q2
      cases c with
      | true => exact ⟨q1, fun H2 e2 => q2 H2 fun b o z => e2 b o (e b o z)⟩
      | false => exact ⟨q1, fun H2 e2 => q2 H2 fun b o z => e2 b o (e b o z)⟩
    · cases h
end
end Mi
end MiZ_

section MiZ2_
set_option linter.all false
set_option Elab.async false
/-! MiZ2: raise, try as statements. -/
namespace Mi
open PySem PySem.Spec PyProof.Rows L2

section
variable {X : Cx} {cl : Nat → List W → List W → R W} {w : Wish} {ret : Lv} {fl fn fb fc f1 : List Fg} {C : Addr → Prop} {ρ : Env} {M : List Mi.W} {σ : L2.St} {H : Hp} {Fp : List (List Addr)} {mu : List Addr} {D : Ends} {lv : Lv} {pos : Pos} {ex : List Nat} {Cs : Nat → Addr}
/-- raise X("..") -/
theorem ps_ra {x m : Str} {j : Nat} {p p2 p3 : Pos} {k : Nat} {B : Addr} (hc : X.calm = true) (tk : Takes X w.W) (F : ExF X.K B) (hm : X.mg x = some (.ref B)) (hcm : w.cm k = some B) (hg : Gl X x) (hd : (x == ("__debug__" : Str)) = false) :
    PS X (.Raise (some (.Call (.Name x p) [.Constant (.str m) j p2] [] p3)) none pos) (TSt cl w ret fl fn fb fc (.raise k)) := by
  refine PS.weak (ps_raise hc tk (pmk_own PySem.F.excBase_ValueError F.new hm F.kp (raises_own F.sub F.typ) hg hd)) fun D σ H ⟨C, ρ, M, Fp, mu, s, q⟩ => ?_
  have q : ∀ f' ρ' σ' H' Fp' mu', Pst w.K C fl ρ σ Fp H mu f' ρ' M σ' H' Fp' mu' → ∀ cls d, ExcOk w.cm ⟨k, none⟩ cls d → w.W cls d σ' H' := q
  exact q fl ρ σ H Fp mu (Pst.refl s) _ _ ⟨rfl, rfl, B, hcm, rfl⟩

/-! ### try -/
/-- what a clause asks of the error -/
def hRead (n : Option Nat) (B : Addr) (k : Nat) (h : Option Hx) : Addr → Value → Option Addr → TS := fun a cls d D σ H => (cls = .ref B ∧ d = none) ∧ match h with
  | none => D.nx σ H
  | some g => tHx n a (g.val k).V σ H D.rt
def hList (Cs : Nat → Addr) (hs : List (Nat × Option Hx)) : List (Value × (Addr → Value → Option Addr → TS)) := hs.map fun h => (Value.ref (Cs h.1), hRead none (Cs h.1) h.1 h.2)
/-- an error meets its clause -/
def handled (hs : List (Nat × Option Hx)) (ρ : Env) (x : Exn) (M : List Mi.W) : R (Fl × Env) := match findH hs x.cls with
  | none => .ex x M
  | some none => .ok (.nx, ρ) M
  | some (some v) => .ok (.rt (v.val x.cls).w, ρ) M
theorem rst_flat {M' : List Mi.W} {H' H2 : Hp} {mu' : List Addr} (p : Po w.K fl ρ σ Fp C H mu C M' H' mu') (e : ∀ b o, H' b = some o → H2 b = some o) {v : Cv} (hv : v.ok = true) : Rst w.K C Fp H mu M' H2 mu' [] ret v.w v.V := by
  have s2 := (p.sr.grow e).weak (C := fun a => C a ∨ a ∈ ([] : List Addr)) fun a z => z.elim id fun z => absurd z List.not_mem_nil
  exact ⟨fun a o h k _ => e a o (p.ext a o h k), p.pre, s2.drop, List.nodup_nil, (fun _ h => nomatch h), Cv.val hv ret⟩
theorem many_ok (T : ExT X ex Cs) (hcm : ∀ k a, w.cm k = some a → k ∈ ex ∧ a = Cs k) {x : Exn} {M' : List Mi.W} {H' : Hp} {mu' : List Addr} (s : SR w.K C fl ρ M σ H Fp mu) (p : Po w.K fl ρ σ Fp C H mu C M' H' mu') :
    ∀ (hs : List (Nat × Option Hx)), (∀ h ∈ hs, h.1 ∈ ex ∧ h.1 ≠ 0 ∧ ∀ g, h.2 = some g → (g.val h.1).ok = true) → OutS w ret fl fl fb fc ρ σ Fp C H mu (handled hs ρ x M') D → ∀ cls d, ExcOk w.cm x cls d → wMany X.K w.W D (hList Cs hs) cls d σ H'
  | [], _, q, cls, d, e => by
    have q : ∀ f' ρ' σ' H' Fp' mu', Pst w.K C fl ρ σ Fp H mu f' ρ' M' σ' H' Fp' mu' → ∀ cls d, ExcOk w.cm x cls d → w.W cls d σ' H' := q
    exact q fl ρ σ H' Fp mu' (p.pst s) cls d e
  | h :: hs, hk, q, cls, d, e => by
    obtain ⟨k1, k2, k3⟩ := hk h List.mem_cons_self
    obtain ⟨_, e2, a, e3, e4⟩ := id e
    obtain ⟨j1, j2⟩ := hcm _ _ e3
    subst e2 e4 j2
    refine ⟨decide (x.cls = h.1), T.exm _ j1 _ k1 k2, fun hy a' ha' => ?_, fun hn => ?_⟩
    · have hy := of_decide_eq_true hy
      refine ⟨⟨by rw [hy], rfl⟩, ?_⟩
      have eh : handled (h :: hs) ρ x M' = match h.2 with
        | none => .ok (.nx, ρ) M'
        | some v => .ok (.rt (v.val x.cls).w, ρ) M' := by
        unfold handled findH
        rw [if_pos hy]
        cases h.2 <;> rfl
      rw [eh] at q
      cases h2 : h.2 with
      | none =>
        rw [h2] at q
        have q : ∀ σ' H' Fp' mu', Pst w.K C fl ρ σ Fp H mu fl ρ M' σ' H' Fp' mu' → D.nx σ' H' := q
        exact q σ H' Fp mu' (p.pst s)
      | some g =>
        rw [h2] at q
        have q : ∀ v H' mu' S, Rst w.K C Fp H mu M' H' mu' S ret (g.val x.cls).w v → D.rt v H' := q
        refine ⟨(fun _ z => nomatch z), fun H2 e5 => ?_⟩
        rw [hy] at q
        exact q _ H2 mu' [] (rst_flat p e5 (k3 g h2))
    · have hn := of_decide_eq_false hn
      have eh : handled (h :: hs) ρ x M' = handled hs ρ x M' := by
        unfold handled
        conv => lhs; unfold findH
        rw [if_neg hn]
      rw [eh] at q
      exact many_ok T hcm s p hs (fun g hg => hk g (List.mem_cons_of_mem _ hg)) q _ _ e
theorem calmS {w' : Wish} (hK : w'.K = w.K) {r : R (Fl × Env)} (q : OutS w ret fl fn fb fc ρ σ Fp C H mu (R.calm r) D) : OutS w' ret fl fn fb fc ρ σ Fp C H mu r D := by
  cases r with
  | no => exact q
  | ex x N => exact q.elim
  | ok a N =>
    obtain ⟨a, ρ'⟩ := a
    cases a <;> (simp only [OutS] at q ⊢; rw [hK]; exact q)
/-- the body: an expression alone, and what stands behind it; its value handed back -/
def tTryE (cl : Nat → List W → List W → R W) (w : Wish) (ret lv : Lv) (fl fn fb fc : List Fg) (e : E) (bs : List S) (Wx : WX) : TS := fun D σ H => TV cl ⟨w.K, w.cm, Wx⟩ fl lv e σ H fun _ H' => TSs cl ⟨w.K, w.cm, Wx⟩ ret fl fn fb fc bs D σ H'
def tTryR (cl : Nat → List W → List W → R W) (w : Wish) (ret : Lv) (fl : List Fg) (e : E) (Wx : WX) : TS := fun D σ H => TV cl ⟨w.K, w.cm, Wx⟩ fl ret e σ H D.rt
theorem tryE_ok {e : E} {bs : List S} {hs : List (Nat × Option Hx)} {Wx : WX} (s : SR w.K C fl ρ M σ H Fp mu) (q : OutS w ret fl fl fb fc ρ σ Fp C H mu (exec cl (.tri (.expr e) bs hs) ρ M) D)
    (hx : ∀ x M' H' mu', Po w.K fl ρ σ Fp C H mu C M' H' mu' → OutS w ret fl fl fb fc ρ σ Fp C H mu (handled hs ρ x M') D → ∀ cls d, ExcOk w.cm x cls d → Wx cls d σ H') : tTryE cl w ret lv fl fl fb fc e bs Wx D σ H := by
  refine ⟨C, ρ, M, Fp, mu, s, ?_⟩
  show OutV ⟨w.K, w.cm, Wx⟩ fl lv ρ σ Fp C H mu (ev cl e ρ M) _
  have q : OutS w ret fl fl fb fc ρ σ Fp C H mu (match (ev cl e ρ M).bind fun _ M => (R.ok (Fl.nx, ρ) M : R (Fl × Env)) with
    | .ok (.nx, ρ') M' => R.calm (execs cl bs ρ' M')
    | .ok (.bk, ρ') M' => .ok (.bk, ρ') M'
    | .ok (.ct, ρ') M' => .ok (.ct, ρ') M'
    | .ok (.rt v, ρ') M' => .ok (.rt v, ρ') M'
    | .ex x M' => handled hs ρ x M'
    | .no => .no) D := q
  revert q
  cases ev cl e ρ M with
  | no => exact id
  | ex x M' => exact fun q H' mu' p cls d ec => hx x M' H' mu' p q cls d ec
  | ok v M' =>
    intro q v' H' mu' S p nd fr hv
    have q : OutS w ret fl fl fb fc ρ σ Fp C H mu (R.calm (execs cl bs ρ M')) D := q
    have p' := p.weak (C1 := C) (fun _ h => h) fun _ h => .inl h
    have q2 := OutS.shift (p'.pst s) q
    exact ⟨C, ρ, M', Fp, mu', p'.sr, calmS (w := w) (w' := ⟨w.K, w.cm, Wx⟩) rfl q2⟩
theorem tryR_ok {e : E} {hs : List (Nat × Option Hx)} {Wx : WX} (s : SR w.K C fl ρ M σ H Fp mu) (q : OutS w ret fl fl fb fc ρ σ Fp C H mu (exec cl (.tri (.ret e) [] hs) ρ M) D)
    (hx : ∀ x M' H' mu', Po w.K fl ρ σ Fp C H mu C M' H' mu' → OutS w ret fl fl fb fc ρ σ Fp C H mu (handled hs ρ x M') D → ∀ cls d, ExcOk w.cm x cls d → Wx cls d σ H') : tTryR cl w ret fl e Wx D σ H := by
  refine ⟨C, ρ, M, Fp, mu, s, ?_⟩
  show OutV ⟨w.K, w.cm, Wx⟩ fl ret ρ σ Fp C H mu (ev cl e ρ M) _
  have q : OutS w ret fl fl fb fc ρ σ Fp C H mu (match (ev cl e ρ M).bind fun v M => (R.ok (Fl.rt v, ρ) M : R (Fl × Env)) with
    | .ok (.nx, ρ') M' => R.calm (execs cl [] ρ' M')
    | .ok (.bk, ρ') M' => .ok (.bk, ρ') M'
    | .ok (.ct, ρ') M' => .ok (.ct, ρ') M'
    | .ok (.rt v, ρ') M' => .ok (.rt v, ρ') M'
    | .ex x M' => handled hs ρ x M'
    | .no => .no) D := q
  revert q
  cases ev cl e ρ M with
  | no => exact id
  | ex x M' => exact fun q H' mu' p cls d ec => hx x M' H' mu' p q cls d ec
  | ok x M' =>
    intro q v H' mu' S p nd fr hv
    have q : ∀ v H' mu' S, Rst w.K C Fp H mu M' H' mu' S ret x v → D.rt v H' := q
    refine q v H' mu' S ⟨fun a o h k _ => p.ext a o h k, p.pre, p.sr.drop, nd, fun a ha => .inr (fr a ha), ?_⟩
    have t : (gT w.K H' (fun a => C a ∨ a ∈ S) Fp mu').To (gT w.K H' (fun a => C a ∨ a ∈ S) [] mu') := ⟨rfl, fun a o e k => ⟨e, fun z => k (z.imp id (Or.imp (fun z => by simp at z) id))⟩, fun a o e k => ⟨e, k⟩, fun _ _ e => e⟩
    revert hv
    cases ret with
    | t n => exact fun hv => ⟨hv.1, hv.2.to t⟩
    | f n => exact fun hv => Own.to t hv fun _ _ _ h => h
/-- a clause's suite -/
theorem suite_ok {n : Option Nat} {B : Addr} {k : Nat} {h : Option Hx} {st : Stmt} (hret : ∀ g, h = some g → ∃ p rpos, st = .Return (some p) rpos ∧ ∀ (a : Addr) (oe : Obj) (pn : List (Addr × Obj)), Zc (.ref B) none oe → (∃ vs, oe.data = .fields vs) → PE (X.suite a ((a, oe) :: pn)) p (tHx n a (g.val k).V)) (hpass : h = none → ∃ ppos, st = .Pass ppos) :
    ∀ (a : Addr) (oe : Obj) (cls : Value) (d : Option Addr) (pn : List (Addr × Obj)), Zc cls d oe → (∃ vs, oe.data = .fields vs) → PSs (X.suite a ((a, oe) :: pn)) [st] (hRead n B k h a cls d) := by
  intro a oe cls d pn hz hf
  by_cases e : cls = .ref B ∧ d = none
  · obtain ⟨e1, e2⟩ := e
    subst e1 e2
    cases h with
    | none =>
      obtain ⟨ppos, es⟩ := hpass rfl
      subst es
      exact PSs.weak (pss_cons ps_pass pss_nil) fun D σ H q => q.2
    | some g =>
      obtain ⟨p, rpos, es, k2⟩ := hret g rfl
      subst es
      exact PSs.weak (pss_cons (ps_ret (k2 a oe pn hz hf)) pss_nil) fun D σ H q => q.2
  · exact ⟨fun pins s σ H D I q => absurd q.1 e⟩
end
end Mi
end MiZ2_

section MiZ3_
set_option linter.all false
set_option Elab.async false
/-! MiZ3: dict(d), gcd(a, b). -/
namespace Mi
open PySem PySem.Spec PyProof.Rows L2
section
variable {X : Cx} {cl : Nat → List W → List W → R W} {w : Wish} {fl : List Fg} {C : Addr → Prop} {ρ : Env} {M : List Mi.W} {σ : L2.St} {H : Hp} {Fp : List (List Addr)} {mu : List Addr} {Q : VK} {lv : Lv}
theorem pe_dcopy {q : Expr} {pp pos : Pos} {a : E} (ha : PE X q (TR cl w fl 1 a)) (hg : Gl X "dict") (hm : X.mg "dict" = none) (he : starEach [q] X.env = (false, eval q X.env) :: starEach [] X.env) : PE X (.Call (.Name "dict" pp) [q] [] pos) (TV cl w fl (.f 1) (.dcp a)) := by
  refine PE.weak (pe_callTy call_dictD hg hm PyProof.Rows.boot_dict (pa_cons ha pa_nil he) (by decide +kernel) (by decide +kernel) he rfl) fun σ H Q ⟨C, ρ, M, Fp, mu, s, q⟩ => ?_
  have q : OutV w fl (.f 1) ρ σ Fp C H mu ((ev cl a ρ M).bind fun x M => match x with
    | .dct kvs => if kvs.isEmpty = false ∧ (kvs.all fun p => p.1.flat) = true then .ok (.dct kvs) M else .no
    | _ => .no) Q := q
  refine bindR isOutV s q fun x v M1 H1 mu1 p1 r1 q1 => ?_
  cases x with
  | dct kvs =>
    obtain ⟨a, xs, e1, h1, h2, h3⟩ := rep_dct r1
    have q1 : OutV w fl (.f 1) ρ σ Fp C H1 mu1 (if kvs.isEmpty = false ∧ (kvs.all fun p => p.1.flat) = true then .ok (.dct kvs) M1 else .no) Q := q1
    split at q1
    · rename_i hc
      have q1 : Give w.K fl ρ σ Fp C M1 H1 mu1 (.f 1) (.dct kvs) Q := q1
      rcases h1.rd with ⟨ys, e2, e3⟩ | ⟨ys, e2, e3⟩
      · subst e1
        refine ⟨a, ys, rfl, e2, fun p hp => ?_⟩
        exact q1.dct p1.sr h3 h2 hp (.inl ⟨ys, upd_same, e3⟩)
      · exfalso
        have z : ∀ {γ : Type} (zs : List (Ky × γ)), (zs.all fun p => p.1.flat) = (zs.map (·.1)).all Ky.flat := fun zs => by rw [List.all_map]; rfl
        have hk := hc.2
        rw [z, h3.keys.1, ← z, e3] at hk
        cases ys with
        | nil =>
          have := h3.keys.1
          rw [e3] at this
          cases kvs with
          | nil => simp at hc
          | cons _ _ => simp at this
        | cons y ys => simp [Ky.flat] at hk
    · exact q1.elim
  | _ => exact q1.elim
theorem pe_gcd {x : Str} {q r : Expr} {pp pos : Pos} {a b : E} (ha : PE X q (TR cl w fl 2 a)) (hb : PE X r (TR cl w fl 2 b)) (hg : Gl X x) (hm : X.mg x = some (.builtin "math.gcd")) (hd : (x == ("__debug__" : Str)) = false) (he : starEach [q, r] X.env = (false, eval q X.env) :: starEach [r] X.env) (he2 : starEach [r] X.env = (false, eval r X.env) :: starEach [] X.env) :
    PE X (.Call (.Name x pp) [q, r] [] pos) (TV cl w fl (.f 2) (.gcd a b)) := by
  refine PE.weak (pe_callBfun cr_gcd hg hm (pa_cons ha (pa_cons hb pa_nil he2) he) hd he (by rw [he2]; rfl)) fun σ H Q ⟨C, ρ, M, Fp, mu, s, q⟩ => ?_
  have q : OutV w fl (.f 2) ρ σ Fp C H mu ((ev cl a ρ M).bind fun x M => (ev cl b ρ M).bind fun y M => R.of (gcdW x y) M) Q := q
  refine bindR isOutV s q fun x v M1 H1 mu1 p1 r1 q1 => bindR isOutV p1.sr q1 fun y u M2 H2 mu2 p2 r2 q2 => ?_
  obtain ⟨z, ez, g⟩ := q2.give
  cases x with
  | int i =>
    cases y with
    | int j =>
      cases ez
      rw [rep_int (r1.to p2.toT), rep_int r2]
      exact ⟨i, j, rfl, g.int p2.sr⟩
    | _ => cases ez
  | _ => cases ez
end
end Mi
end MiZ3_

section MiZ4_
set_option linter.all false
set_option Elab.async false
/-! MiZ4: dicts walked in comprehensions: locks. -/
namespace Mi
open PySem PySem.Spec PyProof.Rows L2

/-! ### a dict locked, and set free -/
def plainO : HO → Prop
  | .tup _ => True
  | .lst _ => True
  | .frz _ (.lst _) => True
  | _ => False
structure Sw (H H' : Hp) : Prop where
  p : ∀ b o, H b = some o → plainO o → H' b = some o
  d : ∀ b xs, DAtR H b xs → DAtR H' b xs
  n : ∀ b o, H b = some o → NT o → ∃ o', H' b = some o' ∧ NT o'
structure Gh.Sh (G G' : Gh) : Prop where
  K : G'.K = G.K
  mu : G'.mu = G.mu
  b0 : ∀ a, G'.B0 a → G.B0 a
  b1 : ∀ a, G'.B1 a → G.B1 a
  sw : Sw G.H G'.H
theorem Gh.Sh.ok {G G' : Gh} (t : G.Sh G') {d : Nat} {a : Addr} (k : G.ok d a) : G'.ok d a := by
  unfold Gh.ok at k ⊢
  split
  · rename_i h
    rw [if_pos h] at k
    exact fun z => k (t.b0 a z)
  · rename_i h
    rw [if_neg h] at k
    exact fun z => k (t.b1 a z)
mutual
theorem Rep.sh {G G' : Gh} (t : G.Sh G') : ∀ {w : W} {d : Nat} {v : V}, Rep G w d v → Rep G' w d v
  | .non, _, _, h => by unfold Rep at h ⊢; exact h
  | .bl b, _, _, h => by unfold Rep at h ⊢; exact h
  | .int i, _, _, h => by unfold Rep at h ⊢; exact h
  | .str x, _, _, h => by unfold Rep at h ⊢; exact h
  | .tup ws, d, v, h => by
    unfold Rep at h ⊢
    obtain ⟨a, vs, e, h1, h2, h3, h4⟩ := h
    exact ⟨a, vs, e, t.sw.p _ _ h1 trivial, fun z => h2 (t.b0 a z), h3, RepL.sh t h4⟩
  | .lst ws, d, v, h => by
    unfold Rep at h ⊢
    obtain ⟨a, vs, e, h1, h2, h3, h4⟩ := h
    exact ⟨a, vs, e, t.sw.p _ _ h1 trivial, t.ok h2, h3, RepL.sh t h4⟩
  | .dct kvs, d, v, h => by
    unfold Rep at h ⊢
    obtain ⟨a, vs, e, h1, h2, h3, h4⟩ := h
    exact ⟨a, vs, e, t.sw.d _ _ h1, t.ok h2, h3, RepD.sh t h4⟩
  | .frz ns, _, v, h => by
    unfold Rep at h ⊢
    obtain ⟨a, e, h0, h1 | h1⟩ := h
    · obtain ⟨o, h1, h2⟩ := h1
      exact ⟨a, e, h0, .inl ⟨o, t.sw.p _ _ h1 trivial, fun z => h2 (t.b0 a z)⟩⟩
    · rw [← t.K] at h1
      exact ⟨a, e, h0, .inr h1⟩
  | .loc n, _, v, h => by
    unfold Rep at h ⊢
    obtain ⟨a, e, h1⟩ := h
    exact ⟨a, e, by rw [t.mu]; exact h1⟩
theorem RepL.sh {G G' : Gh} (t : G.Sh G') : ∀ {ws : List W} {d : Nat} {vs : List V}, RepL G ws d vs → RepL G' ws d vs
  | [], _, _, h => by unfold RepL at h ⊢; exact h
  | w :: ws, d, vs, h => by
    unfold RepL at h ⊢
    obtain ⟨v, r, e, h1, h2⟩ := h
    exact ⟨v, r, e, Rep.sh t h1, RepL.sh t h2⟩
theorem RepD.sh {G G' : Gh} (t : G.Sh G') : ∀ {ws : List (Ky × W)} {d : Nat} {vs : List (Ky × V)}, RepD G ws d vs → RepD G' ws d vs
  | [], _, _, h => by unfold RepD at h ⊢; exact h
  | p :: ws, d, vs, h => by
    unfold RepD at h ⊢
    obtain ⟨v, r, e, h1, h2⟩ := h
    exact ⟨v, r, e, RepP.sh t h1, RepD.sh t h2⟩
theorem RepP.sh {G G' : Gh} (t : G.Sh G') : ∀ {p : Ky × W} {d : Nat} {q : Ky × V}, RepP G p d q → RepP G' p d q
  | (k, w), d, q, h => by
    unfold RepP at h ⊢
    exact ⟨h.1, Rep.sh t h.2⟩
end
theorem Own.sh {G G' : Gh} (t : G.Sh G') : ∀ {d : Nat} {w : W} {v : V} {S : List Addr}, Own G d w v S → (∀ a ∈ S, G'.H a = G.H a) → Own G' d w v S
  | 0, w, v, S, h, _ => by
    unfold Own at h ⊢
    exact ⟨h.1, h.2.sh t⟩
  | d + 1, .lst ws, v, S, h, hs => by
    unfold Own at h ⊢
    obtain ⟨a, vs, Ss, e, h1, h2, h3, h4⟩ := h
    subst h4
    exact ⟨a, vs, Ss, e, by rw [hs a List.mem_cons_self]; exact h1, h2, h3.imp fun w v s hm q => Own.sh t q fun a ha => hs a (List.mem_cons_of_mem _ (flatten_mem hm ha)), rfl⟩
  | d + 1, .dct ws, v, S, h, hs => by
    unfold Own at h ⊢
    obtain ⟨a, vs, Ss, e, h1, h2, h3, h5, h4⟩ := h
    subst h4
    exact ⟨a, vs, Ss, e, h1.to fun o q => by rw [hs a List.mem_cons_self]; exact q, h2, h3, h5.imp fun w v s hm q => Own.sh t q fun a ha => hs a (List.mem_cons_of_mem _ (flatten_mem hm ha)), rfl⟩
  | d + 1, .non, v, S, h, _ => by unfold Own at h ⊢; exact ⟨h.1, h.2.sh t⟩
  | d + 1, .bl _, v, S, h, _ => by unfold Own at h ⊢; exact ⟨h.1, h.2.sh t⟩
  | d + 1, .int _, v, S, h, _ => by unfold Own at h ⊢; exact ⟨h.1, h.2.sh t⟩
  | d + 1, .str _, v, S, h, _ => by unfold Own at h ⊢; exact ⟨h.1, h.2.sh t⟩
  | d + 1, .tup _, v, S, h, _ => by unfold Own at h ⊢; exact ⟨h.1, h.2.sh t⟩
  | d + 1, .frz _, v, S, h, _ => by unfold Own at h ⊢; exact ⟨h.1, h.2.sh t⟩
  | d + 1, .loc _, v, S, h, _ => by unfold Own at h ⊢; exact ⟨h.1, h.2.sh t⟩
section
variable {K : PySem.W.Frag} {C : Addr → Prop} {fl : List Fg} {ρ : Env} {M : List W} {σ : L2.St} {H H' : Hp} {Fp : List (List Addr)} {mu : List Addr}
theorem SR.sh (s : SR K C fl ρ M σ H Fp mu) (h : Sw H H') (ex : ∀ b ∈ mu ++ Fp.flatten, H' b = H b) : SR K C fl ρ M σ H' Fp mu := by
  have t : (gT K H C Fp mu).Sh (gT K H' C Fp mu) := ⟨rfl, rfl, fun _ z => z, fun _ z => z, h⟩
  have t2 : (gS K H C Fp mu).Sh (gS K H' C Fp mu) := ⟨rfl, rfl, fun _ z => z, fun _ z => z, h⟩
  refine ⟨s.lr, s.lp, s.lf, s.nd, s.cd, fun a c => ?_, fun a z => ?_, s.cl, fun n w a e1 e2 => (s.ce n w a e1 e2).sh t fun b hb => ?_, fun i g x e1 e2 => ?_⟩
  · obtain ⟨o, e, n⟩ := s.ct' a c; exact h.n a o e n
  · obtain ⟨o, e, n⟩ := s.tr' a z; exact h.n a o e n
  · rw [List.mem_singleton.mp hb]
    exact ex a (List.mem_append_left _ (List.mem_of_getElem? e2))
  · have q := s.sl i g x e1 e2
    have hx : ∀ b ∈ Fp[i]?.getD [], H' b = H b := fun b hb => ex b (List.mem_append_right _ (mem_flat hb))
    cases g with
    | pl => obtain ⟨v, e, r⟩ := q; exact ⟨v, e, r.sh t2⟩
    | bo d => obtain ⟨v, e, r⟩ := q; exact ⟨v, e, r.sh t2⟩
    | ow d => obtain ⟨v, e, r⟩ := q; exact ⟨v, e, r.sh t2 hx⟩
    | lk d => obtain ⟨v, e, r⟩ := q; exact ⟨v, e, r.sh t2 hx⟩
    | dd => trivial
end
/-- a dict that is not empty -/
def Dk (u : HO) : Prop := (∃ ys : List (L2.Key × V), ys ≠ [] ∧ u = .dK ys) ∨ ∃ ys : List (List L2.Key × V), ys ≠ [] ∧ u = .dT ys
theorem sw_lock {H : Hp} {a : Addr} {o : Obj} {u : HO} (e : H a = some u) (k : Dk u) : Sw H (upd H a (.frz o u)) := by
  have ne : ∀ b o', H b = some o' → plainO o' → b ≠ a := fun b o' eb p z => by
    rw [z, e] at eb
    cases eb
    rcases k with ⟨ys, _, rfl⟩ | ⟨ys, _, rfl⟩ <;> exact p
  refine ⟨fun b o' eb p => by rw [upd_ne (ne b o' eb p)]; exact eb, fun b xs h => ?_, fun b o' eb n => ?_⟩
  · by_cases z : b = a
    · subst z
      rcases h with (⟨ys, e1, e2⟩ | ⟨ys, e1, e2⟩) | ⟨n, o', ⟨ys, e1, e2⟩ | ⟨ys, e1, e2⟩⟩
      · rw [e] at e1
        cases e1
        rcases k with ⟨zs, nz, ez⟩ | ⟨zs, nz, ez⟩
        · cases ez
          refine .inr ⟨fun q => nz ?_, o, .inl ⟨ys, upd_same, e2⟩⟩
          rw [q] at e2
          exact List.map_eq_nil_iff.mp e2.symm
        · cases ez
      · rw [e] at e1
        cases e1
        rcases k with ⟨zs, nz, ez⟩ | ⟨zs, nz, ez⟩
        · cases ez
        · cases ez
          refine .inr ⟨fun q => nz ?_, o, .inr ⟨ys, upd_same, e2⟩⟩
          rw [q] at e2
          exact List.map_eq_nil_iff.mp e2.symm
      · rw [e] at e1
        cases e1
        rcases k with ⟨zs, nz, ez⟩ | ⟨zs, nz, ez⟩ <;> cases ez
      · rw [e] at e1
        cases e1
        rcases k with ⟨zs, nz, ez⟩ | ⟨zs, nz, ez⟩ <;> cases ez
    · exact h.to fun o' q => by
        have : ∀ c, c = b → upd H a (.frz o u) c = H c := fun c hc => upd_ne (by rw [hc]; exact z)
        rw [this b rfl]; exact q
  · by_cases z : b = a
    · subst z
      exact ⟨.frz o u, upd_same, trivial⟩
    · exact ⟨o', by rw [upd_ne z]; exact eb, n⟩
theorem sw_free {H : Hp} {a : Addr} {o : Obj} {u : HO} (e : H a = some (.frz o u)) (k : Dk u) : Sw H (upd H a u) := by
  have ne : ∀ b o', H b = some o' → plainO o' → b ≠ a := fun b o' eb p z => by
    rw [z, e] at eb
    cases eb
    rcases k with ⟨ys, _, rfl⟩ | ⟨ys, _, rfl⟩ <;> exact p
  refine ⟨fun b o' eb p => by rw [upd_ne (ne b o' eb p)]; exact eb, fun b xs h => ?_, fun b o' eb n => ?_⟩
  · by_cases z : b = a
    · subst z
      rcases h with (⟨ys, e1, e2⟩ | ⟨ys, e1, e2⟩) | ⟨n, o', ⟨ys, e1, e2⟩ | ⟨ys, e1, e2⟩⟩
      · rw [e] at e1; cases e1
      · rw [e] at e1; cases e1
      · rw [e] at e1; cases e1
        exact .inl (.inl ⟨ys, upd_same, e2⟩)
      · rw [e] at e1; cases e1
        exact .inl (.inr ⟨ys, upd_same, e2⟩)
    · exact h.to fun o' q => by
        have : ∀ c, c = b → upd H a u c = H c := fun c hc => upd_ne (by rw [hc]; exact z)
        rw [this b rfl]; exact q
  · by_cases z : b = a
    · subst z
      refine ⟨u, upd_same, ?_⟩
      rcases k with ⟨ys, _, rfl⟩ | ⟨ys, _, rfl⟩ <;> trivial
    · exact ⟨o', by rw [upd_ne z]; exact eb, n⟩

/-! ### the keys walked -/
theorem rep_atom {G : Gh} {d : Nat} : ∀ {k : L2.Key}, atomOk k = true → Rep G (atomW k) d (kV k)
  | .inl n, _ => by unfold atomW Rep; rfl
  | .inr x, h => by
    unfold atomOk at h
    simp only [Bool.and_eq_true, decide_eq_true_eq] at h
    unfold atomW Rep
    exact ⟨rfl, h⟩
theorem rep_atoms {G : Gh} {d : Nat} : ∀ {ks : List L2.Key}, ks.all atomOk = true → RepL G (ks.map atomW) d (ks.map kV)
  | [], _ => .nil
  | k :: ks, h => by
    rw [List.all_cons, Bool.and_eq_true] at h
    exact .cons (rep_atom h.1) (rep_atoms h.2)
theorem wk_keysK {G : Gh} {a : Addr} {o : Obj} {ys : List (L2.Key × V)} {kvs : List (Ky × W)} (e : G.H a = some (.frz o (.dK ys))) (hb : ¬ G.B1 a) (hk : kvs.map (·.1) = ys.map fun p => ofK p.1) (hok : (kvs.all fun p => p.1.ok) = true) (hz : kvs.length ≤ sizeLine) : Wk G (Itk a o ys) (kvs.map fun p => p.1.w) := by
  have hl : kvs.length = ys.length := by simpa using congrArg List.length hk
  refine ⟨by rw [List.length_map]; exact hz, fun H => H a = some (.frz o (.dK ys)), _, by rw [List.length_map, hl]; exact walk_keys, fun G' t => (t.h1 a _ e hb).1, fun G' i x H2 t tu hi y => ?_⟩
  obtain ⟨rfl, k, v, hkv, rfl⟩ := y
  have h1 : (kvs.map (·.1))[i]? = some (ofK k) := by rw [hk, List.getElem?_map, hkv]; rfl
  obtain ⟨p, hp, ep⟩ : ∃ p, kvs[i]? = some p ∧ p.1 = ofK k := by
    rw [List.getElem?_map] at h1
    exact Option.map_eq_some_iff.mp h1
  refine ⟨(ofK k).w, by rw [List.getElem?_map, hp, ← ep]; rfl, .inl ⟨rfl, ?_⟩⟩
  have ok := List.all_eq_true.mp hok p (List.mem_of_getElem? hp)
  rw [ep] at ok
  cases k with
  | inl n => exact rep_atom (k := .inl n) rfl
  | inr x => exact rep_atom (k := .inr x) ok
theorem wk_keysT {G : Gh} {a : Addr} {o : Obj} {ys : List (List L2.Key × V)} {kvs : List (Ky × W)} (e : G.H a = some (.frz o (.dT ys))) (hb : ¬ G.B1 a) (hk : kvs.map (·.1) = ys.map fun p => Ky.t p.1) (hok : (kvs.all fun p => p.1.ok) = true) (hz : kvs.length ≤ sizeLine) : Wk G (Itkt a o ys) (kvs.map fun p => p.1.w) := by
  have hl : kvs.length = ys.length := by simpa using congrArg List.length hk
  refine ⟨by rw [List.length_map]; exact hz, fun H => H a = some (.frz o (.dT ys)), _, by rw [List.length_map, hl]; exact walk_keysT, fun G' t => (t.h1 a _ e hb).1, fun G' i x H2 t tu hi y => ?_⟩
  obtain ⟨rfl, k, v, q, hkv, rfl, hq⟩ := y
  have h1 : (kvs.map (·.1))[i]? = some (.t k) := by rw [hk, List.getElem?_map, hkv]; rfl
  obtain ⟨p, hp, ep⟩ : ∃ p, kvs[i]? = some p ∧ p.1 = .t k := by
    rw [List.getElem?_map] at h1
    exact Option.map_eq_some_iff.mp h1
  refine ⟨(Ky.t k).w, by rw [List.getElem?_map, hp, ← ep]; rfl, .inl ⟨rfl, ?_⟩⟩
  have ok := List.all_eq_true.mp hok p (List.mem_of_getElem? hp)
  rw [ep] at ok
  simp only [Ky.ok, Bool.and_eq_true, decide_eq_true_eq] at ok
  show Rep G' (.tup (k.map atomW)) 0 (.ref q)
  unfold Rep
  exact ⟨q, k.map kV, rfl, hq, tu q _ hq, by rw [List.length_map]; exact ok.2, rep_atoms ok.1⟩
section
variable {K : PySem.W.Frag} {C C' : Addr → Prop} {fl : List Fg} {ρ : Env} {M M' : List W} {σ : L2.St} {H H' : Hp} {Fp : List (List Addr)} {mu mu' : List Addr}
theorem Po.free {a : Addr} {o : Obj} {u : HO} (e : H a = some u) (k : Dk u) (hm : a ∉ mu) (hF : a ∉ Fp.flatten) (p : Po K fl ρ σ Fp C (upd H a (.frz o u)) mu C' M' H' mu') : H' a = some (.frz o u) ∧ Po K fl ρ σ Fp C H mu C' M' (upd H' a u) mu' := by
  have ea : H' a = some (.frz o u) := p.ext a _ upd_same hm
  have none_of : ∀ b, upd H a (.frz o u) b = none → b ≠ a ∧ H b = none := fun b h => by
    have ne : b ≠ a := fun z => by rw [z, upd_same] at h; cases h
    rw [upd_ne ne] at h
    exact ⟨ne, h⟩
  refine ⟨ea, fun b o' eb hb => ?_, ?_, fun b c => (p.cf b c).imp id fun z => (none_of b z).2, p.cs, p.sr.sh (sw_free ea k) fun b hb => ?_⟩
  · by_cases z : b = a
    · subst z
      rw [e] at eb
      rw [upd_same]; exact eb
    · rw [upd_ne z]
      exact p.ext b o' (by rw [upd_ne z]; exact eb) hb
  · obtain ⟨more, em, fr⟩ := p.pre
    exact ⟨more, em, fun b hb => (none_of b (fr b hb)).2⟩
  · refine upd_ne fun z => ?_
    subst z
    rcases List.mem_append.mp hb with hb | hb
    · obtain ⟨more, em, fr⟩ := p.pre
      rw [em] at hb
      rcases List.mem_append.mp hb with hb | hb
      · exact hm hb
      · exact (none_of b (fr b hb)).1 rfl
    · exact hF hb
theorem Val.sh {G G' : Gh} (t : G.Sh G') {lv : Lv} {w : W} {v : V} {S : List Addr} (h : Val lv G w v S) (hs : ∀ a ∈ S, G'.H a = G.H a) : Val lv G' w v S := by
  cases lv with
  | t n => exact ⟨h.1, h.2.sh t⟩
  | f n => exact Own.sh t h hs
end
theorem upd_swap {H : Hp} {a D : Addr} {o u x : HO} (e : H a = some u) (ne : D ≠ a) : upd (upd (upd H a o) D x) a u = upd H D x := by
  funext b
  by_cases z : b = a
  · subst z
    rw [upd_same, upd_ne (Ne.symm ne)]; exact e.symm
  · rw [upd_ne z]
    by_cases z2 : b = D
    · subst z2; rw [upd_same, upd_same]
    · rw [upd_ne z2, upd_ne z2, upd_ne z]
section
variable {X : Cx} {cl : Nat → List W → List W → R W} {w : Wish} {fl : List Fg} {C : Addr → Prop} {ρ : Env} {M : List Mi.W} {σ : L2.St} {H : Hp} {Fp : List (List Addr)} {mu : List Addr} {Q : VK}
theorem PE.or {e : Expr} {t t' : TE} (h : PE X e t) (h' : PE X e t') : PE X e (fun σ H Q => t σ H Q ∨ t' σ H Q) := ⟨fun pins s σ H Q I q => q.elim (h.run pins s σ H Q I) (h'.run pins s σ H Q I)⟩
/-- [elt for t in d if cond], d a local dict that stands -/
theorem pe_lcK {elt tg p : Expr} {ifs : List Expr} {scope : Scope} {own : List (Str × Nat)} {pos : Pos} {i : Nat} {t : Tg} {cond : T} {el : E} (hc : X.calm = true) (hN : X.N.Nodup) (hp : PE X p (tVar i)) (hf : fl[i]? = some .pl ∨ fl[i]? = some (.bo 1)) (ok : BlkOk X.N X.env.scope scope own)
    (hg : ∀ (s : Shared) (H : Hp) (C : Addr) (cs : List (Str × Addr)) (fp : List Addr), PG (X.blk s H scope (compEnvC scope cs C X.env) fp) tg (TGt w.quiet (plE fl (own.map (·.2))) t))
    (ht : ∀ (s : Shared) (H : Hp) (C : Addr) (cs : List (Str × Addr)) (fp : List Addr), PTs (X.blk s H scope (compEnvC scope cs C X.env) fp) ifs (TB cl w.quiet (plE fl (own.map (·.2))) cond))
    (he : ∀ (s : Shared) (H : Hp) (C : Addr) (cs : List (Str × Addr)) (fp : List Addr), PE (X.blk s H scope (compEnvC scope cs C X.env) fp) elt (TR cl w.quiet (plE fl (own.map (·.2))) 0 el)) (hs : ∀ x, foldedSetIterable p X.env x = pure x)
    (hv : ∀ j ∈ t.vars, j ∈ own.map (·.2)) : PE X (.ListComp elt [⟨tg, p, ifs, 0⟩] scope pos) (TV cl w fl (.f 1) (.lc el t (.keys i) cond (own.map (·.2)))) := by
  have k := pe_lc (X := X) (elt := elt) (tg := tg) (iter := p) (ifs := ifs) (scope := scope) (own := own) (pos := pos) hc hN (pi_keys hp) ok hg ht he hs
  refine PE.weak (PE.or k (pe_lock k)) fun σ H Q ⟨C, ρ, M, Fp, mu, s, q⟩ => ?_
  have q : OutV w fl (.f 1) ρ σ Fp C H mu (ev cl (.lc el t (.keys i) cond (own.map (·.2))) ρ M) Q := q
  rw [ev_lc] at q
  unfold evI at q
  cases hx : ρ[i]? with
  | none => rw [hx] at q; exact q.elim
  | some ox =>
    rw [hx] at q
    cases ox with
    | none => exact q.elim
    | some x =>
      cases x with
      | dct kvs =>
        have q : OutV w fl (.f 1) ρ σ Fp C H mu ((if (kvs.all fun p => p.1.ok) = true then (R.ok (kvs.map fun p => p.1.w) M : R (List Mi.W)) else R.no).bind fun ws M => (compL (turnL cl el t cond (own.map (·.2)) ρ) ws M).bind fun r M => .ok (.lst r) M) Q := q
        split at q
        · rename_i hok
          have q : OutV w fl (.f 1) ρ σ Fp C H mu ((compL (turnL cl el t cond (own.map (·.2)) ρ) (kvs.map fun p => p.1.w) M).bind fun r M => .ok (.lst r) M) Q := q
          -- the dict
          obtain ⟨a, xs, hσ, hd, hB, hz, hD⟩ : ∃ a xs, σ[i]? = some (some (.ref a)) ∧ DAtR H a xs ∧ ¬ (a ∈ mu ∨ a ∈ Fp.flatten) ∧ xs.length ≤ sizeLine ∧ RepD (gS w.K H C Fp mu) kvs 0 xs := by
            rcases hf with hf | hf
            · obtain ⟨v, e, r⟩ := s.sl i _ _ hf hx
              unfold Rep at r
              obtain ⟨a, xs, rfl, h1, h2, h3, h4⟩ := r
              refine ⟨a, xs, ?_, h1, fun z => ?_, h3, h4⟩
              · cases z : σ[i]? with
                | none => rw [z] at e; cases e
                | some o => rw [z] at e; exact congrArg some e
              · unfold Gh.ok at h2
                rw [if_pos rfl] at h2
                exact h2 (z.elim .inl fun z => .inr (.inl z))
            · obtain ⟨v, e, r⟩ := s.sl i _ _ hf hx
              unfold Rep at r
              obtain ⟨a, xs, rfl, h1, h2, h3, h4⟩ := r
              refine ⟨a, xs, ?_, h1, fun z => ?_, h3, h4⟩
              · cases z : σ[i]? with
                | none => rw [z] at e; cases e
                | some o => rw [z] at e; exact congrArg some e
              · unfold Gh.ok at h2
                rw [if_neg (by omega)] at h2
                exact h2 z
          have hm : a ∉ mu := fun z => hB (.inl z)
          have hF : a ∉ Fp.flatten := fun z => hB (.inr z)
          have hlen : kvs.length ≤ sizeLine := by
            have := congrArg List.length hD.keys.1
            rw [List.length_map, List.length_map] at this
            omega
          -- behind a locked dict that is not empty
          have core : ∀ (H' : Hp) (o : Obj) (Q' : VK), SR w.K C fl ρ M σ H' Fp mu → OutV w fl (.f 1) ρ σ Fp C H' mu ((compL (turnL cl el t cond (own.map (·.2)) ρ) (kvs.map fun p => p.1.w) M).bind fun r M => .ok (.lst r) M) Q' →
              ((∃ ys : List (L2.Key × V), H' a = some (.frz o (.dK ys)) ∧ xs = ys.map fun p => (ofK p.1, p.2)) ∨ ∃ ys : List (List L2.Key × V), H' a = some (.frz o (.dT ys)) ∧ xs = ys.map fun p => (.t p.1, p.2)) →
              tLc (iKeys (tVar i)) (TGt w.quiet (plE fl (own.map (·.2))) t) (TB cl w.quiet (plE fl (own.map (·.2))) cond) (TR cl w.quiet (plE fl (own.map (·.2))) 0 el) (own.map (·.2)) σ H' Q' := by
            intro H' o Q' s' q' hl
            have hk := hD.keys.1
            rcases hl with ⟨ys, e, ex⟩ | ⟨ys, e, ex⟩
            · have wk := wk_keysK (G := gk false w.K H' C Fp mu) e hm (by rw [hk, ex, List.map_map]; rfl) hok hlen
              exact ⟨.ref a, hσ, a, o, rfl, .inl ⟨ys, e, fun D hD => tlc_core hv s' wk q' D hD⟩⟩
            · have wk := wk_keysT (G := gk false w.K H' C Fp mu) e hm (by rw [hk, ex, List.map_map]; rfl) hok hlen
              exact ⟨.ref a, hσ, a, o, rfl, .inr ⟨ys, e, fun D hD => tlc_core hv s' wk q' D hD⟩⟩
          rcases hd with hd | ⟨nz, o, hl⟩
          · -- unlocked
            obtain ⟨u, eu, mu', hu⟩ : ∃ u, H a = some u ∧ Mut (some u) ∧ ((∃ ys : List (L2.Key × V), u = .dK ys ∧ xs = ys.map fun p => (ofK p.1, p.2)) ∨ ∃ ys : List (List L2.Key × V), u = .dT ys ∧ xs = ys.map fun p => (.t p.1, p.2)) := by
              rcases hd with ⟨ys, e, ex⟩ | ⟨ys, e, ex⟩
              · exact ⟨_, e, trivial, .inl ⟨ys, rfl, ex⟩⟩
              · exact ⟨_, e, trivial, .inr ⟨ys, rfl, ex⟩⟩
            refine .inr ⟨a, u, eu, mu', fun od => ?_⟩
            by_cases nz : xs = []
            · -- an empty one
              have ek : kvs = [] := by
                have := congrArg List.length hD.keys.1
                rw [List.length_map, List.length_map, nz] at this
                exact List.length_eq_zero_iff.mp this
              subst ek
              have g : Give w.K fl ρ σ Fp C M H mu (.f 1) (.lst []) Q := q
              have fin : ∀ D, upd H a (.frz od u) D = none → D ≠ a ∧ Q (.ref D) (upd (upd (upd H a (.frz od u)) D (.lst [])) a u) := fun D hD' => by
                have ne : D ≠ a := fun z => by rw [z, upd_same] at hD'; cases hD'
                rw [upd_ne ne] at hD'
                refine ⟨ne, ?_⟩
                rw [upd_swap eu ne]
                exact g.lst s .nil (Nat.zero_le _) hD'
              rcases hu with ⟨ys, rfl, ex⟩ | ⟨ys, rfl, ex⟩
              · have ey : ys = [] := by rw [nz] at ex; exact List.map_eq_nil_iff.mp ex.symm
                subst ey
                refine ⟨.ref a, hσ, a, od, rfl, .inl ⟨[], upd_same, fun D hD' => ?_⟩⟩
                obtain ⟨ne, q2⟩ := fin D hD'
                refine lc_it (n := 0) walk_keys (fun _ Hx => Hx = upd (upd H a (.frz od (.dK []))) D (.lst [])) rfl (fun j Hx _ e => ?_) (fun j x Hx Hy hj => absurd hj (Nat.not_lt_zero _)) fun Hx e => ?_
                · rw [e, upd_ne (Ne.symm ne), upd_same]
                · subst e
                  exact ⟨by rw [upd_ne (Ne.symm ne), upd_same], q2⟩
              · have ey : ys = [] := by rw [nz] at ex; exact List.map_eq_nil_iff.mp ex.symm
                subst ey
                refine ⟨.ref a, hσ, a, od, rfl, .inr ⟨[], upd_same, fun D hD' => ?_⟩⟩
                obtain ⟨ne, q2⟩ := fin D hD'
                refine lc_it (n := 0) walk_keysT (fun _ Hx => Hx = upd (upd H a (.frz od (.dT []))) D (.lst [])) rfl (fun j Hx _ e => ?_) (fun j x Hx Hy hj => absurd hj (Nat.not_lt_zero _)) fun Hx e => ?_
                · rw [e, upd_ne (Ne.symm ne), upd_same]
                · subst e
                  exact ⟨by rw [upd_ne (Ne.symm ne), upd_same], q2⟩
            · have hk : Dk u := by
                rcases hu with ⟨ys, rfl, ex⟩ | ⟨ys, rfl, ex⟩
                · exact .inl ⟨ys, fun z => nz (by rw [ex, z]; rfl), rfl⟩
                · exact .inr ⟨ys, fun z => nz (by rw [ex, z]; rfl), rfl⟩
              have sL := s.sh (sw_lock (o := od) eu hk) fun b hb => upd_ne fun z => by
                subst z
                rcases List.mem_append.mp hb with hb | hb
                · exact hm hb
                · exact hF hb
              refine core _ od _ sL ?_ ?_
              · revert q
                cases hr : compL (turnL cl el t cond (own.map (·.2)) ρ) (kvs.map fun p => p.1.w) M with
                | no => exact id
                | ex x N => exact absurd hr (compL_ex turnL_ex _ _ _ _)
                | ok r Me =>
                  intro q v H' mu2 S p nd fr hval
                  obtain ⟨ea, p2⟩ := Po.free eu hk hm hF p
                  have neS : ∀ b ∈ S, b ≠ a ∧ H b = none := fun b hb => by
                    have := fr b hb
                    have ne : b ≠ a := fun z => by rw [z, upd_same] at this; cases this
                    rw [upd_ne ne] at this
                    exact ⟨ne, this⟩
                  refine ⟨ea, q v _ mu2 S p2 nd (fun b hb => (neS b hb).2) (Val.sh (G := gT w.K H' (fun a => C a ∨ a ∈ S) Fp mu2) (G' := gT w.K (upd H' a u) (fun a => C a ∨ a ∈ S) Fp mu2) ⟨rfl, rfl, fun _ z => z, fun _ z => z, sw_free ea hk⟩ hval fun b hb => upd_ne (neS b hb).1)⟩
              · rcases hu with ⟨ys, rfl, ex⟩ | ⟨ys, rfl, ex⟩
                · exact .inl ⟨ys, upd_same, ex⟩
                · exact .inr ⟨ys, upd_same, ex⟩
          · exact .inl (core H o Q s q hl)
        · exact q.elim
      | _ => exact q.elim
end
end Mi
end MiZ4_

section MiL_
set_option linter.all false
set_option Elab.async false
/-! MiL: the checker of expressions: the text is the one of my small language, and what level its value is of. -/
namespace Mi
open PySem PySem.Spec PyProof.Rows L2

/-- what is known of the text's place -/
structure Ck where
  N : List Str
  sc : Scope
  fn : Str → Bool
  tab : Nat → Option (Str × Fn)
  gi : List (Str × Int)
  gb : List (Str × String)
  ex : List Nat
  top : Bool
def Ck.blk (c : Ck) (scope : Scope) : Ck := { c with sc := relS scope c.sc, fn := fun x => scope.names.lookup x == some .cell, top := false }
def Ck.gl (c : Ck) (x : Str) : Bool := decide (c.sc.names.lookup x = some .globalImplicit)
def Ck.vis (c : Ck) (x : Str) : Bool := decide (c.sc.names.lookup x = some .local) || decide (c.sc.names.lookup x = some .cell) || decide (c.sc.names.lookup x = some .free)
def Ck.loc (c : Ck) (x : Str) : Bool := decide (c.sc.names.lookup x = some .local) || (decide (c.sc.names.lookup x = some .cell) && c.fn x)
def plain : Str → Bool := fun x => !(x == ("__debug__" : Str)) && !(x == ("__classdict__" : Str))
/-- the built-in names that are used: none is the module's own -/
def blts : List Str := ["len", "int", "tuple", "list", "sum", "any", "all", "max", "min", "sorted", "abs", "isinstance", "str", "range", "enumerate", "bool", "dict"]
structure Cok (c : Ck) (X : Cx) (cl : Nat → List W → List W → R W) (w : Wish) : Prop where
  N : X.N = c.N
  sc : X.env.scope = c.sc
  kind : c.sc.kind = .function
  fn : ∀ x, X.fn x = c.fn x
  nd : c.N.Nodup
  calm : X.calm = true
  hk : w.K = X.K
  u : X.A.units + 65 < cLine
  tk : Takes X w.W
  blt : ∀ x ∈ blts, X.mg x = none
  fns : ∀ f x F, c.tab f = some (x, F) → (x == ("__debug__" : Str)) = false ∧ F.pd.length = F.np ∧ ∃ fa fd prm k, FnOk X.prog X.w X.K X.mg X.base (L2.CX X.prog X.w) k fa fd prm (spF w.K w.cm cl f F) ∧ Room k X.A ∧ X.mg x = some (.ref fa) ∧ PySem.W.keepIn X.K (.ref fa) = true ∧ Binds X.K fd prm []
  gis : ∀ x n, (x, n) ∈ c.gi → (∃ t, X.mg x = some (.int n t)) ∧ (x == ("__debug__" : Str)) = false
  gbs : ∀ x id, (x, id) ∈ c.gb → X.mg x = some (.builtin id) ∧ (x == ("__debug__" : Str)) = false
  exs : ∃ Cs, ExT X c.ex Cs ∧ (∀ k a, w.cm k = some a → k ∈ c.ex ∧ a = Cs k) ∧ ∀ k ∈ c.ex, w.cm k = some (Cs k)
  top : c.top = true → X.stack = X.env :: X.outer ∧ X.env.frame = some X.env.locals
theorem takes_quiet {X : Cx} : Takes X (fun _ _ _ _ => False) := fun _ _ ⟨_, _, _, _, _, _, _, _, _, _, _, _, _, _, _, _, w⟩ => w.elim
theorem Cok.blk {c : Ck} {X : Cx} {cl : Nat → List W → List W → R W} {w : Wish} (h : Cok c X cl w) (scope : Scope) (hk : scope.kind = .function) (s : Shared) (H : Hp) (C : Addr) (cs : List (Str × Addr)) (fp : List Addr) : Cok (c.blk scope) (X.blk s H scope (compEnvC scope cs C X.env) fp) cl w.quiet where
  N := h.N
  sc := by
    show relabel scope X.env = relS scope c.sc
    rw [← h.sc]; rfl
  kind := hk
  fn := fun _ => rfl
  nd := h.nd
  calm := h.calm
  hk := h.hk
  u := h.u
  tk := takes_quiet
  blt := h.blt
  fns := h.fns
  gis := h.gis
  gbs := h.gbs
  exs := by
    obtain ⟨Cs, T, k1, k2⟩ := h.exs
    exact ⟨Cs, ⟨T.at_, T.kit, T.exm⟩, k1, k2⟩
  top := fun z => nomatch z

/-! ### operators -/
def bopOf : Operator → Option Bop
  | .Add => some .add | .Sub => some .sub | .Mult => some .mul | .FloorDiv => some .fdiv | .Mod => some .mod | .Pow => some .pow
  | _ => none
def copOf : CmpOp → Option Cop
  | .Eq => some .eq | .NotEq => some .ne | .Lt => some .lt | .LtE => some .le | .Gt => some .gt | .GtE => some .ge | .Is => some .is | .IsNot => some .isn | .In => some .inn | .NotIn => some .nin
theorem bop_ok {X : Cx} {op : Operator} {o : Bop} (h : bopOf op = some o) : ∃ r, OpR X (binaryOp op) r ∧ BinOk X.K r (binW o) (.f 1) := by
  cases op with
  | Add => cases h; exact ⟨_, op_addA, addOk⟩
  | Sub => cases h; exact ⟨_, op_sub, subOk⟩
  | Mult => cases h; exact ⟨_, op_mulA, mulOk'⟩
  | FloorDiv => cases h; exact ⟨_, op_fdivA, fdivOk⟩
  | Mod => cases h; exact ⟨_, op_modA, modOk⟩
  | Pow => cases h; exact ⟨_, op_pow, powOk⟩
  | _ => cases h
theorem cop_ok {X : Cx} (hu : X.A.units + 65 < cLine) {op : CmpOp} {o : Cop} (h : copOf op = some o) : ∃ r, OpR X (compareOp op) r ∧ CmpOk X.K r (cmpW o) := by
  cases op <;> cases h
  · exact ⟨_, op_eqD (by omega), eqOk⟩
  · exact ⟨_, op_neD (by omega), neOk⟩
  · exact ⟨_, op_lt.or op_lt_str, ltOk⟩
  · exact ⟨_, op_le.or op_le_str, leOk⟩
  · exact ⟨_, op_gt.or op_gt_str, gtOk⟩
  · exact ⟨_, op_ge.or op_ge_str, geOk⟩
  · exact ⟨_, op_isN.or op_isBl, isOk⟩
  · exact ⟨_, op_notN.or op_notBl, isnOk⟩
  · exact ⟨_, op_inA hu, inOk⟩
  · exact ⟨_, op_ninA hu, ninOk⟩

/-! ### built-ins -/
def biName : Bi → Option Str
  | .len => some "len" | .int => some "int" | .tuple => some "tuple" | .list => some "list" | .sum => some "sum" | .any => some "any" | .all => some "all"
  | .max => some "max" | .min => some "min" | .sorted => some "sorted" | .abs => some "abs"
  | _ => none
def biLv : Bi → Lv
  | .list => .f 1 | .sorted => .f 1
  | _ => .f 2

def tyName : Ty → Str
  | .int => "int" | .str => "str" | .tuple => "tuple" | .list => "list" | .bool => "bool" | .dict => "dict"
/-! ### the checker -/
def lvD : Option Lv → Nat → Bool
  | some lv, d => asD lv d
  | none, _ => false
def lvMeet : Option Lv → Option Lv → Option Lv
  | some a, some b => if a = b then some a else if asD a 0 && asD b 0 then some (.t 0) else none
  | _, _ => none
def ckVar (c : Ck) (i : Nat) : Expr → Bool
  | .Name x _ => decide (c.N[i]? = some x) && c.vis x && plain x
  | _ => false
mutual
def ckG (c : Ck) (fl : List Fg) : Tg → Expr → Bool
  | .nm i, p => match p with
    | .Name x _ => decide (c.N[i]? = some x) && c.loc x && decide (fl[i]? = some Fg.pl)
    | _ => false
  | .tp ts, p => match p with
    | .Tuple es _ _ => ckGs c fl ts es
    | _ => false
def ckGs (c : Ck) (fl : List Fg) : List Tg → List Expr → Bool
  | [], es => match es with
    | [] => true
    | _ => false
  | t :: ts, es => match es with
    | e :: es => notStar e && ckG c fl t e && ckGs c fl ts es
    | [] => false
end
def isYes : T → Bool
  | .yes => true
  | _ => false
def ckIfs (yes : Bool) (t : Expr → Bool) : List Expr → Bool
  | [] => yes
  | [q] => t q
  | _ => false
def mtName : Mt → Str
  | .get => "get" | .index => "index" | .join => "join" | .split => "split"
def mtDs : Mt → Lv → List Nat
  | .get, .t n => [2, n - 1]
  | .get, .f _ => [2, 0]
  | _, _ => [2]
def mtRes : Mt → Lv → Option Lv
  | .get, .t n => some (.t (n - 1))
  | .get, .f _ => some (.t 0)
  | .index, lv => if asD lv 1 then some (.f 2) else none
  | .join, lv => if asD lv 2 then some (.f 2) else none
  | .split, lv => if asD lv 2 then some (.f 1) else none
/-- the keys of a local dict -/
def ckK : I → Ck → List Fg → Expr → Bool
  | .keys i, c, fl, p => ckVar c i p && (decide (fl[i]? = some .pl) || decide (fl[i]? = some (.bo 1)))
  | _, _, _, _ => false
mutual
def ckE : E → Ck → List Fg → Expr → Option Lv
  | .non, _, _, p => match p with
    | .Constant .none _ _ => some (.f 2)
    | _ => none
  | .bl b, _, _, p => match p with
    | .Constant (.bool b') _ _ => if b = b' then some (.f 2) else none
    | _ => none
  | .int i, _, _, p => match p with
    | .Constant (.int j) _ _ => if i = j then some (.f 2) else none
    | _ => none
  | .str x, _, _, p => match p with
    | .Constant (.str y) _ _ => if x = y ∧ PyData.strOk x = true ∧ x.length ≤ 16777216 then some (.f 2) else none
    | _ => none
  | .var i, c, fl, p => if ckVar c i p then (fl[i]?).bind lvOf else none
  | .tup es, c, fl, p => match p with
    | .Tuple ps _ _ => if ckL es c fl (List.replicate es.length 0) ps ∧ es.length ≤ 1000 then some (.f 2) else none
    | _ => none
  | .lst es, c, fl, p => match p with
    | .List ps _ => if ckL es c fl (List.replicate es.length 0) ps ∧ es.length ≤ 1000 then some (.f 1) else none
    | _ => none
  | .dct es, c, fl, p => match p with
    | .Dict keys values _ => if ckD es c fl keys values ∧ keys.length ≤ 15 then some (.f 1) else none
    | _ => none
  | .bin o a b, c, fl, p => match p with
    | .BinOp pa op pb _ => if bopOf op = some o ∧ lvD (ckE a c fl pa) 1 ∧ lvD (ckE b c fl pb) 1 then some (.f 1) else none
    | _ => none
  | .neg a, c, fl, p => match p with
    | .UnaryOp .USub pa _ => if lvD (ckE a c fl pa) 2 then some (.f 2) else none
    | _ => none
  | .cmp o a b, c, fl, p => match p with
    | .Compare pa [op] [pb] _ => if copOf op = some o ∧ notSet pb ∧ lvD (ckE a c fl pa) 2 ∧ lvD (ckE b c fl pb) 2 then some (.f 2) else none
    | _ => none
  | .cmp2 o o' a b d, c, fl, p => match p with
    | .Compare pa [op, op'] [pb, pd] _ => if copOf op = some o ∧ copOf op' = some o' ∧ notSet pd ∧ lvD (ckE a c fl pa) 2 ∧ lvD (ckE b c fl pb) 2 ∧ lvD (ckE d c fl pd) 2 then some (.f 2) else none
    | _ => none
  | .not a, c, fl, p => match p with
    | .UnaryOp .Not pa _ => if lvD (ckE a c fl pa) 2 then some (.f 2) else none
    | _ => none
  | .and a b, c, fl, p => match p with
    | .BoolOp .And [pa, pb] _ => if lvD (ckE a c fl pa) 0 ∧ lvD (ckE b c fl pb) 0 then some (.t 0) else none
    | .BoolOp .And (pa :: pb :: pd :: rest) pos => if lvD (ckE a c fl pa) 0 ∧ lvD (ckE b c fl (.BoolOp .And (pb :: pd :: rest) pos)) 0 then some (.t 0) else none
    | _ => none
  | .or a b, c, fl, p => match p with
    | .BoolOp .Or [pa, pb] _ => if lvD (ckE a c fl pa) 0 ∧ lvD (ckE b c fl pb) 0 then some (.t 0) else none
    | .BoolOp .Or (pa :: pb :: pd :: rest) pos => if lvD (ckE a c fl pa) 0 ∧ lvD (ckE b c fl (.BoolOp .Or (pb :: pd :: rest) pos)) 0 then some (.t 0) else none
    | _ => none
  | .ite t a b, c, fl, p => match p with
    | .IfExp pc pa pb _ => if ckT t c fl pc then lvMeet (ckE a c fl pa) (ckE b c fl pb) else none
    | _ => none
  | .ix a i, c, fl, p => match p with
    | .Subscript pa pi _ => match ckE a c fl pa with
      | some (.t n) => if notSlice pi ∧ lvD (ckE i c fl pi) 2 then some (.t (n - 1)) else none
      | some (.f _) => if notSlice pi ∧ lvD (ckE i c fl pi) 2 then some (.t 0) else none
      | none => none
    | _ => none
  | .sl a lo hi, c, fl, p => match p with
    | .Subscript pa (.Slice pl ph none _) _ => if lvD (ckE a c fl pa) 1 ∧ ckP lo c fl pl ∧ ckP hi c fl ph then some (.f 1) else none
    | _ => none
  | .call f es, c, fl, p => match p with
    | .Call (.Name x _) (q :: qs) [] _ => match c.tab f with
      | some (y, F) => if x = y ∧ c.gl x ∧ ckL es c fl F.pd (q :: qs) then some F.ret else none
      | none => none
    | _ => none
  | .bi b es, c, fl, p => match p with
    | .Call (.Name x _) (q :: qs) [] _ => if biName b = some x ∧ c.gl x ∧ ckL es c fl (List.replicate es.length 1) (q :: qs) then some (biLv b) else none
    | _ => none
  | .mt m o es, c, fl, p => match p with
    | .Call (.Attribute po name apos) qs [] cpos => match ckE o c fl po with
      | some lv => if name = mtName m ∧ notCall0 po ∧ apos.endLine = cpos.line ∧ ckL es c fl (mtDs m lv) qs then mtRes m lv else none
      | none => none
    | _ => none
  | .lc elt tg it cond own, c, fl, p => match p with
    | .ListComp pelt [⟨ptg, piter, ifs, n⟩] scope _ =>
      if n = 0 ∧ blkC c.N c.sc scope (own.map fun i => ((c.N[i]?).getD Str.empty, i)) = true ∧ notSet piter ∧ (tg.vars.all fun i => decide (i ∈ own)) ∧ (ckK it c fl piter || ckI it c fl false ptg piter) = true ∧ ckG (c.blk scope) (plE fl own) tg ptg ∧ ckIfs (isYes cond) (fun q => ckT cond (c.blk scope) (plE fl own) q) ifs = true ∧ lvD (ckE elt (c.blk scope) (plE fl own) pelt) 0
      then some (.f 1) else none
    | _ => none
  | .dc k v tg it cond own, c, fl, p => match p with
    | .DictComp pk pv [⟨ptg, piter, ifs, n⟩] scope _ =>
      if n = 0 ∧ blkC c.N c.sc scope (own.map fun i => ((c.N[i]?).getD Str.empty, i)) = true ∧ notSet piter ∧ (tg.vars.all fun i => decide (i ∈ own)) ∧ ckI it c fl false ptg piter ∧ ckG (c.blk scope) (plE fl own) tg ptg ∧ ckIfs (isYes cond) (fun q => ckT cond (c.blk scope) (plE fl own) q) ifs = true ∧ lvD (ckE k (c.blk scope) (plE fl own) pk) 2 ∧ lvD (ckE v (c.blk scope) (plE fl own) pv) 0
      then some (.f 1) else none
    | _ => none
  | .isi t a, c, fl, p => match p with
    | .Call (.Name x _) [q, .Name y _] [] _ => if x = ("isinstance" : Str) ∧ c.gl x ∧ notStar q ∧ y = tyName t ∧ c.gl y ∧ lvD (ckE a c fl q) 2 then some (.f 2) else none
    | _ => none
  | .gint x n, c, _, p => match p with
    | .Name y _ => if x = y ∧ c.gl y ∧ (x, n) ∈ c.gi then some (.f 2) else none
    | _ => none
  | .rev a, c, fl, p => match p with
    | .Subscript q (.Slice none none (some (.UnaryOp .USub (.Constant (.int 1) _ _) _)) _) _ => if lvD (ckE a c fl q) 1 then some (.f 1) else none
    | _ => none
  | .dcp a, c, fl, p => match p with
    | .Call (.Name x _) [q] [] _ => if x = ("dict" : Str) ∧ c.gl x ∧ notStar q ∧ lvD (ckE a c fl q) 1 then some (.f 1) else none
    | _ => none
  | .ixf a b d, c, fl, p => match p with
    | .Call (.Attribute po name apos) [q, r] [] cpos => if name = ("index" : Str) ∧ notCall0 po ∧ apos.endLine = cpos.line ∧ notStar q ∧ notStar r ∧ lvD (ckE a c fl po) 1 ∧ lvD (ckE b c fl q) 2 ∧ lvD (ckE d c fl r) 2 then some (.f 2) else none
    | _ => none
  | .gcd a b, c, fl, p => match p with
    | .Call (.Name x _) [q, r] [] _ => if c.gl x ∧ (x, "math.gcd") ∈ c.gb ∧ notStar q ∧ notStar r ∧ lvD (ckE a c fl q) 2 ∧ lvD (ckE b c fl r) 2 then some (.f 2) else none
    | _ => none
  | .lset _, _, _, _ => none
  | .ssc _ _ _ _ _, _, _, _ => none
  | .keys _, _, _, _ => none
  | .vals _, _, _, _ => none
  | .items _, _, _, _ => none
  | .ixt _ _, _, _, _ => none
  | .share a, c, fl, p => match ckE a c fl p with
    | some (.f 1) => some (.f 2)
    | _ => none
termination_by structural e => e
def ckL : List E → Ck → List Fg → List Nat → List Expr → Bool
  | [], _, _, ds, ps => match ds, ps with
    | [], [] => true
    | _, _ => false
  | e :: es, c, fl, ds, ps => match ds, ps with
    | d :: ds, p :: ps => notStar p && lvD (ckE e c fl p) d && ckL es c fl ds ps
    | _, _ => false
termination_by structural e => e
/-- keys and values in turn -/
def ckD : List E → Ck → List Fg → List (Option Expr) → List Expr → Bool
  | [], _, _, ks, vs => match ks, vs with
    | [], [] => true
    | _, _ => false
  | e :: es, c, fl, ks, vs => match ks, vs with
    | some k :: ks, v :: vs => lvD (ckE e c fl k) 2 && ckD2 es c fl v ks vs
    | _, _ => false
termination_by structural e => e
def ckD2 : List E → Ck → List Fg → Expr → List (Option Expr) → List Expr → Bool
  | [], _, _, _, _, _ => false
  | e :: es, c, fl, v, ks, vs => lvD (ckE e c fl v) 0 && ckD es c fl ks vs
termination_by structural e => e
def ckT : T → Ck → List Fg → Expr → Bool
  | .yes, _, _, _ => false
  | .v e, c, fl, p => testPlain p && lvD (ckE e c fl p) 2
  | .not t, c, fl, p => match p with
    | .UnaryOp .Not q _ => ckT t c fl q
    | _ => false
  | .and a b, c, fl, p => match p with
    | .BoolOp .And [pa, pb] _ => ckT a c fl pa && ckT b c fl pb
    | .BoolOp .And (pa :: pb :: pd :: rest) pos => ckT a c fl pa && ckT b c fl (.BoolOp .And (pb :: pd :: rest) pos)
    | _ => false
  | .or a b, c, fl, p => match p with
    | .BoolOp .Or [pa, pb] _ => ckT a c fl pa && ckT b c fl pb
    | .BoolOp .Or (pa :: pb :: pd :: rest) pos => ckT a c fl pa && ckT b c fl (.BoolOp .Or (pb :: pd :: rest) pos)
    | _ => false
  | .cmp o a b, c, fl, p => match p with
    | .Compare pa [op] [pb] _ => decide (copOf op = some o) && notSet pb && lvD (ckE a c fl pa) 2 && lvD (ckE b c fl pb) 2
    | _ => false
  | .cmp2 o o' a b d, c, fl, p => match p with
    | .Compare pa [op, op'] [pb, pd] _ => decide (copOf op = some o) && decide (copOf op' = some o') && notSet pd && lvD (ckE a c fl pa) 2 && lvD (ckE b c fl pb) 2 && lvD (ckE d c fl pd) 2
    | _ => false
termination_by structural e => e
def ckI : I → Ck → List Fg → Bool → Expr → Expr → Bool
  | .v e, c, fl, b, _, p => lvD (ckE e c fl p) (if b then 0 else 1) || (match e with
    | .var i => ckVar c i p && decide (fl[i]? = some (Fg.bo 1))
    | _ => false)
  | .range es, c, fl, _, _, p => match p with
    | .Call (.Name x _) ps [] _ => decide (x = ("range" : Str)) && c.gl x && (es.length == 1 || es.length == 2) && ckL es c fl (List.replicate es.length 2) ps
    | _ => false
  | .enum e, c, fl, b, tg, p => match p, tg with
    | .Call (.Name x _) [q] [] _, .Tuple _ _ _ => decide (x = ("enumerate" : Str)) && c.gl x && notStar q && (lvD (ckE e c fl q) (if b then 0 else 1) || (match e with
      | .var i => ckVar c i q && decide (fl[i]? = some (Fg.bo 1))
      | _ => false))
    | _, _ => false
  | .keys _, _, _, _, _, _ => false
  | .vals _, _, _, _, _, _ => false
termination_by structural e => e
def ckP : P → Ck → List Fg → Option Expr → Bool
  | .no, _, _, p => match p with
    | none => true
    | _ => false
  | .v e, c, fl, p => match p with
    | some p => lvD (ckE e c fl p) 2
    | none => false
termination_by structural e => e
end
end Mi
end MiL_

section MiM_
set_option linter.all false
set_option Elab.async false
/-! MiM: what the checker has seen holds. -/
namespace Mi
open PySem PySem.Spec PyProof.Rows L2

section
variable {cl : Nat → List W → List W → R W}
theorem lvD_some {o : Option Lv} {d : Nat} (h : lvD o d = true) : ∃ lv, o = some lv ∧ asD lv d = true := by
  cases o with
  | none => cases h
  | some lv => exact ⟨lv, rfl, h⟩
theorem rd {X : Cx} {w : Wish} {c : Ck} {fl : List Fg} {e : E} {p : Expr} {d : Nat} (h : lvD (ckE e c fl p) d = true) (ih : ∀ lv, ckE e c fl p = some lv → PE X p (TV cl w fl lv e)) : PE X p (TR cl w fl d e) := by
  obtain ⟨lv, e1, e2⟩ := lvD_some h
  exact pe_r (ih lv e1) e2
theorem vis_of {c : Ck} {X : Cx} {w : Wish} (h : Cok c X cl w) {x : Str} (v : c.vis x = true) : Vis X.env.scope x := by
  unfold Ck.vis at v
  simp only [Bool.or_eq_true, decide_eq_true_eq] at v
  rw [h.sc]
  rcases v with (v | v) | v
  · exact .inl v
  · exact .inr (.inl v)
  · exact .inr (.inr v)
theorem gl_of {c : Ck} {X : Cx} {w : Wish} (h : Cok c X cl w) {x : Str} (v : c.gl x = true) : Gl X x := by
  show X.env.scope.names.lookup x = _
  rw [h.sc]
  exact of_decide_eq_true v
theorem plain_of {x : Str} (h : plain x = true) : (x == ("__debug__" : Str)) = false ∧ (x == ("__classdict__" : Str)) = false := by
  unfold plain at h
  simp only [Bool.and_eq_true, Bool.not_eq_true'] at h
  exact h
theorem var_of {c : Ck} {X : Cx} {w : Wish} (h : Cok c X cl w) {i : Nat} {p : Expr} (v : ckVar c i p = true) : PE X p (tVar i) := by
  cases p with
  | Name x pos =>
    have v : (decide (c.N[i]? = some x) && c.vis x && plain x) = true := v
    simp only [Bool.and_eq_true, decide_eq_true_eq] at v
    obtain ⟨⟨v1, v2⟩, v3⟩ := v
    obtain ⟨k1, k2⟩ := plain_of v3
    exact pe_var (by rw [h.N]; exact v1) (vis_of h v2) k1 k2
  | _ => cases v
theorem loc_of {c : Ck} {X : Cx} {w : Wish} (h : Cok c X cl w) {x : Str} (v : c.loc x = true) : Loc X.env.scope x ∧ (X.fn x = true ∨ X.env.scope.names.lookup x = some .local) := by
  unfold Ck.loc at v
  simp only [Bool.or_eq_true, Bool.and_eq_true, decide_eq_true_eq] at v
  rw [h.sc, h.fn]
  rcases v with v | ⟨v1, v2⟩
  · exact ⟨.inl v, .inr v⟩
  · exact ⟨.inr v1, .inl v2⟩
theorem assign_ok {p : Expr} {ps : List Expr} {env : PySem.Env} (h : notStar p = true) : (assignEach (p :: ps) env).map (·.2) = assign p env :: (assignEach ps env).map (·.2) := by
  cases p <;> first | rfl | cases h
theorem assign_ok2 {p : Expr} {ps : List Expr} {env : PySem.Env} (h : notStar p = true) : assignEach (p :: ps) env = (false, assign p env) :: assignEach ps env := by
  cases p <;> first | rfl | cases h
/-! ### targets -/
mutual
theorem ckG_ok {c : Ck} {X : Cx} {w : Wish} {fl : List Fg} (h : Cok c X cl w) : ∀ (t : Tg) {p : Expr}, ckG c fl t p = true → PG X p (TGt w fl t) ∧ notStar p = true
  | .nm i, p, e => by
    unfold ckG at e
    split at e
    · simp only [Bool.and_eq_true, decide_eq_true_eq] at e
      obtain ⟨⟨e1, e2⟩, e3⟩ := e
      obtain ⟨k1, k2⟩ := loc_of h e2
      exact ⟨pg_nm (pg_name (by rw [h.N]; exact h.nd) (by rw [h.N]; exact e1) k1 k2) e3, rfl⟩
    · cases e
  | .tp ts, p, e => by
    unfold ckG at e
    split at e
    · obtain ⟨k1, k2, k3, k4⟩ := ckGs_ok h ts e
      exact ⟨pg_tps h.hk h.calm k1 k2 k3 k4, rfl⟩
    · cases e
theorem ckGs_ok {c : Ck} {X : Cx} {w : Wish} {fl : List Fg} (h : Cok c X cl w) : ∀ (t : List Tg) {p : List Expr}, ckGs c fl t p = true → PGs X p (TGts w fl t) ∧ p.length = t.length ∧ (assignEach p X.env).length = p.length ∧ (assignEach p X.env).findIdx? (·.1) = none
  | [], p, e => by
    unfold ckGs at e
    cases p with
    | nil => exact ⟨pgs_n, rfl, rfl, rfl⟩
    | cons _ _ => cases e
  | t :: ts, p, e => by
    unfold ckGs at e
    cases p with
    | nil => cases e
    | cons q qs =>
      simp only [Bool.and_eq_true] at e
      obtain ⟨⟨e1, e2⟩, e3⟩ := e
      obtain ⟨k1, k2⟩ := ckG_ok h t e2
      obtain ⟨j1, j2, j3, j4⟩ := ckGs_ok h ts e3
      refine ⟨pgs_c k1 j1 (assign_ok e1), by rw [List.length_cons, List.length_cons, j2], ?_, ?_⟩
      · rw [assign_ok2 e1, List.length_cons, List.length_cons, j3]
      · rw [assign_ok2 e1, List.findIdx?_cons, j4]; rfl
end
/-! ### built-ins -/
theorem blt_of {c : Ck} {X : Cx} {w : Wish} (h : Cok c X cl w) {x : Str} (hx : x ∈ blts) : X.mg x = none := h.blt x hx
theorem bi_ok {c : Ck} {X : Cx} {w : Wish} {fl : List Fg} (h : Cok c X cl w) {b : Bi} {x : Str} {q : Expr} {qs : List Expr} {pp pos : Pos} {es : List E} {ds : List Nat} (hn : biName b = some x) (hg : Gl X x) (ha : PA X (q :: qs) (TL cl w fl ds es)) (hd : ∀ d ∈ ds, d = 1)
    (he : starEach (q :: qs) X.env = (false, eval q X.env) :: starEach qs X.env) (hpl : (backTo pos (starEach qs X.env)).any (·.1) = false) : PE X (.Call (.Name x pp) (q :: qs) [] pos) (TV cl w fl (biLv b) (.bi b es)) := by
  have hk := h.hk
  cases b <;> first
    | (cases hn; done)
    | skip
  · cases hn; exact pe_bi (hk ▸ call_lenA) lenOk hg (blt_of h (by decide +kernel)) boot_len ha hd (by decide) (by decide) he hpl
  · cases hn; exact pe_bt call_int1 intOk hg (blt_of h (by decide +kernel)) PyProof.Rows.boot_int ha hd (by decide) (by decide) he hpl
  · cases hn; exact pe_bt (hk ▸ call_tuple_of) tupleOk hg (blt_of h (by decide +kernel)) PyProof.Rows.boot_tuple ha hd (by decide) (by decide) he hpl
  · cases hn; exact pe_bt (hk ▸ call_list_of) listOk hg (blt_of h (by decide +kernel)) PyProof.Rows.boot_list ha hd (by decide) (by decide) he hpl
  · cases hn; exact pe_bi (hk ▸ (cr_sum h.calm).or (cr_sumT h.calm)) sumOk hg (blt_of h (by decide +kernel)) PyProof.Rows.boot_sum ha hd (by decide) (by decide) he hpl
  · cases hn; exact pe_bi (hk ▸ cr_any h.calm) anyOk hg (blt_of h (by decide +kernel)) PyProof.Rows.boot_any ha hd (by decide) (by decide) he hpl
  · cases hn; exact pe_bi (hk ▸ cr_all h.calm) allOk hg (blt_of h (by decide +kernel)) PyProof.Rows.boot_all ha hd (by decide) (by decide) he hpl
  · cases hn; exact pe_bi (hk ▸ (call_max2 h.calm).or ((cr_max h.calm).or (call_max3Nu h.calm))) maxOk hg (blt_of h (by decide +kernel)) PyProof.Rows.boot_max ha hd (by decide) (by decide) he hpl
  · cases hn; exact pe_bi (hk ▸ (call_min2 h.calm).or (cr_min h.calm)) minOk hg (blt_of h (by decide +kernel)) PyProof.Rows.boot_min ha hd (by decide) (by decide) he hpl
  · cases hn; exact pe_bi (hk ▸ call_sortA) sortedOk hg (blt_of h (by decide +kernel)) PyProof.Rows.boot_sorted ha hd (by decide) (by decide) he hpl
  · cases hn; exact pe_bi call_abs absOk hg (blt_of h (by decide +kernel)) PyProof.Rows.boot_abs ha hd (by decide) (by decide) he hpl
end
end Mi
end MiM_

section MiN_
set_option linter.all false
set_option Elab.async false
/-! MiN: what the checker has seen of an expression holds. -/
namespace Mi
open PySem PySem.Spec PyProof.Rows L2

section
variable {cl : Nat → List W → List W → R W}
/-- what is known of a list of expressions -/
structure Args (X : Cx) (w : Wish) (fl : List Fg) (cl : Nat → List W → List W → R W) (ds : List Nat) (es : List E) (ps : List Expr) : Prop where
  pa : PA X ps (TL cl w fl ds es)
  l1 : ds.length = ps.length
  l2 : es.length = ps.length
  st : ∀ p ∈ ps, notStar p = true
  el : ∀ (i : Nat) (e : E) (p : Expr) (d : Nat), es[i]? = some e → ps[i]? = some p → ds[i]? = some d → PE X p (TR cl w fl d e)
theorem len1 {α : Type} : ∀ {l : List α}, l.length = 1 → ∃ a, l = [a]
  | [a], _ => ⟨a, rfl⟩
  | [], h => by cases h
  | _ :: _ :: _, h => by simp at h
theorem len2 {α : Type} : ∀ {l : List α}, l.length = 2 → ∃ a b, l = [a, b]
  | [a, b], _ => ⟨a, b, rfl⟩
  | [], h => by cases h
  | [_], h => by cases h
  | _ :: _ :: _ :: _, h => by simp at h
/-- one; two -/
theorem Args.one {X : Cx} {w : Wish} {fl : List Fg} {d : Nat} {es : List E} {ps : List Expr} (A : Args X w fl cl [d] es ps) : ∃ e p, es = [e] ∧ ps = [p] ∧ notStar p = true ∧ PE X p (TR cl w fl d e) := by
  obtain ⟨p, rfl⟩ := len1 A.l1.symm
  obtain ⟨e, rfl⟩ := len1 A.l2
  exact ⟨e, p, rfl, rfl, A.st p List.mem_cons_self, A.el 0 e p d rfl rfl rfl⟩
theorem Args.two {X : Cx} {w : Wish} {fl : List Fg} {d d' : Nat} {es : List E} {ps : List Expr} (A : Args X w fl cl [d, d'] es ps) : ∃ e p e' p', es = [e, e'] ∧ ps = [p, p'] ∧ notStar p = true ∧ notStar p' = true ∧ PE X p (TR cl w fl d e) ∧ PE X p' (TR cl w fl d' e') := by
  obtain ⟨p, p', rfl⟩ := len2 A.l1.symm
  obtain ⟨e, e', rfl⟩ := len2 A.l2
  exact ⟨e, p, e', p', rfl, rfl, A.st p List.mem_cons_self, A.st p' (by simp), A.el 0 e p d rfl rfl rfl, A.el 1 e' p' d' rfl rfl rfl⟩
theorem pw_bool {X : Cx} {op : BoolOp} {vs : List Expr} {pos : Pos} {t : TT} (h : PT X (.BoolOp op vs pos) t) : PW X (.BoolOp op vs pos) t := ⟨fun whole pins s σ H Q I q => h.run pins s σ H Q I q⟩
theorem pts_yes {X : Cx} {w : Wish} {fl : List Fg} {t : T} (h : isYes t = true) : PTs X [] (TB cl w fl t) := by
  cases t with
  | yes => exact ⟨fun pins s σ H Q I ⟨C, ρ, M, Fp, mu, sr, q⟩ => pts_nil.run pins s σ H Q I (q H mu (Po.refl sr))⟩
  | _ => cases h
theorem own_names (N : List Str) (own : List Nat) : (own.map fun i => ((N[i]?).getD Str.empty, i)).map (·.2) = own := by
  rw [List.map_map]
  exact List.map_id'' (fun _ => rfl) own
theorem plain_back {X : Cx} {pos : Pos} : ∀ {ps : List Expr}, (∀ p ∈ ps, notStar p = true) → (backTo pos (starEach ps X.env)).any (·.1) = false
  | [], _ => rfl
  | p :: ps, h => by
    rw [star_ok (h p List.mem_cons_self)]
    have ih := plain_back (X := X) (pos := pos) (ps := ps) fun q hq => h q (List.mem_cons_of_mem _ hq)
    show (false || (backTo pos (starEach ps X.env)).any (·.1)) = false
    rw [ih]; rfl
theorem rep_mem {n k d : Nat} (h : d ∈ List.replicate n k) : d = k := (List.mem_replicate.mp h).2
theorem all_back {X : Cx} {pos : Pos} : ∀ {ps : List Expr}, (∀ p ∈ ps, notStar p = true) → (backTo pos (starEach ps X.env)).all (fun x => !x.1) = true
  | [], _ => rfl
  | p :: ps, h => by
    rw [star_ok (h p List.mem_cons_self)]
    have ih := all_back (X := X) (pos := pos) (ps := ps) fun q hq => h q (List.mem_cons_of_mem _ hq)
    show (true && (backTo pos (starEach ps X.env)).all (fun x => !x.1)) = true
    rw [ih]; rfl
theorem few_ok {X : Cx} {cpos : Pos} {ps : List Expr} (h : ∀ p ∈ ps, notStar p = true) (hl : ps.length < 30) :
    ((backTo cpos (starEach ps X.env)).all (fun x => !x.1) && (backToKw cpos (keywordEach [] X.env)).all (fun x => x.1.isSome) && decide ((ps : List Expr).length + ([] : List Keyword).length + (if ([] : List Keyword).isEmpty then 0 else 1) < 30)) = true := by
  rw [all_back h]
  show (true && true && decide (ps.length + 0 + 0 < 30)) = true
  simpa using hl
theorem ty_ok {X : Cx} {c : Ck} {w : Wish} (h : Cok c X cl w) (t : Ty) {pos : Pos} (hg : c.gl (tyName t) = true) : PE X (.Name (tyName t) pos) (tC (.ty t.name)) := by
  have g := gl_of h hg
  cases t
  · exact pe_bltn g (blt_of h (by decide +kernel)) PyProof.Rows.boot_int rfl (by decide +kernel) (by decide +kernel)
  · exact pe_bltn g (blt_of h (by decide +kernel)) PyProof.Rows.boot_str rfl (by decide +kernel) (by decide +kernel)
  · exact pe_bltn g (blt_of h (by decide +kernel)) PyProof.Rows.boot_tuple rfl (by decide +kernel) (by decide +kernel)
  · exact pe_bltn g (blt_of h (by decide +kernel)) PyProof.Rows.boot_list rfl (by decide +kernel) (by decide +kernel)
  · exact pe_bltn g (blt_of h (by decide +kernel)) PyProof.Rows.boot_bool rfl (by decide +kernel) (by decide +kernel)
  · exact pe_bltn g (blt_of h (by decide +kernel)) PyProof.Rows.boot_dict rfl (by decide +kernel) (by decide +kernel)
mutual
theorem ckE_ok : ∀ (e : E) {c : Ck} {fl : List Fg} {p : Expr} {lv : Lv} {X : Cx} {w : Wish}, Cok c X cl w → ckE e c fl p = some lv → PE X p (TV cl w fl lv e)
  | .non, c, fl, p, lv, X, w, h, e => by
    unfold ckE at e
    split at e
    · cases e
      exact pe_cn pe_non (fun _ _ => rfl) (fun _ h => nomatch h) (fun _ h => nomatch h) fun G => by unfold Rep; rfl
    · cases e
  | .bl b, c, fl, p, lv, X, w, h, e => by
    unfold ckE at e
    split at e
    · split at e
      · rename_i eb
        cases e
        subst eb
        exact pe_cn pe_bl (fun _ _ => rfl) (fun _ h => nomatch h) (fun _ h => nomatch h) fun G => by unfold Rep; rfl
      · cases e
    · cases e
  | .int i, c, fl, p, lv, X, w, h, e => by
    unfold ckE at e
    split at e
    · split at e
      · rename_i eb
        cases e
        subst eb
        exact pe_cn pe_int (fun _ _ => rfl) (fun _ h => nomatch h) (fun _ h => nomatch h) fun G => by unfold Rep; rfl
      · cases e
    · cases e
  | .str x, c, fl, p, lv, X, w, h, e => by
    unfold ckE at e
    split at e
    · split at e
      · rename_i eb
        cases e
        obtain ⟨e1, e2, e3⟩ := eb
        subst e1
        exact pe_cn pe_str (fun _ _ => rfl) (fun _ h => nomatch h) (fun _ h => nomatch h) fun G => by unfold Rep; exact ⟨rfl, e2, by rw [sizeLine_eq]; exact e3⟩
      · cases e
    · cases e
  | .var i, c, fl, p, lv, X, w, h, e => by
    unfold ckE at e
    split at e
    · rename_i hv
      obtain ⟨g, e1, e2⟩ := Option.bind_eq_some_iff.mp e
      exact pe_vr (var_of h hv) e1 e2
    · cases e
  | .tup es, c, fl, p, lv, X, w, h, e => by
    unfold ckE at e
    split at e
    · split at e
      · rename_i hc
        cases e
        have A := ckL_ok es h hc.1
        exact pe_tp A.pa (fun d hd => rep_mem hd) (by rw [List.length_replicate]; exact hc.2)
      · cases e
    · cases e
  | .lst es, c, fl, p, lv, X, w, h, e => by
    unfold ckE at e
    split at e
    · split at e
      · rename_i hc
        cases e
        have A := ckL_ok es h hc.1
        exact pe_ls A.pa (fun d hd => rep_mem hd) (by rw [List.length_replicate]; exact hc.2)
      · cases e
    · cases e
  | .dct es, c, fl, p, lv, X, w, h, e => by
    unfold ckE at e
    split at e
    · rename_i keys values pos
      split at e
      · rename_i hc
        cases e
        obtain ⟨k1, k2, k3, k4⟩ := ckD_ok es h (pos := pos) hc.1
        cases keys with
        | nil =>
          cases es with
          | cons _ _ => simp at k4
          | nil =>
            cases values with
            | cons _ _ => simp at k3
            | nil => exact pe_dn
        | cons k ks => exact pe_dsp k1 k2 k3 (by simp) hc.2 k4
      · cases e
    · cases e
  | .bin o a b, c, fl, p, lv, X, w, h, e => by
    unfold ckE at e
    split at e
    · split at e
      · rename_i hc
        cases e
        obtain ⟨h1, h2, h3⟩ := hc
        obtain ⟨r, k1, k2⟩ := bop_ok (X := X) h1
        exact pe_binOk h.hk k1 (h.hk ▸ k2) (rd h2 fun lv e => ckE_ok a h e) (rd h3 fun lv e => ckE_ok b h e)
      · cases e
    · cases e
  | .neg a, c, fl, p, lv, X, w, h, e => by
    unfold ckE at e
    split at e
    · split at e
      · rename_i hc
        cases e
        exact pe_ng (rd hc fun lv e => ckE_ok a h e)
      · cases e
    · cases e
  | .cmp o a b, c, fl, p, lv, X, w, h, e => by
    unfold ckE at e
    split at e
    · split at e
      · rename_i hc
        cases e
        obtain ⟨h1, h2, h3, h4⟩ := hc
        obtain ⟨r, k1, k2⟩ := cop_ok h.u h1
        exact pe_cp k1 (h.hk ▸ k2) (rd h3 fun lv e => ckE_ok a h e) (rd h4 fun lv e => ckE_ok b h e) (behind_ok h2)
      · cases e
    · cases e
  | .cmp2 o o' a b d, c, fl, p, lv, X, w, h, e => by
    unfold ckE at e
    split at e
    · split at e
      · rename_i hc
        cases e
        obtain ⟨h1, h1', h2, h3, h4, h5⟩ := hc
        obtain ⟨r, k1, k2⟩ := cop_ok h.u h1
        obtain ⟨r', k1', k2'⟩ := cop_ok h.u h1'
        exact pe_cp2 k1 k1' (h.hk ▸ k2) (h.hk ▸ k2') (rd h3 fun lv e => ckE_ok a h e) (rd h4 fun lv e => ckE_ok b h e) (rd h5 fun lv e => ckE_ok d h e) (last_ok h2)
      · cases e
    · cases e
  | .not a, c, fl, p, lv, X, w, h, e => by
    unfold ckE at e
    split at e
    · split at e
      · rename_i hc
        cases e
        exact pe_nt h.hk (rd hc fun lv e => ckE_ok a h e)
      · cases e
    · cases e
  | .and a b, c, fl, p, lv, X, w, h, e => by
    unfold ckE at e
    split at e
    · split at e
      · rename_i hc
        cases e
        obtain ⟨lb, e1, e2⟩ := lvD_some hc.2
        exact pe_an h.hk (rd hc.1 fun lv e => ckE_ok a h e) (pe_one (pe_t (ckE_ok b h e1) e2))
      · cases e
    · split at e
      · rename_i hc
        cases e
        obtain ⟨lb, e1, e2⟩ := lvD_some hc.2
        exact pe_an h.hk (rd hc.1 fun lv e => ckE_ok a h e) (pe_t (ckE_ok b h e1) e2)
      · cases e
    · cases e
  | .or a b, c, fl, p, lv, X, w, h, e => by
    unfold ckE at e
    split at e
    · split at e
      · rename_i hc
        cases e
        obtain ⟨lb, e1, e2⟩ := lvD_some hc.2
        exact pe_or' h.hk (rd hc.1 fun lv e => ckE_ok a h e) (pe_one (pe_t (ckE_ok b h e1) e2))
      · cases e
    · split at e
      · rename_i hc
        cases e
        obtain ⟨lb, e1, e2⟩ := lvD_some hc.2
        exact pe_or' h.hk (rd hc.1 fun lv e => ckE_ok a h e) (pe_t (ckE_ok b h e1) e2)
      · cases e
    · cases e
  | .ite t a b, c, fl, p, lv, X, w, h, e => by
    unfold ckE at e
    split at e
    · split at e
      · rename_i hc
        unfold lvMeet at e
        split at e
        · rename_i la lb ea eb
          split at e
          · rename_i hab
            cases e
            subst hab
            exact pe_if (ckT_ok t h hc) (ckE_ok a h ea) (ckE_ok b h eb)
          · split at e
            · rename_i hab
              cases e
              rw [Bool.and_eq_true] at hab
              exact pe_if (ckT_ok t h hc) (pe_t (ckE_ok a h ea) hab.1) (pe_t (ckE_ok b h eb) hab.2)
            · cases e
        · cases e
      · cases e
    · cases e
  | .ix a i, c, fl, p, lv, X, w, h, e => by
    have hu : X.A.units + 1 < cLine := by have := h.u; omega
    unfold ckE at e
    split at e
    · split at e
      · rename_i n ea
        split at e
        · rename_i hc
          cases e
          exact pe_sub h.hk hu (pe_r (ckE_ok a h ea) (decide_eq_true (Nat.le_refl n))) (rd hc.2 fun lv e => ckE_ok i h e) (slice_ok hc.1)
        · cases e
      · rename_i n ea
        split at e
        · rename_i hc
          cases e
          exact pe_sub (d := 0) h.hk hu (pe_r (ckE_ok a h ea) rfl) (rd hc.2 fun lv e => ckE_ok i h e) (slice_ok hc.1)
        · cases e
      · cases e
    · cases e
  | .sl a lo hi, c, fl, p, lv, X, w, h, e => by
    unfold ckE at e
    split at e
    · split at e
      · rename_i hc
        cases e
        exact pe_sli h.hk (rd hc.1 fun lv e => ckE_ok a h e) (ckP_ok lo h hc.2.1) (ckP_ok hi h hc.2.2)
      · cases e
    · cases e
  | .call f es, c, fl, p, lv, X, w, h, e => by
    unfold ckE at e
    split at e
    · split at e
      · rename_i y F ef
        split at e
        · rename_i hc
          cases e
          obtain ⟨h1, h2, h3⟩ := hc
          subst h1
          have A := ckL_ok es h h3
          obtain ⟨k1, k2, fa, fd, prm, k, k3, k4, k5, k6, k7⟩ := h.fns _ _ _ ef
          exact pe_cl h.hk h.tk k3 k4 (gl_of h h2) k5 k6 k7 A.pa k1 (star_ok (A.st _ List.mem_cons_self)) (plain_back fun q hq => A.st q (List.mem_cons_of_mem _ hq)) k2
        · cases e
      · cases e
    · cases e
  | .bi b es, c, fl, p, lv, X, w, h, e => by
    unfold ckE at e
    split at e
    · split at e
      · rename_i hc
        cases e
        obtain ⟨h1, h2, h3⟩ := hc
        have A := ckL_ok es h h3
        exact bi_ok h h1 (gl_of h h2) A.pa (fun d hd => rep_mem hd) (star_ok (A.st _ List.mem_cons_self)) (plain_back fun q hq => A.st q (List.mem_cons_of_mem _ hq))
      · cases e
    · cases e
  | .mt m o es, c, fl, p, lv, X, w, h, e => by
    unfold ckE at e
    split at e
    · rename_i po name apos qs cpos
      split at e
      · rename_i lo eo
        split at e
        · rename_i hc
          obtain ⟨h1, h2, h3, h4⟩ := hc
          subst h1
          have A := ckL_ok es h h4
          have hline : (apos.endLine == cpos.line) = true := by rw [h3]; simp
          have po := ckE_ok o h eo
          cases m with
          | get =>
            cases lo with
            | t n =>
              cases e
              obtain ⟨a, q1, b, q2, e1, e2, s1, s2, u1, u2⟩ := Args.two A
              subst e1 e2
              exact pe_get (d := n) h.hk (by have := h.u; omega) (pe_r po (decide_eq_true (Nat.le_refl n))) u1 u2 (base_ok h2) (few_ok A.st (by simp)) hline (star_ok s1) (star_ok s2) (plain_back fun q hq => A.st q (List.mem_cons_of_mem _ hq))
            | f n =>
              cases e
              obtain ⟨a, q1, b, q2, e1, e2, s1, s2, u1, u2⟩ := Args.two A
              subst e1 e2
              exact pe_get (d := 0) h.hk (by have := h.u; omega) (pe_r po rfl) u1 u2 (base_ok h2) (few_ok A.st (by simp)) hline (star_ok s1) (star_ok s2) (plain_back fun q hq => A.st q (List.mem_cons_of_mem _ hq))
          | index =>
            have A : Args X w fl cl [2] es qs := by cases lo <;> exact A
            obtain ⟨a, q1, e1, e2, s1, u1⟩ := Args.one A
            subst e1 e2
            have e : (if asD lo 1 then some (Lv.f 2) else none) = some lv := e
            split at e
            · rename_i hd
              cases e
              exact pe_ixm h.hk h.u (pe_r po hd) u1 (base_ok h2) (few_ok A.st (by simp)) hline (star_ok s1) rfl
            · cases e
          | join =>
            have A : Args X w fl cl [2] es qs := by cases lo <;> exact A
            obtain ⟨a, q1, e1, e2, s1, u1⟩ := Args.one A
            subst e1 e2
            have e : (if asD lo 2 then some (Lv.f 2) else none) = some lv := e
            split at e
            · rename_i hd
              cases e
              exact pe_jn h.hk (pe_r po hd) u1 (star_ok s1) (base_ok h2) hline
            · cases e
          | split =>
            have A : Args X w fl cl [2] es qs := by cases lo <;> exact A
            obtain ⟨a, q1, e1, e2, s1, u1⟩ := Args.one A
            subst e1 e2
            have e : (if asD lo 2 then some (Lv.f 1) else none) = some lv := e
            split at e
            · rename_i hd
              cases e
              exact pe_spl h.hk (pe_r po hd) u1 (star_ok s1) (base_ok h2) hline
            · cases e
        · cases e
      · cases e
    · cases e
  | .lc elt tg it cond own, c, fl, p, lv, X, w, h, e => by
    unfold ckE at e
    split at e
    · rename_i pelt ptg piter ifs n scope pos
      split at e
      · rename_i hc
        cases e
        obtain ⟨h0, h1, h2, h3, h4, h5, h6, h7⟩ := hc
        subst h0
        have ok := blkOk_by h1
        have hv : ∀ i ∈ tg.vars, i ∈ own := fun i hi => of_decide_eq_true (List.all_eq_true.mp h3 i hi)
        have B := fun (s : Shared) (H : Hp) (C : Addr) (cs : List (Str × Addr)) (fp : List Addr) => h.blk scope ok.kind s H C cs fp
        have ht : ∀ (s : Shared) (H : Hp) (C : Addr) (cs : List (Str × Addr)) (fp : List Addr), PTs (X.blk s H scope (compEnvC scope cs C X.env) fp) ifs (TB cl w.quiet (plE fl own) cond) := fun s H C cs fp => by
          match ifs, h6 with
          | [], h6 => exact pts_yes h6
          | [q], h6 => exact pts_one (ckT_ok cond (B s H C cs fp) h6)
          | _ :: _ :: _, h6 => cases h6
        rw [Bool.or_eq_true] at h4
        rcases h4 with h4 | h4
        · cases it with
          | keys i =>
            unfold ckK at h4
            simp only [Bool.and_eq_true, Bool.or_eq_true, decide_eq_true_eq] at h4
            have k := pe_lcK (X := X) (w := w) (cl := cl) (fl := fl) (elt := pelt) (tg := ptg) (p := piter) (ifs := ifs) (scope := scope) (own := own.map fun i => ((c.N[i]?).getD Str.empty, i)) (pos := pos) (t := tg) (cond := cond) (el := elt) h.calm (by rw [h.N]; exact h.nd) (var_of h h4.1) h4.2 (by rw [h.N, h.sc]; exact ok)
              (fun s H C cs fp => by rw [own_names]; exact (ckG_ok (B s H C cs fp) tg h5).1) (fun s H C cs fp => by rw [own_names]; exact ht s H C cs fp) (fun s H C cs fp => by rw [own_names]; exact rd h7 fun lv e => ckE_ok elt (B s H C cs fp) e) (folded_ok h2) (by rw [own_names]; exact hv)
            rw [own_names] at k
            exact k
          | _ => cases h4
        · have k := pe_lc (X := X) (elt := pelt) (tg := ptg) (iter := piter) (ifs := ifs) (scope := scope) (own := own.map fun i => ((c.N[i]?).getD Str.empty, i)) (pos := pos) h.calm (by rw [h.N]; exact h.nd) (ckI_ok it h h4) (by rw [h.N, h.sc]; exact ok)
            (fun s H C cs fp => (ckG_ok (B s H C cs fp) tg h5).1) ht (fun s H C cs fp => rd h7 fun lv e => ckE_ok elt (B s H C cs fp) e) (folded_ok h2)
          rw [own_names] at k
          exact PE.weak k fun σ H Q ⟨C, ρ, M, Fp, mu, s, q⟩ => tlc_ok hv s q
      · cases e
    · cases e
  | .dc ke ve tg it cond own, c, fl, p, lv, X, w, h, e => by
    unfold ckE at e
    split at e
    · rename_i pk pv ptg piter ifs n scope pos
      split at e
      · rename_i hc
        cases e
        obtain ⟨h0, h1, h2, h3, h4, h5, h6, h7, h8⟩ := hc
        subst h0
        have ok := blkOk_by h1
        have hv : ∀ i ∈ tg.vars, i ∈ own := fun i hi => of_decide_eq_true (List.all_eq_true.mp h3 i hi)
        have B := fun (s : Shared) (H : Hp) (C : Addr) (cs : List (Str × Addr)) (fp : List Addr) => h.blk scope ok.kind s H C cs fp
        have ht : ∀ (s : Shared) (H : Hp) (C : Addr) (cs : List (Str × Addr)) (fp : List Addr), PTs (X.blk s H scope (compEnvC scope cs C X.env) fp) ifs (TB cl w.quiet (plE fl own) cond) := fun s H C cs fp => by
          match ifs, h6 with
          | [], h6 => exact pts_yes h6
          | [q], h6 => exact pts_one (ckT_ok cond (B s H C cs fp) h6)
          | _ :: _ :: _, h6 => cases h6
        have k := pe_dcA (X := X) (kx := pk) (vx := pv) (tg := ptg) (iter := piter) (ifs := ifs) (scope := scope) (own := own.map fun i => ((c.N[i]?).getD Str.empty, i)) (pos := pos) (by have := h.u; omega) h.calm (by rw [h.N]; exact h.nd) (ckI_ok it h h4) (by rw [h.N, h.sc]; exact ok)
          (fun s H C cs fp => (ckG_ok (B s H C cs fp) tg h5).1) ht (fun s H C cs fp => rd h7 fun lv e => ckE_ok ke (B s H C cs fp) e) (fun s H C cs fp => rd h8 fun lv e => ckE_ok ve (B s H C cs fp) e) (folded_ok h2)
        rw [own_names] at k
        exact PE.weak k fun σ H Q ⟨C, ρ, M, Fp, mu, s, q⟩ => tdc_ok hv s q
      · cases e
    · cases e
  | .isi t a, c, fl, p, lv, X, w, h, e => by
    unfold ckE at e
    split at e
    · split at e
      · rename_i hc
        cases e
        obtain ⟨h1, h2, h3, h4, h5, h6⟩ := hc
        subst h1 h4
        exact pe_isi2 h.hk (rd h6 fun lv e => ckE_ok a h e) (ty_ok h t h5) (gl_of h h2) (blt_of h (by decide +kernel)) (star_ok h3) rfl rfl
      · cases e
    · cases e
  | .gint x n, c, fl, p, lv, X, w, h, e => by
    unfold ckE at e
    split at e
    · split at e
      · rename_i hc
        cases e
        obtain ⟨h1, h2, h3⟩ := hc
        subst h1
        obtain ⟨k1, k2⟩ := h.gis _ _ h3
        exact pe_gi (gl_of h h2) k1 k2
      · cases e
    · cases e
  | .rev a, c, fl, p, lv, X, w, h, e => by
    unfold ckE at e
    split at e
    · split at e
      · rename_i hc
        cases e
        exact pe_rv h.hk (rd hc fun lv e => ckE_ok a h e)
      · cases e
    · cases e
  | .dcp a, c, fl, p, lv, X, w, h, e => by
    unfold ckE at e
    split at e
    · split at e
      · rename_i hc
        cases e
        obtain ⟨h1, h2, h3, h4⟩ := hc
        subst h1
        exact pe_dcopy (rd h4 fun lv e => ckE_ok a h e) (gl_of h h2) (blt_of h (by decide +kernel)) (star_ok h3)
      · cases e
    · cases e
  | .gcd a b, c, fl, p, lv, X, w, h, e => by
    unfold ckE at e
    split at e
    · split at e
      · rename_i hc
        cases e
        obtain ⟨h1, h2, h3, h4, h5, h6⟩ := hc
        obtain ⟨k1, k2⟩ := h.gbs _ _ h2
        exact pe_gcd (rd h5 fun lv e => ckE_ok a h e) (rd h6 fun lv e => ckE_ok b h e) (gl_of h h1) k1 k2 (star_ok h3) (star_ok h4)
      · cases e
    · cases e
  | .ixf a b d, c, fl, p, lv, X, w, h, e => by
    unfold ckE at e
    split at e
    · rename_i po name apos q r cpos
      split at e
      · rename_i hc
        cases e
        obtain ⟨h1, h2, h3, h4, h5, h6, h7, h8⟩ := hc
        subst h1
        have hline : (apos.endLine == cpos.line) = true := by rw [h3]; simp
        have st : ∀ x ∈ ([q, r] : List Expr), notStar x = true := fun x hx => by
          rcases List.mem_cons.mp hx with rfl | hx
          · exact h4
          · rw [List.mem_singleton.mp hx]; exact h5
        exact pe_ixf h.hk (rd h6 fun lv e => ckE_ok a h e) (rd h7 fun lv e => ckE_ok b h e) (rd h8 fun lv e => ckE_ok d h e) (base_ok h2) (few_ok st (by simp)) hline (star_ok h4) (star_ok h5) (plain_back fun q hq => st q (List.mem_cons_of_mem _ hq))
      · cases e
    · cases e
  | .ixt _ _, c, fl, p, lv, X, w, h, e => by
    unfold ckE at e
    cases e
  | .lset _, c, fl, p, lv, X, w, h, e => by
    unfold ckE at e
    cases e
  | .ssc _ _ _ _ _, c, fl, p, lv, X, w, h, e => by
    unfold ckE at e
    cases e
  | .keys _, c, fl, p, lv, X, w, h, e => by
    unfold ckE at e
    cases e
  | .vals _, c, fl, p, lv, X, w, h, e => by
    unfold ckE at e
    cases e
  | .items _, c, fl, p, lv, X, w, h, e => by
    unfold ckE at e
    cases e
  | .share a, c, fl, p, lv, X, w, h, e => by
    unfold ckE at e
    split at e
    · rename_i ea
      cases e
      exact pe_sh (ckE_ok a h ea)
    · cases e
theorem ckL_ok : ∀ (es : List E) {c : Ck} {fl : List Fg} {ds : List Nat} {ps : List Expr} {X : Cx} {w : Wish}, Cok c X cl w → ckL es c fl ds ps = true → Args X w fl cl ds es ps
  | [], c, fl, ds, ps, X, w, h, e => by
    unfold ckL at e
    cases ds with
    | cons _ _ => cases e
    | nil => cases ps with
      | cons _ _ => cases e
      | nil => exact ⟨pa_e rfl, rfl, rfl, (fun _ h => nomatch h), fun i e p d h => by simp at h⟩
  | a :: es, c, fl, ds, ps, X, w, h, e => by
    unfold ckL at e
    cases ds with
    | nil => cases e
    | cons d ds => cases ps with
      | nil => cases e
      | cons p ps =>
        simp only [Bool.and_eq_true] at e
        obtain ⟨⟨e1, e2⟩, e3⟩ := e
        have A := ckL_ok es h e3
        have pa := rd e2 fun lv e => ckE_ok a h e
        refine ⟨pa_c pa A.pa (star_ok e1), by simp [A.l1], by simp [A.l2], fun q hq => ?_, fun i e p' d' x1 x2 x3 => ?_⟩
        · rcases List.mem_cons.mp hq with z | z
          · rw [z]; exact e1
          · exact A.st q z
        · cases i with
          | zero => cases x1; cases x2; cases x3; exact pa
          | succ i => exact A.el i e p' d' (by simpa using x1) (by simpa using x2) (by simpa using x3)
theorem ckD_ok : ∀ (es : List E) {c : Ck} {fl : List Fg} {ks : List (Option Expr)} {vs : List Expr} {X : Cx} {w : Wish} {pos : Pos}, Cok c X cl w → ckD es c fl ks vs = true → PPs X pos ks vs (prs cl w fl es) ∧ ks.all (·.isSome) = true ∧ ks.length = vs.length ∧ es.length = 2 * ks.length
  | [], c, fl, ks, vs, X, w, pos, h, e => by
    unfold ckD at e
    cases ks with
    | cons _ _ => cases e
    | nil => cases vs with
      | cons _ _ => cases e
      | nil => exact ⟨pps_nil, rfl, rfl, rfl⟩
  | a :: es, c, fl, ks, vs, X, w, pos, h, e => by
    unfold ckD at e
    cases ks with
    | nil => cases e
    | cons k ks => cases k with
      | none => cases e
      | some k => cases vs with
        | nil => cases e
        | cons v vs =>
          simp only [Bool.and_eq_true] at e
          have K := rd e.1 fun lv e => ckE_ok a h e
          obtain ⟨b, es', e1, k1, k2, k3, k4, k5⟩ := ckD2_ok es h (pos := pos) e.2
          subst e1
          exact ⟨pps_cons K k1 k2, by simpa using k3, by simp [k4], by simp only [List.length_cons]; omega⟩
theorem ckD2_ok : ∀ (es : List E) {c : Ck} {fl : List Fg} {v : Expr} {ks : List (Option Expr)} {vs : List Expr} {X : Cx} {w : Wish} {pos : Pos}, Cok c X cl w → ckD2 es c fl v ks vs = true → ∃ b es', es = b :: es' ∧ PE X v (TR cl w fl 0 b) ∧ PPs X pos ks vs (prs cl w fl es') ∧ ks.all (·.isSome) = true ∧ ks.length = vs.length ∧ es'.length = 2 * ks.length
  | [], c, fl, v, ks, vs, X, w, pos, h, e => by
    unfold ckD2 at e
    cases e
  | b :: es, c, fl, v, ks, vs, X, w, pos, h, e => by
    unfold ckD2 at e
    rw [Bool.and_eq_true] at e
    obtain ⟨k1, k2, k3, k4⟩ := ckD_ok es h (pos := pos) e.2
    exact ⟨b, es, rfl, rd e.1 fun lv e => ckE_ok b h e, k1, k2, k3, k4⟩
theorem ckT_ok : ∀ (t : T) {c : Ck} {fl : List Fg} {p : Expr} {X : Cx} {w : Wish}, Cok c X cl w → ckT t c fl p = true → PT X p (TB cl w fl t)
  | .yes, c, fl, p, X, w, h, e => by
    unfold ckT at e
    cases e
  | .v a, c, fl, p, X, w, h, e => by
    unfold ckT at e
    rw [Bool.and_eq_true] at e
    exact pt_tr h.hk (rd e.2 fun lv e => ckE_ok a h e) (test_ok e.1)
  | .not t, c, fl, p, X, w, h, e => by
    unfold ckT at e
    split at e
    · exact pt_nt (ckT_ok t h e)
    · cases e
  | .and a b, c, fl, p, X, w, h, e => by
    unfold ckT at e
    split at e
    · rw [Bool.and_eq_true] at e
      exact (pw_an (ckT_ok a h e.1) (pw_and1 (ckT_ok b h e.2))).pt
    · rw [Bool.and_eq_true] at e
      exact (pw_an (ckT_ok a h e.1) (pw_bool (ckT_ok b h e.2))).pt
    · cases e
  | .or a b, c, fl, p, X, w, h, e => by
    unfold ckT at e
    split at e
    · rw [Bool.and_eq_true] at e
      exact (pw_or' (ckT_ok a h e.1) (pw_or1 (ckT_ok b h e.2))).pt
    · rw [Bool.and_eq_true] at e
      exact (pw_or' (ckT_ok a h e.1) (pw_bool (ckT_ok b h e.2))).pt
    · cases e
  | .cmp o a b, c, fl, p, X, w, h, e => by
    unfold ckT at e
    split at e
    · simp only [Bool.and_eq_true, decide_eq_true_eq] at e
      obtain ⟨⟨⟨h1, h2⟩, h3⟩, h4⟩ := e
      obtain ⟨r, k1, k2⟩ := cop_ok h.u h1
      exact pt_cp k1 (h.hk ▸ k2) (rd h3 fun lv e => ckE_ok a h e) (rd h4 fun lv e => ckE_ok b h e) (behind_ok h2)
    · cases e
  | .cmp2 o o' a b d, c, fl, p, X, w, h, e => by
    unfold ckT at e
    split at e
    · simp only [Bool.and_eq_true, decide_eq_true_eq] at e
      obtain ⟨⟨⟨⟨⟨h1, h1'⟩, h2⟩, h3⟩, h4⟩, h5⟩ := e
      obtain ⟨r, k1, k2⟩ := cop_ok h.u h1
      obtain ⟨r', k1', k2'⟩ := cop_ok h.u h1'
      exact pt_cp2 k1 k1' (h.hk ▸ k2) (h.hk ▸ k2') (rd h3 fun lv e => ckE_ok a h e) (rd h4 fun lv e => ckE_ok b h e) (rd h5 fun lv e => ckE_ok d h e) (last_ok h2)
    · cases e
theorem ckI_ok : ∀ (it : I) {c : Ck} {fl : List Fg} {b : Bool} {tg p : Expr} {X : Cx} {w : Wish}, Cok c X cl w → ckI it c fl b tg p = true → PI X tg p (TIt b cl w fl it)
  | .v a, c, fl, b, tg, p, X, w, h, e => by
    unfold ckI at e
    rw [Bool.or_eq_true] at e
    refine pi_v h.hk ?_
    rcases e with e | e
    · cases b with
      | true => exact pk_0 (rd e fun lv e => ckE_ok a h e)
      | false => exact pk_f (rd e fun lv e => ckE_ok a h e)
    · split at e
      · rw [Bool.and_eq_true] at e
        exact pk_b (var_of h e.1) (of_decide_eq_true e.2)
      · cases e
  | .range es, c, fl, b, tg, p, X, w, h, e => by
    unfold ckI at e
    split at e
    · simp only [Bool.and_eq_true, Bool.or_eq_true, decide_eq_true_eq, beq_iff_eq] at e
      obtain ⟨⟨⟨h1, h2⟩, h3⟩, h4⟩ := e
      subst h1
      have A := ckL_ok es h h4
      have hm : X.mg ("range" : Str) = none := h.blt _ (by decide +kernel)
      rcases h3 with h3 | h3
      · rw [h3] at A
        obtain ⟨a, q1, e1, e2, s1, u1⟩ := Args.one (show Args X w fl cl [2] es _ from A)
        subst e1 e2
        exact pi_rng1 (gl_of h h2) hm A.pa (star_ok s1)
      · rw [h3] at A
        obtain ⟨a, q1, b', q2, e1, e2, s1, s2, u1, u2⟩ := Args.two (show Args X w fl cl [2, 2] es _ from A)
        subst e1 e2
        exact pi_rng2 (gl_of h h2) hm A.pa ((star_ok s1).trans (congrArg _ (star_ok s2))) (star_ok s2)
    · cases e
  | .keys i, c, fl, b, tg, p, X, w, h, e => by
    unfold ckI at e
    cases e
  | .vals i, c, fl, b, tg, p, X, w, h, e => by
    unfold ckI at e
    cases e
  | .enum a, c, fl, b, tg, p, X, w, h, e => by
    unfold ckI at e
    split at e
    · simp only [Bool.and_eq_true, Bool.or_eq_true, decide_eq_true_eq] at e
      obtain ⟨⟨⟨h1, h2⟩, h3⟩, h4⟩ := e
      subst h1
      refine pi_en h.hk (gl_of h h2) (h.blt _ (by decide +kernel)) ?_ (star_ok h3)
      rcases h4 with e | e
      · cases b with
        | true => exact pk_0 (rd e fun lv e => ckE_ok a h e)
        | false => exact pk_f (rd e fun lv e => ckE_ok a h e)
      · split at e
        · simp only [Bool.and_eq_true, decide_eq_true_eq] at e
          exact pk_b (var_of h e.1) e.2
        · cases e
    · cases e
theorem ckP_ok : ∀ (q : P) {c : Ck} {fl : List Fg} {p : Option Expr} {X : Cx} {w : Wish}, Cok c X cl w → ckP q c fl p = true → PO X p (TP' cl w fl q)
  | .no, c, fl, p, X, w, h, e => by
    unfold ckP at e
    cases p with
    | none => exact po_n
    | some _ => cases e
  | .v a, c, fl, p, X, w, h, e => by
    unfold ckP at e
    cases p with
    | none => cases e
    | some p => exact po_v (rd e fun lv e => ckE_ok a h e)
end
end
end Mi
end MiN_

section MiO_
set_option linter.all false
set_option Elab.async false
/-! MiO: the checker of statements. -/
namespace Mi
open PySem PySem.Spec PyProof.Rows L2

/-- how a statement ends -/
inductive Rz | bad | never | ok (fl : List Fg)
def joinG : Fg → Fg → Fg
  | g, h => if g = h then g else if Fg.le g h then h else if Fg.le h g then g else .dd
def joinL (a b : List Fg) : List Fg := List.zipWith joinG a b
def Rz.join : Rz → Rz → Rz
  | .never, .never => .never
  | .never, .ok f => .ok f
  | .ok f, .never => .ok f
  | .ok f, .ok g => if leL f (joinL f g) && leL g (joinL f g) then .ok (joinL f g) else .bad
  | _, _ => .bad
/-- an end within the flags f -/
def Rz.within : Rz → List Fg → Bool
  | .never, _ => true
  | .ok f, g => leL f g
  | .bad, _ => false
def notBo : Option Fg → Bool
  | some (.bo _) => false
  | _ => true
def isLc : E → Bool
  | .lc _ _ (.keys _) _ _ => false
  | .lc _ _ _ _ _ => true
  | _ => false
def isFor : S → Bool
  | .forr .. => true
  | _ => false
def notComp2 : Expr → Bool
  | .SetComp .. => false
  | .DictComp .. => false
  | _ => true
/-- name = [..]: the store is made within the comprehension -/
def lcSw (c : Ck) (x : Str) (px : Pos) : Expr → Bool
  | .ListComp _ _ scope pos => decide (c.sc.names.lookup x = some .local) && (px.line == pos.line) && !(scope.names.any fun (n, k) => n == x && (k == .local || k == .cell))
  | _ => false
def retOk (ret : Lv) (o : Option Lv) : Bool := match o with
  | some lv => decide (lv = ret) || (match ret with
    | .t n => asD lv n
    | .f _ => false)
  | none => false
/-- a target that no tuple is swapped into -/
def notTup : Expr → Bool
  | .Tuple .. => false
  | .List .. => false
  | _ => true
def isTup : Expr → Bool
  | .Tuple .. => true
  | _ => false
def mth (c : Ck) (fl : List Fg) (name : Str) (i : Nat) (d : Nat) (e : E) : Expr → Bool
  | .Call (.Attribute p n apos) [q] [] cpos => decide (n = name) && ckVar c i p && notCall0 p && decide (fl[i]? = some (Fg.ow 1)) && decide (apos.endLine = cpos.line) && notStar q && lvD (ckE e c fl q) d
  | _ => false
def ckDistinct : List Nat → Bool
  | [] => true
  | i :: r => !decide (i ∈ r) && ckDistinct r
/-- a, b = x, y: that the model stores them one after the other -/
def ckPar (c : Ck) (is : List Nat) (ts vs : List Expr) (line : Nat) : Bool := match is, ts with
  | [i, j], [.Name x px, .Name y py] => decide (c.N[i]? = some x) && decide (c.N[j]? = some y) && decide (i ≠ j) && decide (x ≠ y) && decide (c.sc.names.lookup x = some .local) && decide (c.sc.names.lookup y = some .local) && (px.line == py.line) && decide (vs.length = 2) && vs.all notStar && !(vs.all (foldedForSure 8)) && !(vs.all (constantsAlone 8))
  | [i, j, l], [.Name x px, .Name y py, .Name z pz] => decide (c.N[i]? = some x) && decide (c.N[j]? = some y) && decide (c.N[l]? = some z) && decide (i ≠ j) && decide (i ≠ l) && decide (j ≠ l) && decide (x ≠ y) && decide (x ≠ z) && decide (y ≠ z) && decide (c.sc.names.lookup x = some .local) && decide (c.sc.names.lookup y = some .local) && decide (c.sc.names.lookup z = some .local) && (px.line == py.line) && (px.line == pz.line) && decide (vs.length = 3) && vs.all notStar && !(vs.all (foldedForSure 8)) && !(vs.all (constantsAlone 8))
  | _, _ => false
/-- an except clause without a name -/
def ckHd (c : Ck) (h : Nat × Option Hx) : ExceptHandler → Bool
  | .ExceptHandler (some (.Name x _)) none [st] _ => decide (x = exName h.1) && c.gl x && decide (h.1 ∈ c.ex) && decide (h.1 ≠ 0) && (match h.2, st with
    | none, .Pass _ => true
    | some g, .Return (some p) _ => ckHx c.gl (ckVar c) c.ex none h.1 g p && (g.val h.1).ok
    | _, _ => false)
  | _ => false
def ckHds (c : Ck) : List (Nat × Option Hx) → List ExceptHandler → Bool
  | [], [] => true
  | h :: hs, e :: es => ckHd c h e && ckHds c hs es
  | _, _ => false
/-- one with a name -/
def ckHa (c : Ck) (fl : List Fg) (hs : List (Nat × Option Hx)) : List ExceptHandler → Bool
  | [.ExceptHandler (some (.Name x _)) (some n) [.Return (some p) _] _] => match hs with
    | [(k, some g)] => match c.N.idxOf? n with
      | some i => decide (c.N[i]? = some n) && decide (c.sc.names.lookup n = some .local) && decide (i < fl.length) && decide (x = exName k) && c.gl x && decide (k ∈ c.ex) && decide (k ≠ 0) && ckHx c.gl (ckVar c) c.ex (some i) k g p && (g.val k).ok
      | none => false
    | _ => false
  | _ => false
def isEmp : E → Bool
  | .dct [] => true
  | .lst [] => true
  | _ => false
def isDc : E → Bool
  | .dc .. => true
  | _ => false
/-- name = {..}: so stored too -/
def dcSw (c : Ck) (x : Str) (px : Pos) : Expr → Bool
  | .DictComp _ _ _ scope pos => decide (c.sc.names.lookup x = some .local) && (px.line == pos.line) && !(scope.names.any fun (n, k) => n == x && (k == .local || k == .cell))
  | _ => false
/-- .. the store is made behind it -/
def dcOff (c : Ck) (x : Str) (px : Pos) : Expr → Bool
  | .DictComp k v gs scope pos => !dcSw c x px (.DictComp k v gs scope pos)
  | _ => false
/-- a tuple of targets, one of them captured -/
def offTup (c : Ck) : Expr → Bool
  | .Tuple ts _ _ => ts.any fun t => match t with
    | .Name x _ => !decide (c.sc.names.lookup x = some .local)
    | _ => true
  | _ => false
def pipOf : Operator → Option Bop
  | .Add => some .add | .Sub => some .sub | .Mult => some .mul
  | _ => none
mutual
def ckS : S → Ck → Lv → List Fg → List Fg → List Fg → Stmt → Rz
  | .set i g e, c, _, fl, _, _, st => match st with
    | .Assign [.Name x px] pv _ =>
      if c.N[i]? = some x ∧ c.loc x ∧ notBo fl[i]? ∧ ((notComp2 pv ∧ (lcSw c x px pv = true → isLc e = true)) ∨ (isDc e = true ∧ (dcSw c x px pv = true ∨ dcOff c x px pv = true))) then
        (match g with
        | .pl => if lvD (ckE e c fl pv) 0 then .ok (fl.set i .pl) else .bad
        | .ow d => if ckE e c fl pv = some (.f d) ∨ (ckE e c fl pv = some (.f 1) ∧ d = 2 ∧ isEmp e) then .ok (fl.set i (.ow d)) else .bad
        | _ => .bad) else .bad
    | _ => .bad
  | .setT t e, c, _, fl, _, _, st => match st with
    | .Assign [tg] pv _ => if notStar tg ∧ ((notTup tg || !isTup pv) || offTup c tg) ∧ notComp pv ∧ ckG c fl t tg ∧ (t.vars.all fun i => decide (fl[i]? = some Fg.pl)) ∧ lvD (ckE e c fl pv) 0 then .ok fl else .bad
    | _ => .bad
  | .stx i k v, c, _, fl, _, _, st => match st with
    | .Assign [.Subscript p pk _] pv _ => if notComp pv ∧ notSlice pk ∧ ckVar c i p ∧ fl[i]? = some (Fg.ow 1) ∧ lvD (ckE k c fl pk) 2 ∧ lvD (ckE v c fl pv) 0 then .ok fl else .bad
    | _ => .bad
  | .stc o k v, c, _, fl, _, _, st => match st with
    | .Assign [.Subscript p pk _] pv _ => if notComp pv ∧ notSlice pk ∧ lvD (ckE o c fl p) 2 ∧ lvD (ckE k c fl pk) 2 ∧ lvD (ckE v c fl pv) 0 then .ok fl else .bad
    | _ => .bad
  | .aug i o e, c, _, fl, _, _, st => match st with
    | .AugAssign (.Name x _) op pv _ => if c.N[i]? = some x ∧ c.loc x ∧ fl[i]? = some Fg.pl ∧ pipOf op = some o ∧ lvD (ckE e c fl pv) 2 then .ok fl else .bad
    | _ => .bad
  | .augx i o k e, c, _, fl, _, _, st => match st with
    | .AugAssign (.Subscript p pk _) op pv _ => if notSlice pk ∧ ckVar c i p ∧ fl[i]? = some (Fg.ow 1) ∧ pipOf op = some o ∧ lvD (ckE k c fl pk) 2 ∧ lvD (ckE e c fl pv) 2 then .ok fl else .bad
    | _ => .bad
  | .never, _, _, _, _, _, _ => .never
  | .wipe _, _, _, _, _, _, _ => .bad
  | .raise k, c, _, _, _, _, st => match st with
    | .Raise (some (.Call (.Name x _) [.Constant (.str _) _ _] [] _)) none _ => if x = exName k ∧ k ∈ c.ex ∧ c.gl x then .never else .bad
    | _ => .bad
  | .par is es, c, _, fl, _, _, st => match st with
    | .Assign [.Tuple ts _ _] (.Tuple vs _ _) pos => if ckPar c is ts vs pos.line ∧ (is.all fun i => notBo fl[i]?) ∧ ckL es c fl (List.replicate es.length 0) vs then .ok (is.foldl (fun f i => f.set i .pl) fl) else .bad
    | _ => .bad
  | .swp i k1 k2 v1 v2, c, _, fl, _, _, st => match st with
    | .Assign [.Tuple [.Subscript p1 pk1 _, .Subscript p2 pk2 _] _ _] (.Tuple vs vk vp) _ =>
      if notSlice pk1 ∧ notSlice pk2 ∧ ckVar c i p1 ∧ ckVar c i p2 ∧ fl[i]? = some (Fg.ow 1) ∧ lvD (ckE k1 c fl pk1) 2 ∧ lvD (ckE k2 c fl pk2) 2 ∧ lvD (ckE (.tup [v1, v2]) c fl (.Tuple vs vk vp)) 0 then .ok fl else .bad
    | _ => .bad
  | .rem i e, c, _, fl, _, _, st => match st with
    | .Expr p _ => if mth c fl "remove" i 2 e p then .ok fl else .bad
    | _ => .bad
  | .sda i k v, c, _, fl, _, _, st => match st with
    | .Expr (.Call (.Attribute (.Call (.Attribute p n1 apos1) [pk, .List [] _] [] cpos1) n2 apos2) [pv] [] cpos2) _ =>
      if n1 = ("setdefault" : Str) ∧ n2 = ("append" : Str) ∧ ckVar c i p ∧ notCall0 p ∧ fl[i]? = some (Fg.ow 2) ∧ apos1.endLine = cpos1.line ∧ apos2.endLine = cpos2.line ∧ notStar pk ∧ notStar pv ∧ lvD (ckE k c fl pk) 2 ∧ lvD (ckE v c fl pv) 0 then .ok fl else .bad
    | _ => .bad
  | .apop i j e, c, _, fl, _, _, st => match st with
    | .Expr (.Call (.Attribute p n1 apos) [.Call (.Attribute q n2 apos2) [pe] [] cpos2] [] cpos) _ =>
      if n1 = ("append" : Str) ∧ n2 = ("pop" : Str) ∧ ckVar c i p ∧ ckVar c j q ∧ notCall0 p ∧ notCall0 q ∧ fl[i]? = some (Fg.ow 1) ∧ fl[j]? = some (Fg.ow 1) ∧ apos.endLine = cpos.line ∧ apos2.endLine = cpos2.line ∧ notStar pe ∧ lvD (ckE e c fl pe) 2 then .ok fl else .bad
    | _ => .bad
  | .popv i j e, c, _, fl, _, _, st => match st with
    | .Assign [.Name x _] (.Call (.Attribute q n2 apos2) [pe] [] cpos2) _ =>
      if c.N[i]? = some x ∧ c.loc x ∧ notBo fl[i]? ∧ n2 = ("pop" : Str) ∧ ckVar c j q ∧ notCall0 q ∧ fl[j]? = some (Fg.ow 1) ∧ apos2.endLine = cpos2.line ∧ notStar pe ∧ lvD (ckE e c fl pe) 2 then .ok (fl.set i .pl) else .bad
    | _ => .bad
  | .tri s bs hs, c, ret, fl, fb, fc, st => match st with
    | .Try (st0 :: sts) hds [] [] _ => if c.top ∧ ((ckHds c hs hds ∧ hs.isEmpty = false) ∨ ckHa c fl hs hds) then (match s with
      | .expr e => match st0 with
        | .Expr p _ => if notComp p ∧ (ckE e c fl p).isSome ∧ (ckSs bs c ret fl fb fc sts).within fl then .ok fl else .bad
        | _ => .bad
      | .ret e => match st0, sts, bs with
        | .Return (some p) _, [], [] => if retOk ret (ckE e c fl p) then .ok fl else .bad
        | _, _, _ => .bad
      | _ => .bad) else .bad
    | _ => .bad
  | .app i e, c, _, fl, _, _, st => match st with
    | .Expr p _ => if mth c fl "append" i 0 e p then .ok fl else .bad
    | _ => .bad
  | .ext i e, c, _, fl, _, _, st => match st with
    | .Expr p _ => if mth c fl "extend" i 1 e p then .ok fl else .bad
    | _ => .bad
  | .pop i e, c, _, fl, _, _, st => match st with
    | .Expr p _ => if mth c fl "pop" i 2 e p then .ok fl else .bad
    | _ => .bad
  | .expr e, c, _, fl, _, _, st => match st with
    | .Expr p _ => if notComp p ∧ (ckE e c fl p).isSome then .ok fl else .bad
    | _ => .bad
  | .ret e, c, ret, fl, _, _, st => match st with
    | .Return (some p) _ => if retOk ret (ckE e c fl p) then .never else .bad
    | .Return none _ => match e with
      | .non => .never
      | _ => .bad
    | _ => .bad
  | .retv i, c, ret, fl, _, _, st => match st with
    | .Return (some p) _ => match ret with
      | .f n => if ckVar c i p ∧ fl[i]? = some (Fg.ow n) then .never else .bad
      | _ => .bad
    | _ => .bad
  | .ifs t a b, c, ret, fl, fb, fc, st => match st with
    | .If p sa sb _ => if ckT t c fl p then (ckSs a c ret fl fb fc sa).join (ckSs b c ret fl fb fc sb) else .bad
    | _ => .bad
  | .whil t b inv, c, ret, fl, _, _, st => match st with
    | .While p body [] _ => if leL fl inv ∧ ckT t c inv p ∧ (ckSs b c ret inv inv inv body).within inv then .ok inv else .bad
    | _ => .bad
  | .forr t it b inv, c, ret, fl, _, _, st => match st with
    | .For tg iter body [] _ => if leL fl inv ∧ notSet iter ∧ ckI it c fl true tg iter ∧ ckG c inv t tg ∧ (t.vars.all fun i => decide (inv[i]? = some Fg.pl)) ∧ (ckSs b c ret inv inv inv body).within inv then .ok inv else .bad
    | _ => .bad
  | .brk, _, _, fl, fb, _, st => match st with
    | .Break _ => if leL fl fb then .never else .bad
    | _ => .bad
  | .cont, _, _, fl, _, fc, st => match st with
    | .Continue _ => if leL fl fc then .never else .bad
    | _ => .bad
  | .pass, _, _, fl, _, _, st => match st with
    | .Pass _ => .ok fl
    | _ => .bad
  | .fz _, _, _, _, _, _, _ => .bad
  | .lk i s, c, ret, fl, fb, fc, st => if isFor s then (match fl[i]? with
    | some (.ow d) => match ckS s c ret (fl.set i (.bo d)) fb fc st with
      | .ok f => .ok (f.set i (.ow d))
      | _ => .bad
    | _ => .bad) else .bad
termination_by structural s => s
def ckSs : List S → Ck → Lv → List Fg → List Fg → List Fg → List Stmt → Rz
  | [], _, _, fl, _, _, sts => match sts with
    | [] => .ok fl
    | _ => .bad
  | s :: ss, c, ret, fl, fb, fc, sts => match s with
    | .fz i => if leL fl (fl.set i .pl) then ckSs ss c ret (fl.set i .pl) fb fc sts else .bad
    | .wipe is => if (is.all fun i => decide (fl[i]? = some Fg.pl)) then ckSs ss c ret fl fb fc sts else .bad
    | s => match sts with
      | [] => .bad
      | st :: sts => match ckS s c ret fl fb fc st with
        | .ok f => ckSs ss c ret f fb fc sts
        | .never => match ss, sts with
          | [], [] => .never
          | _, _ => .bad
        | .bad => .bad
termination_by structural s => s
end
end Mi
end MiO_

section MiP_
set_option linter.all false
set_option Elab.async false
/-! MiP: what the checker has seen of statements holds. -/
namespace Mi
open PySem PySem.Spec PyProof.Rows L2

def Good (r : Rz) (P : List Fg → Prop) : Prop := match r with
  | .ok f => P f
  | .never => ∀ f, P f
  | .bad => True
section
variable {cl : Nat → List W → List W → R W}
theorem notBo_of {o : Option Fg} (h : notBo o = true) : ∀ d, o ≠ some (.bo d) := fun d e => by
  rw [e] at h
  cases h
theorem sw_false {c : Ck} {X : Cx} {w : Wish} (h : Cok c X cl w) {x : Str} {px : Pos} {pv : Expr} {l : Nat} (h2 : notComp2 pv = true) (hl : lcSw c x px pv = false) : swapsWith pv (some (.Name x px)) l X.env = pure false := by
  cases pv with
  | ListComp elt gs scope pos =>
    have hl : (decide (c.sc.names.lookup x = some .local) && (px.line == pos.line) && !(scope.names.any fun (n, k) => n == x && (k == .local || k == .cell))) = false := hl
    have ek : (X.env.kindOf x == some .local) = decide (c.sc.names.lookup x = some .local) := by
      show (X.env.scope.names.lookup x == some .local) = _
      rw [h.sc]
      by_cases z : c.sc.names.lookup x = some .local
      · rw [z]; rfl
      · rw [decide_eq_false z]
        simpa using z
    show (pure (X.env.blockKind == .function && X.env.kindOf x == some .local && px.line == pos.line && !(scope.names.any fun (n, k) => n == x && (k == .local || k == .cell))) : Sem Bool) = pure false
    rw [ek]
    congr 1
    rw [Bool.and_assoc, Bool.and_assoc]
    rw [Bool.and_assoc] at hl
    rw [hl, Bool.and_false]
  | SetComp => cases h2
  | DictComp => cases h2
  | _ => rfl
theorem sw_falseD {c : Ck} {X : Cx} {w : Wish} (h : Cok c X cl w) {x : Str} {px : Pos} {pv : Expr} {l : Nat} (hl : dcOff c x px pv = true) : swapsWith pv (some (.Name x px)) l X.env = pure false := by
  cases pv with
  | DictComp k v gs scope pos =>
    have hl : (!(decide (c.sc.names.lookup x = some .local) && (px.line == pos.line) && !(scope.names.any fun (n, k) => n == x && (k == .local || k == .cell)))) = true := hl
    rw [Bool.not_eq_true'] at hl
    have ek : (X.env.kindOf x == some .local) = decide (c.sc.names.lookup x = some .local) := by
      show (X.env.scope.names.lookup x == some .local) = _
      rw [h.sc]
      by_cases z : c.sc.names.lookup x = some .local
      · rw [z]; rfl
      · rw [decide_eq_false z]
        simpa using z
    show (pure (X.env.blockKind == .function && X.env.kindOf x == some .local && px.line == pos.line && !(scope.names.any fun (n, k) => n == x && (k == .local || k == .cell))) : Sem Bool) = pure false
    rw [ek]
    congr 1
    rw [Bool.and_assoc, Bool.and_assoc]
    rw [Bool.and_assoc] at hl
    rw [hl, Bool.and_false]
  | _ => cases hl
theorem nostore_off {c : Ck} {X : Cx} {w : Wish} (h : Cok c X cl w) {t pv : Expr} (ho : offTup c t = true) : swappedStores [t] pv X.env = pure none := by
  cases t with
  | Tuple ts k pos =>
    cases pv with
    | Tuple vs k2 pos2 =>
      unfold swappedStores
      simp only
      split
      · rfl
      · split
        · rfl
        · have hn : ∀ line : Nat, (ts.filterMap fun t => match t with
              | .Name id pos => if X.env.kindOf id == some .local && pos.line == line then some id else none
              | _ => none).length < ts.length := fun line => by
            have ho : (ts.any fun t => match t with
              | .Name x _ => !decide (c.sc.names.lookup x = some .local)
              | _ => true) = true := ho
            obtain ⟨a, ha, hb⟩ := List.any_eq_true.mp ho
            have gen : ∀ (l : List Expr), a ∈ l → (l.filterMap fun t => match t with
              | .Name id pos => if X.env.kindOf id == some .local && pos.line == line then some id else none
              | _ => none).length < l.length := by
              intro l
              induction l with
              | nil => intro h; cases h
              | cons b l ih =>
                intro hm
                rw [List.filterMap_cons]
                have hle := List.length_filterMap_le (fun t : Expr => match t with
                  | .Name id pos => if X.env.kindOf id == some .local && pos.line == line then some id else none
                  | _ => none) l
                rcases List.mem_cons.mp hm with rfl | hm
                · have : (match a with
                    | .Name id pos => if X.env.kindOf id == some .local && pos.line == line then some id else none
                    | _ => (none : Option Str)) = none := by
                    cases a with
                    | Name id pos =>
                      have hb : (!decide (c.sc.names.lookup id = some .local)) = true := hb
                      have ek : (X.env.kindOf id == some .local) = false := by
                        show (X.env.scope.names.lookup id == some .local) = _
                        rw [h.sc]
                        simpa using hb
                      show (if (X.env.kindOf id == some .local && pos.line == line) = true then some id else none) = none
                      rw [ek]; rfl
                    | _ => rfl
                  rw [this]
                  simp only [List.length_cons]; omega
                · have := ih hm
                  split
                  · simp only [List.length_cons]; omega
                  · simp only [List.length_cons]; omega
            exact gen ts ha
          rw [if_pos]
          simp only [Bool.or_eq_true, bne_iff_ne, ne_eq]
          exact .inl fun z => absurd z (Nat.ne_of_lt (hn _))
    | _ => rfl
  | _ => cases ho
theorem loc_local {c : Ck} {X : Cx} {w : Wish} (h : Cok c X cl w) {x : Str} (hl : c.sc.names.lookup x = some .local) : X.env.scope.names.lookup x = some .local := by rw [h.sc]; exact hl
/-- the store of a checked value in a name -/
theorem asg_ok {c : Ck} {X : Cx} {w : Wish} {fl : List Fg} (h : Cok c X cl w) {i : Nat} {x : Str} {px pos : Pos} {pv : Expr} {e : E} {lv : Lv} (hi : c.N[i]? = some x) (hx : c.loc x = true) (h2 : notComp2 pv = true) (hsw : lcSw c x px pv = true → isLc e = true) (he : ckE e c fl pv = some lv) :
    ∃ te, PS X (.Assign [.Name x px] pv pos) (tAsg te (gName i)) ∧ ∀ σ H Q, TV cl w fl lv e σ H Q → te σ H Q := by
  obtain ⟨k1, k2⟩ := loc_of h hx
  cases hs : lcSw c x px pv with
  | false =>
    exact ⟨_, ps_set (by rw [h.N]; exact h.nd) (by rw [h.N]; exact hi) k1 (ckE_ok e h he) (sw_false h h2 hs) k2, fun _ _ _ q => q⟩
  | true =>
    have hl := hsw hs
    cases e with
    | lc elt tg it cond own =>
      unfold ckE at he
      split at he
      · rename_i pelt ptg piter ifs n scope pos'
        split at he
        · rename_i hc
          cases he
          obtain ⟨h0, h1, hS, h3, h4, h5, h6, h7⟩ := hc
          subst h0
          have ok := blkOk_by h1
          have hv : ∀ i ∈ tg.vars, i ∈ own := fun i hi => of_decide_eq_true (List.all_eq_true.mp h3 i hi)
          have B := fun (s : Shared) (H : Hp) (C : Addr) (cs : List (Str × Addr)) (fp : List Addr) => h.blk scope ok.kind s H C cs fp
          have ht : ∀ (s : Shared) (H : Hp) (C : Addr) (cs : List (Str × Addr)) (fp : List Addr), PTs (X.blk s H scope (compEnvC scope cs C X.env) fp) ifs (TB cl w.quiet (plE fl own) cond) := fun s H C cs fp => by
            match ifs, h6 with
            | [], h6 => exact pts_yes h6
            | [q], h6 => exact pts_one (ckT_ok cond (B s H C cs fp) h6)
            | _ :: _ :: _, h6 => cases h6
          have h4 : ckI it c fl false ptg piter = true := by
            rw [Bool.or_eq_true] at h4
            refine h4.resolve_left fun z => ?_
            cases it with
            | keys i => cases hl
            | _ => cases z
          have hs : (decide (c.sc.names.lookup x = some .local) && (px.line == pos'.line) && !(scope.names.any fun (n, k) => n == x && (k == .local || k == .cell))) = true := hs
          simp only [Bool.and_eq_true, decide_eq_true_eq, Bool.not_eq_true'] at hs
          obtain ⟨⟨s1, s2⟩, s3⟩ := hs
          have k := ps_setLc (X := X) (i := i) (y := x) (py := px) (elt := pelt) (tg := ptg) (iter := piter) (ifs := ifs) (scope := scope) (own := own.map fun i => ((c.N[i]?).getD Str.empty, i)) (pos := pos') (spos := pos) h.calm (by rw [h.N]; exact h.nd) (by rw [h.N]; exact hi) (loc_local h s1)
            (sw_true (by rw [h.sc]; exact h.kind) (loc_local h s1) s2 s3) (ckI_ok it h h4) (by rw [h.N, h.sc]; exact ok)
            (fun s H C cs fp => (ckG_ok (B s H C cs fp) tg h5).1) ht (fun s H C cs fp => rd h7 fun lv e => ckE_ok elt (B s H C cs fp) e) (folded_ok hS)
          rw [own_names] at k
          exact ⟨_, k, fun σ H Q ⟨C, ρ, M, Fp, mu, s, q⟩ => tlc_ok hv s q⟩
        · cases he
      · cases he
    | _ => cases hl
theorem join_ok {P Q : List Fg → Prop} {a b : Rz} (ha : Good a P) (hb : Good b Q) (mP : ∀ f g, P f → leL f g = true → P g) (mQ : ∀ f g, Q f → leL f g = true → Q g) : Good (a.join b) fun f => P f ∧ Q f := by
  cases a with
  | bad => cases b <;> exact trivial
  | never =>
    cases b with
    | bad => exact trivial
    | never => exact fun f => ⟨ha f, hb f⟩
    | ok g => exact ⟨ha g, hb⟩
  | ok f =>
    cases b with
    | bad => exact trivial
    | never => exact ⟨ha, hb f⟩
    | ok g =>
      show Good (if leL f (joinL f g) && leL g (joinL f g) then .ok (joinL f g) else .bad) _
      split
      · rename_i hl
        rw [Bool.and_eq_true] at hl
        exact ⟨mP _ _ ha hl.1, mQ _ _ hb hl.2⟩
      · exact trivial
theorem within_ok {P : List Fg → Prop} {a : Rz} {f : List Fg} (ha : Good a P) (h : a.within f = true) (mP : ∀ f g, P f → leL f g = true → P g) : P f := by
  cases a with
  | bad => cases h
  | never => exact ha f
  | ok g => exact mP _ _ ha h
theorem nosole {t pv : Expr} {l : Nat} {env : PySem.Env} (h : notComp pv = true) : swapsWithSole [t] pv l env = pure false := by
  show swapsWith pv (some t) _ env = pure false
  exact swaps_ok h
theorem sub_ok {p pk : Expr} {spos : Pos} {env : PySem.Env} (h : notSlice pk = true) (v : Value) : assign (.Subscript p pk spos) env v = (do
      let ov ← holding [v] (eval p env)
      let iv ← holding [v, ov] (eval pk env)
      standAt spos
      holding [v, ov, iv] (setItem ov iv v)
      release [v, ov, iv] []) := by
  cases pk <;> first | rfl | cases h
theorem nostore {t pv : Expr} {env : PySem.Env} (h : (notTup t || !isTup pv) = true) : swappedStores [t] pv env = pure none := by
  unfold swappedStores
  cases t with
  | Tuple ts k pos =>
    cases pv with
    | Tuple vs k2 pos2 => cases h
    | _ => rfl
  | List ts pos =>
    cases pv with
    | Tuple vs k2 pos2 => cases h
    | _ => rfl
  | _ => rfl
theorem nostore_sub {p1 k1 p2 k2 : Expr} {s1 s2 tp vp : Pos} {kt vk : Nat} {vs : List Expr} {env : PySem.Env} : swappedStores [.Tuple [.Subscript p1 k1 s1, .Subscript p2 k2 s2] kt tp] (.Tuple vs vk vp) env = pure none := by
  unfold swappedStores
  simp only [List.length_cons, List.length_nil, List.filterMap_cons, List.filterMap_nil]
  split
  · rfl
  · split <;> rfl
theorem ps_rtn2 {X : Cx} {w : Wish} {ret : Lv} {fl fn fb fc : List Fg} {pos : Pos} : PS X (.Return none pos) (TSt cl w ret fl fn fb fc (.ret .non)) := by
  refine PS.weak ps_retN fun D σ H ⟨C, ρ, M, Fp, mu, s, q⟩ => ?_
  have q : ∀ v H' mu' S, Rst w.K C Fp H mu M H' mu' S ret .non v → D.rt v H' := q
  refine q .non H mu [] ⟨fun a o h _ _ => h, ⟨[], by simp, fun _ h => nomatch h⟩, (s.weak (C := fun a => C a ∨ a ∈ ([] : List Addr)) fun a z => z.elim id fun z => absurd z List.not_mem_nil).drop, List.nodup_nil, (fun _ h => nomatch h), ?_⟩
  cases ret with
  | t n => exact ⟨rfl, by unfold Rep; rfl⟩
  | f n => exact Own.of0 (w := .non) (fun _ h => nomatch h) (fun _ h => nomatch h) (by unfold Rep; rfl) n
theorem pip_ok {X : Cx} {op : Operator} {o : Bop} (h : pipOf op = some o) : ∃ t, PIp X op t ∧ PipOk t o := by
  cases op with
  | Add => cases h; exact ⟨_, pip_add, pipAdd⟩
  | Sub => cases h; exact ⟨_, iop_sub, pipSub⟩
  | Mult => cases h; exact ⟨_, iop_mul, pipMul⟩
  | _ => cases h
structure Mth (X : Cx) (w : Wish) (fl : List Fg) (cl : Nat → List W → List W → R W) (name : Str) (i d : Nat) (e : E) (p : Expr) : Prop where
  ex : ∃ o apos q cpos, p = .Call (.Attribute o name apos) [q] [] cpos ∧ PE X o (tVar i) ∧ PA X [q] (TL cl w fl [d] [e]) ∧ notCall0 o = true ∧ fl[i]? = some (.ow 1) ∧ (apos.endLine == cpos.line) = true ∧ notStar q = true
theorem mth_ok {c : Ck} {X : Cx} {w : Wish} {fl : List Fg} (h : Cok c X cl w) {name : Str} {i d : Nat} {e : E} {p : Expr} (hm : mth c fl name i d e p = true) : Mth X w fl cl name i d e p := by
  unfold mth at hm
  split at hm
  · simp only [Bool.and_eq_true, decide_eq_true_eq] at hm
    obtain ⟨⟨⟨⟨⟨⟨h1, h2⟩, h3⟩, h4⟩, h5⟩, h6⟩, h7⟩ := hm
    subst h1
    exact ⟨_, _, _, _, rfl, var_of h h2, pa_c (rd h7 fun lv e' => ckE_ok e h e') (pa_e rfl) (star_ok h6), h3, h4, by rw [h5]; simp, h6⟩
  · cases hm
theorem dsw_of {c : Ck} {X : Cx} {w : Wish} (h : Cok c X cl w) {x : Str} {px : Pos} {pk pv : Expr} {gs : List Comprehension} {scope : Scope} {pos : Pos} {l : Nat} (hd : dcSw c x px (.DictComp pk pv gs scope pos) = true) : c.sc.names.lookup x = some .local ∧ swapsWith (.DictComp pk pv gs scope pos) (some (.Name x px)) l X.env = pure true := by
  have hs : (decide (c.sc.names.lookup x = some .local) && (px.line == pos.line) && !(scope.names.any fun (n, k) => n == x && (k == .local || k == .cell))) = true := hd
  simp only [Bool.and_eq_true, decide_eq_true_eq, Bool.not_eq_true'] at hs
  obtain ⟨⟨s1, s2⟩, s3⟩ := hs
  exact ⟨s1, sw_trueD (by rw [h.sc]; exact h.kind) (loc_local h s1) s2 s3⟩
theorem asgD_ok {c : Ck} {X : Cx} {w : Wish} {fl : List Fg} (h : Cok c X cl w) {i : Nat} {x : Str} {px pos : Pos} {pv : Expr} {e : E} {lv : Lv} (hi : c.N[i]? = some x) (hx : c.loc x = true) (hdc : isDc e = true) (hsw : dcSw c x px pv = true) (he : ckE e c fl pv = some lv) :
    ∃ te, PS X (.Assign [.Name x px] pv pos) (tAsg te (gName i)) ∧ ∀ σ H Q, TV cl w fl lv e σ H Q → te σ H Q := by
  cases e with
  | dc ke ve tg it cond own =>
    unfold ckE at he
    split at he
    · rename_i pk pv ptg piter ifs n scope pos'
      split at he
      · rename_i hc
        cases he
        obtain ⟨h0, h1, hS, h3, h4, h5, h6, h7, h8⟩ := hc
        subst h0
        have ok := blkOk_by h1
        have hv : ∀ i ∈ tg.vars, i ∈ own := fun i hi => of_decide_eq_true (List.all_eq_true.mp h3 i hi)
        have B := fun (s : Shared) (H : Hp) (C : Addr) (cs : List (Str × Addr)) (fp : List Addr) => h.blk scope ok.kind s H C cs fp
        have ht : ∀ (s : Shared) (H : Hp) (C : Addr) (cs : List (Str × Addr)) (fp : List Addr), PTs (X.blk s H scope (compEnvC scope cs C X.env) fp) ifs (TB cl w.quiet (plE fl own) cond) := fun s H C cs fp => by
          match ifs, h6 with
          | [], h6 => exact pts_yes h6
          | [q], h6 => exact pts_one (ckT_ok cond (B s H C cs fp) h6)
          | _ :: _ :: _, h6 => cases h6
        obtain ⟨s1, sw⟩ := dsw_of (l := pos.line) h hsw
        have k := ps_setDcA (X := X) (i := i) (y := x) (py := px) (kx := pk) (vx := pv) (tg := ptg) (iter := piter) (ifs := ifs) (scope := scope) (own := own.map fun i => ((c.N[i]?).getD Str.empty, i)) (pos := pos') (spos := pos) (by have := h.u; omega) h.calm (by rw [h.N]; exact h.nd) (by rw [h.N]; exact hi) (loc_local h s1)
          sw (ckI_ok it h h4) (by rw [h.N, h.sc]; exact ok)
          (fun s H C cs fp => (ckG_ok (B s H C cs fp) tg h5).1) ht (fun s H C cs fp => rd h7 fun lv e => ckE_ok ke (B s H C cs fp) e) (fun s H C cs fp => rd h8 fun lv e => ckE_ok ve (B s H C cs fp) e) (folded_ok hS)
        rw [own_names] at k
        exact ⟨_, k, fun σ H Q ⟨C, ρ, M, Fp, mu, s, q⟩ => tdc_ok hv s q⟩
      · cases he
    · cases he
  | _ => cases hdc
/-- an empty one is owned to any depth -/
theorem tv_emp {w : Wish} {fl : List Fg} {e : E} {σ : L2.St} {H : Hp} {Q : VK} (he : isEmp e = true) : TV cl w fl (.f 2) e σ H Q → TV cl w fl (.f 1) e σ H Q := by
  rintro ⟨C, ρ, M, Fp, mu, s, q⟩
  refine ⟨C, ρ, M, Fp, mu, s, ?_⟩
  have one : ∀ {G : Gh} {v : V} {S : List Addr}, (∀ {x : Mi.W}, (x = .dct [] ∨ x = .lst []) → Own G 1 x v S → Own G 2 x v S) := fun {G v S x} hx h => by
    rcases hx with rfl | rfl
    · unfold Own at h ⊢
      obtain ⟨a, xs, Ss, h1, h2, h3, h4, h5, h6⟩ := h
      have : xs = [] := by simpa using h4
      subst this
      cases h5
      exact ⟨a, [], [], h1, h2, h3, h4, .nil, h6⟩
    · unfold Own at h ⊢
      obtain ⟨a, xs, Ss, h1, h2, h3, h5, h6⟩ := h
      cases h5
      exact ⟨a, [], [], h1, h2, h3, .nil, h6⟩
  cases e with
  | dct es =>
    cases es with
    | nil =>
      have q : ∀ v H' mu' S, Po w.K fl ρ σ Fp C H mu (fun a => C a ∨ a ∈ S) M H' mu' → S.Nodup → (∀ a ∈ S, H a = none) → Val (.f 2) (gT w.K H' (fun a => C a ∨ a ∈ S) Fp mu') (.dct []) v S → Q v H' := q
      exact fun v H' mu' S p nd fr hv => q v H' mu' S p nd fr (one (.inl rfl) hv)
    | cons _ _ => cases he
  | lst es =>
    cases es with
    | nil =>
      have q : ∀ v H' mu' S, Po w.K fl ρ σ Fp C H mu (fun a => C a ∨ a ∈ S) M H' mu' → S.Nodup → (∀ a ∈ S, H a = none) → Val (.f 2) (gT w.K H' (fun a => C a ∨ a ∈ S) Fp mu') (.lst []) v S → Q v H' := q
      exact fun v H' mu' S p nd fr hv => q v H' mu' S p nd fr (one (.inr rfl) hv)
    | cons _ _ => cases he
  | _ => cases he
theorem aug_ok {i : Expr} (h : notSlice i = true) (ov iv new : Value) : augStore i ov iv new = (do holding [new, ov, iv] (setItem ov iv new); release [new, ov, iv] []; pure .next) := by
  cases i <;> first | rfl | cases h
theorem Cok.tr {c : Ck} {X : Cx} {w : Wish} (h : Cok c X cl w) {W : WX} {pn : List (Addr × Obj)} {xe : Value → Shared → Prop} (tk : Takes (X.tr pn xe) W) : Cok c (X.tr pn xe) cl ⟨w.K, w.cm, W⟩ where
  N := h.N
  sc := h.sc
  kind := h.kind
  fn := h.fn
  nd := h.nd
  calm := h.calm
  hk := h.hk
  u := h.u
  tk := tk
  blt := h.blt
  fns := h.fns
  gis := h.gis
  gbs := h.gbs
  exs := by
    obtain ⟨Cs, T, k1, k2⟩ := h.exs
    exact ⟨Cs, ⟨T.at_, T.kit, T.exm⟩, k1, k2⟩
  top := h.top
theorem var_suite {c : Ck} {X : Cx} {w : Wish} (h : Cok c X cl w) {a : Addr} {oe : Obj} {pn : List (Addr × Obj)} {i : Nat} {p : Expr} (v : ckVar c i p = true) : PE (X.suite a ((a, oe) :: pn)) p (tVar i) := by
  cases p with
  | Name x pos =>
    have v : (decide (c.N[i]? = some x) && c.vis x && plain x) = true := v
    simp only [Bool.and_eq_true, decide_eq_true_eq] at v
    obtain ⟨⟨v1, v2⟩, v3⟩ := v
    obtain ⟨k1, k2⟩ := plain_of v3
    exact pe_var (X := X.suite a ((a, oe) :: pn)) (by show X.N[i]? = _; rw [h.N]; exact v1) (vis_of h v2) k1 k2
  | _ => cases v
theorem hds_ok {c : Ck} {X : Cx} {w : Wish} (h : Cok c X cl w) {Cs : Nat → Addr} (T : ExT X c.ex Cs) : ∀ (hs : List (Nat × Option Hx)) (hds : List ExceptHandler), ckHds c hs hds = true → HdsOk X hds (hList Cs hs) ∧ ∀ g ∈ hs, g.1 ∈ c.ex ∧ g.1 ≠ 0 ∧ ∀ v, g.2 = some v → (v.val g.1).ok = true
  | [], [], _ => ⟨.nil, fun _ h => nomatch h⟩
  | [], _ :: _, e => by simp [ckHds] at e
  | _ :: _, [], e => by simp [ckHds] at e
  | g :: hs, hd :: hds, e => by
    simp only [ckHds, Bool.and_eq_true] at e
    obtain ⟨e1, e2⟩ := e
    obtain ⟨i1, i2⟩ := hds_ok h T hs hds e2
    unfold ckHd at e1
    split at e1
    · rename_i x xp st hp
      simp only [Bool.and_eq_true, decide_eq_true_eq] at e1
      obtain ⟨⟨⟨⟨a1, a2⟩, a3⟩, a4⟩, a5⟩ := e1
      subst a1
      obtain ⟨k1, k2, k3⟩ := T.at_ _ a3
      refine ⟨.cons ⟨gl_of h a2, k2, .inl k1⟩ (suite_ok (fun v hv => ?_) fun hn => ?_) i1, fun g' hg' => ?_⟩
      · rw [hv] at a5
        cases st with
        | Return o rp =>
          cases o with
          | none => cases a5
          | some p =>
            have a5 : (ckHx c.gl (ckVar c) c.ex none g.1 v p && (v.val g.1).ok) = true := a5
            rw [Bool.and_eq_true] at a5
            exact ⟨p, rp, rfl, fun a oe pn hz hf => ckHx_ok (fun y hy => gl_of h hy) (fun i q hq => var_suite h hq) (blt_of h (by decide +kernel)) T a3 hz hf v a5.1⟩
        | _ => cases a5
      · rw [hn] at a5
        cases st with
        | Pass pp => exact ⟨pp, rfl⟩
        | _ => cases a5
      · rcases List.mem_cons.mp hg' with z | z
        · subst z
          refine ⟨a3, a4, fun v hv => ?_⟩
          rw [hv] at a5
          cases st with
          | Return o rp =>
            cases o with
            | none => cases a5
            | some p =>
              have a5 : (ckHx c.gl (ckVar c) c.ex none g'.1 v p && (v.val g'.1).ok) = true := a5
              rw [Bool.and_eq_true] at a5
              exact a5.2
          | _ => cases a5
        · exact i2 g' z
    · cases e1
/-- try, over what is read of the body -/
theorem try_ok {c : Ck} {X : Cx} {w : Wish} {ret : Lv} {fl fb fc : List Fg} {s : S} {bs : List S} {hs : List (Nat × Option Hx)} {hds : List ExceptHandler} {st0 : Stmt} {sts : List Stmt} {pos : Pos} {tb : WX → TS} (h : Cok c X cl w) (stk : X.stack = X.env :: X.outer) (frm : X.env.frame = some X.env.locals)
    (hh : (ckHds c hs hds = true ∧ hs.isEmpty = false) ∨ ckHa c fl hs hds = true) (body : ∀ (W : WX) (pn : List (Addr × Obj)) (xe : Value → Shared → Prop), Takes (X.tr pn xe) W → PassesOwn (model X.prog X.w) X.A X.env xe → PSs (X.tr pn xe) (st0 :: sts) (tb W))
    (read : ∀ {C : Addr → Prop} {ρ : Env} {M : List Mi.W} {σ : L2.St} {H : Hp} {Fp : List (List Addr)} {mu : List Addr} {D : Ends} {Wx : WX}, SR w.K C fl ρ M σ H Fp mu → OutS w ret fl fl fb fc ρ σ Fp C H mu (exec cl (.tri s bs hs) ρ M) D →
      (∀ x M' H' mu', Po w.K fl ρ σ Fp C H mu C M' H' mu' → OutS w ret fl fl fb fc ρ σ Fp C H mu (handled hs ρ x M') D → ∀ cls d, ExcOk w.cm x cls d → Wx cls d σ H') → tb Wx D σ H) :
    PS X (.Try (st0 :: sts) hds [] [] pos) (TSt cl w ret fl fl fb fc (.tri s bs hs)) := by
  obtain ⟨Cs, T, hcm, hcm2⟩ := h.exs
  rcases hh with ⟨hh, hne⟩ | hh
  · obtain ⟨k1, k2⟩ := hds_ok h T hs hds hh
    cases hds with
    | nil =>
      cases hs with
      | nil => cases hne
      | cons _ _ => simp [ckHds] at hh
    | cons h0 hds =>
      refine PS.weak (ps_try_many stk frm h.tk body k1) fun D σ H ⟨C, ρ, M, Fp, mu, sr, q⟩ => ?_
      exact read sr q fun x M' H' mu' p q' cls d e => many_ok T hcm sr p hs k2 q' cls d e
  · unfold ckHa at hh
    split at hh
    · rename_i x xp n p rp hp
      split at hh
      · rename_i k g
        split at hh
        · rename_i i ei
          simp only [Bool.and_eq_true, decide_eq_true_eq] at hh
          obtain ⟨⟨⟨⟨⟨⟨⟨⟨a1, a2⟩, a3⟩, a4⟩, a5⟩, a6⟩, a7⟩, a8⟩, a9⟩ := hh
          subst a4
          obtain ⟨k1, k2, k3⟩ := T.at_ k a6
          refine PS.weak (ps_try_as (i := i) (n := n) stk frm (by rw [h.N]; exact h.nd) (by rw [h.N]; exact a1) (loc_local h a2) ⟨gl_of h a5, k2, .inl k1⟩ h.tk body
            (suite_ok (n := some i) (B := Cs k) (k := k) (h := some g) (fun v hv => by cases hv; exact ⟨p, rp, rfl, fun a oe pn hz hf => ckHx_ok (fun y hy => gl_of h hy) (fun i q hq => var_suite h hq) (blt_of h (by decide +kernel)) T a6 hz hf g a8⟩) fun hn => nomatch hn)) fun D σ H ⟨C, ρ, M, Fp, mu, sr, q⟩ => ?_
          refine read sr q fun x M' H' mu' p q' cls d e => ?_
          have e0 := e
          obtain ⟨_, e2, a, e3, e4⟩ := e
          obtain ⟨j1, j2⟩ := hcm _ _ e3
          subst e2 e4 j2
          refine ⟨decide (x.cls = k), T.exm _ j1 _ a6 a7, fun hy a' ha' => ?_, fun hn => ?_⟩
          · have hy := of_decide_eq_true hy
            have eh : handled [(k, some g)] ρ x M' = .ok (.rt (g.val x.cls).w, ρ) M' := by
              unfold handled findH
              rw [if_pos hy]
            rw [eh] at q'
            have q' : ∀ v H' mu' S, Rst w.K C Fp H mu M' H' mu' S ret (g.val x.cls).w v → D.rt v H' := q'
            have hil : i < σ.length := by have := sr.lf; omega
            refine ⟨⟨by rw [hy], rfl⟩, fun j ej => ?_, fun H2 e5 => ?_⟩
            · cases ej
              exact List.getElem?_set_self hil
            · rw [hy] at q'
              exact q' _ H2 mu' [] (rst_flat p e5 a9)
          · have hn := of_decide_eq_false hn
            have eh : handled [(k, some g)] ρ x M' = .ex x M' := by
              unfold handled findH findH
              rw [if_neg hn]
            rw [eh] at q'
            have q' : ∀ f' ρ' σ' H' Fp' mu', Pst w.K C fl ρ σ Fp H mu f' ρ' M' σ' H' Fp' mu' → ∀ cls d, ExcOk w.cm x cls d → w.W cls d σ' H' := q'
            exact q' fl ρ σ H' Fp mu' (p.pst sr) _ _ e0
        · cases hh
      · cases hh
    · cases hh
theorem len3 {α : Type} : ∀ {l : List α}, l.length = 3 → ∃ a b c, l = [a, b, c]
  | [a, b, c], _ => ⟨a, b, c, rfl⟩
  | [], h => by cases h
  | [_], h => by cases h
  | [_, _], h => by cases h
  | _ :: _ :: _ :: _ :: _, h => by simp at h
theorem nbo_all {fl : List Fg} {is : List Nat} (h : (is.all fun i => notBo fl[i]?) = true) : ∀ i ∈ is, ∀ d, fl[i]? ≠ some (.bo d) := fun i hi => notBo_of (List.all_eq_true.mp h i hi)
theorem par_ok {c : Ck} {X : Cx} {w : Wish} {ret : Lv} {fl fb fc : List Fg} {is : List Nat} {es : List E} {ts vs : List Expr} {kt kv : Nat} {pt pv pos : Pos} (h : Cok c X cl w) (hc : ckPar c is ts vs pos.line = true) (hb : (is.all fun i => notBo fl[i]?) = true) (A : Args X w fl cl (List.replicate es.length 0) es vs) :
    PS X (.Assign [.Tuple ts kt pt] (.Tuple vs kv pv) pos) (TSt cl w ret fl (is.foldl (fun f i => f.set i .pl) fl) fb fc (.par is es)) := by
  have bk : X.env.blockKind = .function := by unfold Env.blockKind; rw [h.sc, h.kind]; rfl
  have loc : ∀ {x : Str}, c.sc.names.lookup x = some .local → X.env.kindOf x = some .local := fun {x} e => by
    show X.env.scope.names.lookup x = _
    rw [h.sc]; exact e
  have star : ∀ {vs : List Expr}, vs.all notStar = true → (vs.any fun | .Starred .. => true | _ => false) = false := fun {vs} hv => by
    rw [List.any_eq_false]
    intro p hp
    have := List.all_eq_true.mp hv p hp
    cases p <;> first | (cases this; done) | simp
  unfold ckPar at hc
  split at hc
  · rename_i i j x px y py
    simp only [Bool.and_eq_true, decide_eq_true_eq, Bool.not_eq_true'] at hc
    obtain ⟨⟨⟨⟨⟨⟨⟨⟨⟨⟨a1, a2⟩, a3⟩, a4⟩, a5⟩, a6⟩, a7⟩, a8⟩, a9⟩, a10⟩, a11⟩ := hc
    obtain ⟨q, r, rfl⟩ := len2 a8
    have l2 := A.l2
    have A' : PA X [q, r] (TL cl w fl [0, 0] es) := by
      have := A.pa
      rw [l2] at this
      exact this
    have nb := nbo_all hb
    refine ps_pr2 (ps_par h.calm (by rw [h.N]; exact h.nd) (by rw [h.N]; exact a1) (by rw [h.N]; exact a2) a3 (loc a5) (loc a6) A' ?_ rfl) (nb i (by simp)) (nb j (by simp))
    unfold swappedStores
    have e1 := star a9
    have k1 := loc a5
    have k2 := loc a6
    have ne : ([x, y] : List Str).eraseDups.length = 2 := by
      have : ([x, y] : List Str).eraseDups = [x, y] := by simp [List.eraseDups_cons, a4, Ne.symm a4]
      rw [this]; rfl
    have py' : (py.line == px.line) = true := by
      have : px.line = py.line := by simpa using a7
      rw [this]; simp
    simp only [List.length_cons, List.length_nil, bk, e1, k1, k2, Expr.pos, List.head?_cons, Option.map_some, Option.getD_some, List.filterMap_cons, List.filterMap_nil, py', a10, a11]
    simp only [List.any_cons, List.any_nil, Bool.or_false, Bool.or_eq_false_iff] at e1
    simp [ne]
    have n1 : notStar q = true := List.all_eq_true.mp a9 q (by simp)
    have n2 : notStar r = true := List.all_eq_true.mp a9 r (by simp)
    rintro (z | z)
    · cases q <;> first | (cases z; done) | (cases n1; done)
    · cases r <;> first | (cases z; done) | (cases n2; done)
  · rename_i i j l x px y py z pz
    simp only [Bool.and_eq_true, decide_eq_true_eq, Bool.not_eq_true'] at hc
    obtain ⟨⟨⟨⟨⟨⟨⟨⟨⟨⟨⟨⟨⟨⟨⟨⟨⟨a1, a2⟩, a3⟩, b1⟩, b2⟩, b3⟩, d1⟩, d2⟩, d3⟩, g1⟩, g2⟩, g3⟩, a7⟩, a7'⟩, a8⟩, a9⟩, a10⟩, a11⟩ := hc
    obtain ⟨q, r, t, rfl⟩ := len3 a8
    have l2 := A.l2
    have A' : PA X [q, r, t] (TL cl w fl [0, 0, 0] es) := by
      have := A.pa
      rw [l2] at this
      exact this
    have nb := nbo_all hb
    refine ps_pr3 (ps_par3 h.calm (by rw [h.N]; exact h.nd) (by rw [h.N]; exact a1) (by rw [h.N]; exact a2) (by rw [h.N]; exact a3) b1 b2 b3 (loc g1) (loc g2) (loc g3) A' ?_ rfl) (nb i (by simp)) (nb j (by simp)) (nb l (by simp))
    unfold swappedStores
    have e1 := star a9
    have k1 := loc g1
    have k2 := loc g2
    have k3 := loc g3
    have ne : ([x, y, z] : List Str).eraseDups.length = 3 := by
      have : ([x, y, z] : List Str).eraseDups = [x, y, z] := by simp [List.eraseDups_cons, d1, d2, d3, Ne.symm d1, Ne.symm d2, Ne.symm d3]
      rw [this]; rfl
    have py' : (py.line == px.line) = true := by
      have : px.line = py.line := by simpa using a7
      rw [this]; simp
    have pz' : (pz.line == px.line) = true := by
      have : px.line = pz.line := by simpa using a7'
      rw [this]; simp
    simp only [List.length_cons, List.length_nil, bk, e1, k1, k2, k3, Expr.pos, List.head?_cons, Option.map_some, Option.getD_some, List.filterMap_cons, List.filterMap_nil, py', pz', a10, a11]
    simp only [List.any_cons, List.any_nil, Bool.or_false, Bool.or_eq_false_iff] at e1
    simp [ne]
    have n1 : notStar q = true := List.all_eq_true.mp a9 q (by simp)
    have n2 : notStar r = true := List.all_eq_true.mp a9 r (by simp)
    have n3 : notStar t = true := List.all_eq_true.mp a9 t (by simp)
    rintro (z | z | z)
    · cases q <;> first | (cases z; done) | (cases n1; done)
    · cases r <;> first | (cases z; done) | (cases n2; done)
    · cases t <;> first | (cases z; done) | (cases n3; done)
  · cases hc
mutual
theorem ckS_ok : ∀ (s : S) {c : Ck} {ret : Lv} {fl fb fc : List Fg} {st : Stmt} {X : Cx} {w : Wish}, Cok c X cl w → PassesOwn (model X.prog X.w) X.A X.env X.xe → Good (ckS s c ret fl fb fc st) fun fn => PS X st (TSt cl w ret fl fn fb fc s)
  | .set i g e, c, ret, fl, fb, fc, st, X, w, h, hp => by
    unfold ckS
    split
    · split
      · rename_i hc
        obtain ⟨h1, h2, h3, h45⟩ := hc
        have asg : ∀ {lv : Lv} {px pos : Pos} {pv : Expr} {x : Str}, c.N[i]? = some x → c.loc x = true → ((notComp2 pv = true ∧ (lcSw c x px pv = true → isLc e = true)) ∨ (isDc e = true ∧ (dcSw c x px pv = true ∨ dcOff c x px pv = true))) → ckE e c fl pv = some lv →
            ∃ te, PS X (.Assign [.Name x px] pv pos) (tAsg te (gName i)) ∧ ∀ σ H Q, TV cl w fl lv e σ H Q → te σ H Q := fun h1 h2 h45 e1 => by
          rcases h45 with ⟨h4, h5⟩ | ⟨h4, h5 | h5⟩
          · exact asg_ok h h1 h2 h4 h5 e1
          · exact asgD_ok h h1 h2 h4 h5 e1
          · obtain ⟨k1, k2⟩ := loc_of h h2
            exact ⟨_, ps_set (by rw [h.N]; exact h.nd) (by rw [h.N]; exact h1) k1 (ckE_ok e h e1) (sw_falseD h h5) k2, fun _ _ _ q => q⟩
        split
        · split
          · rename_i hl
            obtain ⟨lv, e1, e2⟩ := lvD_some hl
            obtain ⟨te, k1, k2⟩ := asg h1 h2 h45 e1
            exact set_pl k1 (fun σ H Q q => k2 σ H Q (tv_tr e2 q)) (notBo_of h3)
          · exact trivial
        · split
          · rename_i hl
            rcases hl with hl | ⟨hl, hd, he⟩
            · obtain ⟨te, k1, k2⟩ := asg h1 h2 h45 hl
              exact set_ow k1 (fun σ H Q q => k2 σ H Q q) (notBo_of h3)
            · subst hd
              obtain ⟨te, k1, k2⟩ := asg h1 h2 h45 hl
              exact set_ow k1 (fun σ H Q q => k2 σ H Q (tv_emp he q)) (notBo_of h3)
          · exact trivial
        · exact trivial
      · exact trivial
    · exact trivial
  | .setT t e, c, ret, fl, fb, fc, st, X, w, h, hp => by
    unfold ckS
    split
    · split
      · rename_i hc
        obtain ⟨h1, h2, h3, h4, h5, h6⟩ := hc
        exact set_tg (rd h6 fun lv e' => ckE_ok e h e') (ckG_ok h t h4).1 (fun i hi => of_decide_eq_true (List.all_eq_true.mp h5 i hi)) (nosole h3) (by rw [Bool.or_eq_true] at h2; exact h2.elim nostore (nostore_off h)) (assign_ok h1)
      · exact trivial
    · exact trivial
  | .stx i k v, c, ret, fl, fb, fc, st, X, w, h, hp => by
    unfold ckS
    split
    · split
      · rename_i hc
        obtain ⟨h1, h2, h3, h4, h5, h6⟩ := hc
        exact ps_stx h.hk (by have := h.u; omega) (rd h6 fun lv e' => ckE_ok v h e') (var_of h h3) (rd h5 fun lv e' => ckE_ok k h e') h4 (sub_ok h2) (nosole h1) (nostore rfl) rfl
      · exact trivial
    · exact trivial
  | .swp i k1 k2 v1 v2, c, ret, fl, fb, fc, st, X, w, h, hp => by
    unfold ckS
    split
    · split
      · rename_i hc
        obtain ⟨h1, h2, h3, h4, h5, h6, h7, h8⟩ := hc
        exact ps_swp h.hk h.calm (by have := h.u; omega) (rd h8 fun lv e' => ckE_ok (.tup [v1, v2]) h e') (var_of h h3) (rd h6 fun lv e' => ckE_ok k1 h e') (var_of h h4) (rd h7 fun lv e' => ckE_ok k2 h e') h5 (sub_ok h1) (sub_ok h2) (nosole rfl) nostore_sub
      · exact trivial
    · exact trivial
  | .stc o k v, c, ret, fl, fb, fc, st, X, w, h, hp => by
    unfold ckS
    split
    · split
      · rename_i hc
        obtain ⟨h1, h2, h3, h4, h5⟩ := hc
        exact ps_stc h.hk (by have := h.u; omega) (rd h5 fun lv e' => ckE_ok v h e') (rd h3 fun lv e' => ckE_ok o h e') (rd h4 fun lv e' => ckE_ok k h e') (sub_ok h2) (nosole h1) (nostore rfl) rfl
      · exact trivial
    · exact trivial
  | .aug i o e, c, ret, fl, fb, fc, st, X, w, h, hp => by
    unfold ckS
    split
    · split
      · rename_i hc
        obtain ⟨h1, h2, h3, h4, h5⟩ := hc
        obtain ⟨k1, k2⟩ := loc_of h h2
        obtain ⟨t, j1, j2⟩ := pip_ok (X := X) h4
        exact ps_ag (ps_aug (by rw [h.N]; exact h.nd) (by rw [h.N]; exact h1) k1 (rd h5 fun lv e' => ckE_ok e h e') j1 k2) j2 h3
      · exact trivial
    · exact trivial
  | .augx i o k e, c, ret, fl, fb, fc, st, X, w, h, hp => by
    unfold ckS
    split
    · split
      · rename_i hc
        obtain ⟨h1, h2, h3, h4, h5, h6⟩ := hc
        obtain ⟨t, j1, j2⟩ := pip_ok (X := X) h4
        exact ps_agx h.hk (ps_augS (var_of h h2) (rd h5 fun lv e' => ckE_ok k h e') (pget_any (by have := h.u; omega)) (rd h6 fun lv e' => ckE_ok e h e') j1 (set_any (by have := h.u; omega)) (aug_ok h1)) j2 h3
      · exact trivial
    · exact trivial
  | .never, c, ret, fl, fb, fc, st, X, w, h, hp => by
    unfold ckS
    exact fun f => ps_nev
  | .wipe _, c, ret, fl, fb, fc, st, X, w, h, hp => by
    unfold ckS
    exact trivial
  | .raise k, c, ret, fl, fb, fc, st, X, w, h, hp => by
    unfold ckS
    split
    · split
      · rename_i hc
        obtain ⟨h1, h2, h3⟩ := hc
        subst h1
        obtain ⟨Cs, T, k1, k2⟩ := h.exs
        obtain ⟨j1, j2, j3⟩ := T.at_ k h2
        exact fun f => ps_ra h.calm h.tk j3 j1 (k2 k h2) (gl_of h h3) j2
      · exact trivial
    · exact trivial
  | .par is es, c, ret, fl, fb, fc, st, X, w, h, hp => by
    unfold ckS
    split
    · rename_i ts kt pt vs kv pv pos
      split
      · rename_i hc
        obtain ⟨h1, h2, h3⟩ := hc
        exact par_ok h h1 h2 (ckL_ok es h h3)
      · exact trivial
    · exact trivial
  | .rem i e, c, ret, fl, fb, fc, st, X, w, h, hp => by
    unfold ckS
    split
    · split
      · rename_i hc
        obtain ⟨o, apos, q, cpos, e0, k1, k2, k3, k4, k5, k6⟩ := (mth_ok h hc).ex
        subst e0
        exact ps_rem h.hk h.u k1 k2 k4 rfl (base_ok k3) (few_ok (fun r hr => by rw [List.mem_singleton.mp hr]; exact k6) (by simp)) k5 (star_ok k6) rfl
      · exact trivial
    · exact trivial
  | .sda i k v, c, ret, fl, fb, fc, st, X, w, h, hp => by
    unfold ckS
    split
    · rename_i p n1 apos1 pk lpos cpos1 n2 apos2 pv cpos2 pos
      split
      · rename_i hc
        obtain ⟨h1, h2, h3, h4, h5, h6, h7, h8, h9, h10, h11⟩ := hc
        subst h1 h2
        refine ps_sda h.hk (var_of h h3) (rd h10 fun lv e' => ckE_ok k h e') (rd h11 fun lv e' => ckE_ok v h e') h5 rfl (base_ok h4) rfl (few_ok (fun r hr => ?_) (by simp)) (few_ok (fun r hr => by rw [List.mem_singleton.mp hr]; exact h9) (by simp)) (by rw [h6]; simp) (by rw [h7]; simp) (star_ok h8) (star_ok h9)
        rcases List.mem_cons.mp hr with z | z
        · rw [z]; exact h8
        · rw [List.mem_singleton.mp z]; rfl
      · exact trivial
    · exact trivial
  | .apop i j e, c, ret, fl, fb, fc, st, X, w, h, hp => by
    unfold ckS
    split
    · split
      · rename_i hc
        obtain ⟨h1, h2, h3, h4, h5, h6, h7, h8, h9, h10, h11, h12⟩ := hc
        subst h1 h2
        exact ps_apop h.hk (var_of h h3) (var_of h h4) (pa_c (rd h12 fun lv e' => ckE_ok e h e') (pa_e rfl) (star_ok h11)) h7 h8 rfl (base_ok h5) (base_ok h6) (few_ok (fun r hr => by rw [List.mem_singleton.mp hr]; exact h11) (by simp)) (by rw [h9]; simp) (by rw [h10]; simp) (star_ok h11) rfl
      · exact trivial
    · exact trivial
  | .popv i j e, c, ret, fl, fb, fc, st, X, w, h, hp => by
    unfold ckS
    split
    · split
      · rename_i hc
        obtain ⟨h1, h2, h3, h4, h5, h6, h7, h8, h9, h10⟩ := hc
        subst h4
        obtain ⟨k1, k2⟩ := loc_of h h2
        exact ps_pv h.hk (var_of h h5) (pa_c (rd h10 fun lv e' => ckE_ok e h e') (pa_e rfl) (star_ok h9)) h7 (pg_name (by rw [h.N]; exact h.nd) (by rw [h.N]; exact h1) k1 k2) (notBo_of h3) rfl rfl rfl (base_ok h6) (few_ok (fun r hr => by rw [List.mem_singleton.mp hr]; exact h9) (by simp)) (by rw [h8]; simp) (star_ok h9) rfl
      · exact trivial
    · exact trivial
  | .tri s bs hs, c, ret, fl, fb, fc, st, X, w, h, hp => by
    unfold ckS
    split
    · rename_i st0 sts hds pos
      split
      · rename_i hc
        obtain ⟨htop, hh⟩ := hc
        obtain ⟨stk, frm⟩ := h.top htop
        split
        · rename_i e
          split
          · rename_i p pos0
            split
            · rename_i hc2
              obtain ⟨h1, h2, h3⟩ := hc2
              obtain ⟨lv, e1⟩ := Option.isSome_iff_exists.mp h2
              have body : ∀ (W : WX) (pn : List (Addr × Obj)) (xe : Value → Shared → Prop), Takes (X.tr pn xe) W → PassesOwn (model X.prog X.w) X.A X.env xe → PSs (X.tr pn xe) (.Expr p pos0 :: sts) (tTryE cl w ret lv fl fl fb fc e bs W) := fun W pn xe tk ps => by
                have h' := h.tr tk
                have k := within_ok (ckSs_ok bs h' ps (ret := ret) (fl := fl) (fb := fb) (fc := fc) (sts := sts)) h3 fun f g => ss_sub
                exact PSs.weak (pss_cons (ps_expr (ckE_ok e h' e1) (swaps_ok h1)) k) fun D σ H q => q
              exact try_ok h stk frm hh body fun {C ρ M σ H Fp mu D Wx} s q hx => tryE_ok s q hx
            · exact trivial
          · exact trivial
        · rename_i e
          split
          · rename_i p pos0
            split
            · rename_i hc2
              unfold retOk at hc2
              split at hc2
              · rename_i lv e1
                have body : ∀ (W : WX) (pn : List (Addr × Obj)) (xe : Value → Shared → Prop), Takes (X.tr pn xe) W → PassesOwn (model X.prog X.w) X.A X.env xe → PSs (X.tr pn xe) [.Return (some p) pos0] (tTryR cl w ret fl e W) := fun W pn xe tk ps => by
                  have h' := h.tr tk
                  rw [Bool.or_eq_true, decide_eq_true_eq] at hc2
                  have k : PE (X.tr pn xe) p (TV cl ⟨w.K, w.cm, W⟩ fl ret e) := by
                    rcases hc2 with hc2 | hc2
                    · subst hc2
                      exact ckE_ok e h' e1
                    · cases ret with
                      | t n => exact pe_t (ckE_ok e h' e1) hc2
                      | f n => cases hc2
                  exact PSs.weak (pss_cons (ps_ret k) pss_nil) fun D σ H q => q
                exact try_ok h stk frm hh body fun {C ρ M σ H Fp mu D Wx} s q hx => tryR_ok s q hx
              · cases hc2
            · exact trivial
          · exact trivial
        · exact trivial
      · exact trivial
    · exact trivial
  | .app i e, c, ret, fl, fb, fc, st, X, w, h, hp => by
    unfold ckS
    split
    · split
      · rename_i hc
        obtain ⟨o, apos, q, cpos, e0, k1, k2, k3, k4, k5, k6⟩ := (mth_ok h hc).ex
        subst e0
        exact ps_app h.hk k1 k2 k4 rfl (base_ok k3) (few_ok (fun r hr => by rw [List.mem_singleton.mp hr]; exact k6) (by simp)) k5 (star_ok k6) rfl
      · exact trivial
    · exact trivial
  | .ext i e, c, ret, fl, fb, fc, st, X, w, h, hp => by
    unfold ckS
    split
    · split
      · rename_i hc
        obtain ⟨o, apos, q, cpos, e0, k1, k2, k3, k4, k5, k6⟩ := (mth_ok h hc).ex
        subst e0
        exact ps_exn h.hk k1 k2 k4 rfl (base_ok k3) (few_ok (fun r hr => by rw [List.mem_singleton.mp hr]; exact k6) (by simp)) k5 (star_ok k6) rfl
      · exact trivial
    · exact trivial
  | .pop i e, c, ret, fl, fb, fc, st, X, w, h, hp => by
    unfold ckS
    split
    · split
      · rename_i hc
        obtain ⟨o, apos, q, cpos, e0, k1, k2, k3, k4, k5, k6⟩ := (mth_ok h hc).ex
        subst e0
        exact ps_pp h.hk k1 k2 k4 rfl (base_ok k3) (few_ok (fun r hr => by rw [List.mem_singleton.mp hr]; exact k6) (by simp)) k5 (star_ok k6) rfl
      · exact trivial
    · exact trivial
  | .expr e, c, ret, fl, fb, fc, st, X, w, h, hp => by
    unfold ckS
    split
    · split
      · rename_i hc
        obtain ⟨h1, h2⟩ := hc
        obtain ⟨lv, e1⟩ := Option.isSome_iff_exists.mp h2
        exact ps_xp (ckE_ok e h e1) (swaps_ok h1)
      · exact trivial
    · exact trivial
  | .ret e, c, ret, fl, fb, fc, st, X, w, h, hp => by
    unfold ckS
    split
    · split
      · rename_i hc
        intro f
        unfold retOk at hc
        split at hc
        · rename_i lv e1
          rw [Bool.or_eq_true, decide_eq_true_eq] at hc
          rcases hc with hc | hc
          · subst hc
            exact ps_rt (ckE_ok e h e1)
          · cases ret with
            | t n => exact ps_rt (pe_t (ckE_ok e h e1) hc)
            | f n => cases hc
        · cases hc
      · exact trivial
    · split
      · exact fun f => ps_rtn2
      · exact trivial
    · exact trivial
  | .retv i, c, ret, fl, fb, fc, st, X, w, h, hp => by
    unfold ckS
    split
    · split
      · split
        · rename_i hc
          exact fun f => ps_rtv (var_of h hc.1) hc.2
        · exact trivial
      · exact trivial
    · exact trivial
  | .ifs t a b, c, ret, fl, fb, fc, st, X, w, h, hp => by
    unfold ckS
    split
    · rename_i p sa sb pos
      split
      · rename_i hc
        have ka := ckSs_ok a h hp (ret := ret) (fl := fl) (fb := fb) (fc := fc) (sts := sa)
        have kb := ckSs_ok b h hp (ret := ret) (fl := fl) (fb := fb) (fc := fc) (sts := sb)
        have j := join_ok ka kb (fun f g => ss_sub) (fun f g => ss_sub)
        revert j
        cases (ckSs a c ret fl fb fc sa).join (ckSs b c ret fl fb fc sb) with
        | bad => exact fun _ => trivial
        | never => exact fun j f => ps_fi (ckT_ok t h hc) (j f).1 (j f).2
        | ok f => exact fun j => ps_fi (ckT_ok t h hc) j.1 j.2
      · exact trivial
    · exact trivial
  | .whil t b inv, c, ret, fl, fb, fc, st, X, w, h, hp => by
    unfold ckS
    split
    · split
      · rename_i hc
        obtain ⟨h1, h2, h3⟩ := hc
        exact ps_wh hp (ckT_ok t h h2) (within_ok (ckSs_ok b h hp) h3 fun f g => ss_sub) h1
      · exact trivial
    · exact trivial
  | .forr t it b inv, c, ret, fl, fb, fc, st, X, w, h, hp => by
    unfold ckS
    split
    · split
      · rename_i hc
        obtain ⟨h1, h2, h3, h4, h5, h6⟩ := hc
        exact ps_fr h.hk hp h.calm (ckI_ok it h h3) (ckG_ok h t h4).1 (within_ok (ckSs_ok b h hp) h6 fun f g => ss_sub) h1 (fun i hi => of_decide_eq_true (List.all_eq_true.mp h5 i hi)) (folded_ok h2)
      · exact trivial
    · exact trivial
  | .brk, c, ret, fl, fb, fc, st, X, w, h, hp => by
    unfold ckS
    split
    · split
      · rename_i hc
        exact fun f => ps_bk hc
      · exact trivial
    · exact trivial
  | .cont, c, ret, fl, fb, fc, st, X, w, h, hp => by
    unfold ckS
    split
    · split
      · rename_i hc
        exact fun f => ps_ct hc
      · exact trivial
    · exact trivial
  | .pass, c, ret, fl, fb, fc, st, X, w, h, hp => by
    unfold ckS
    split
    · exact ps_pa
    · exact trivial
  | .fz i, c, ret, fl, fb, fc, st, X, w, h, hp => by
    unfold ckS
    exact trivial
  | .lk i s, c, ret, fl, fb, fc, st, X, w, h, hp => by
    unfold ckS
    split
    · rename_i hs
      split
      · rename_i d ed
        have k := ckS_ok s h hp (ret := ret) (fl := fl.set i (.bo d)) (fb := fb) (fc := fc) (st := st)
        split
        · rename_i f ef
          rw [ef] at k
          cases s with
          | forr t it b inv =>
            have e2 : f = inv := by
              unfold ckS at ef
              split at ef
              · split at ef
                · cases ef; rfl
                · cases ef
              · cases ef
            subst e2
            exact ps_lend ed k
          | _ => cases hs
        · exact trivial
      · exact trivial
    · exact trivial
theorem ckSs_ok : ∀ (ss : List S) {c : Ck} {ret : Lv} {fl fb fc : List Fg} {sts : List Stmt} {X : Cx} {w : Wish}, Cok c X cl w → PassesOwn (model X.prog X.w) X.A X.env X.xe → Good (ckSs ss c ret fl fb fc sts) fun fn => PSs X sts (TSs cl w ret fl fn fb fc ss)
  | [], c, ret, fl, fb, fc, sts, X, w, h, hp => by
    unfold ckSs
    cases sts with
    | nil => exact ss_n
    | cons _ _ => exact trivial
  | s :: ss, c, ret, fl, fb, fc, sts, X, w, h, hp => by
    unfold ckSs
    split
    · rename_i i
      split
      · rename_i hl
        have k := ckSs_ok ss h hp (ret := ret) (fl := fl.set i .pl) (fb := fb) (fc := fc) (sts := sts)
        revert k
        cases ckSs ss c ret (fl.set i .pl) fb fc sts with
        | bad => exact fun _ => trivial
        | never => exact fun k f => ss_fz (k f) hl
        | ok f => exact fun k => ss_fz k hl
      · exact trivial
    · rename_i is
      split
      · rename_i hl
        have hl' : ∀ i ∈ is, fl[i]? = some Fg.pl := fun i hi => of_decide_eq_true (List.all_eq_true.mp hl i hi)
        have k := ckSs_ok ss h hp (ret := ret) (fl := fl) (fb := fb) (fc := fc) (sts := sts)
        revert k
        cases ckSs ss c ret fl fb fc sts with
        | bad => exact fun _ => trivial
        | never => exact fun k f => ss_wipe (k f) hl'
        | ok f => exact fun k => ss_wipe k hl'
      · exact trivial
    · cases sts with
      | nil => exact trivial
      | cons st sts' =>
        have k1 := ckS_ok s h hp (ret := ret) (fl := fl) (fb := fb) (fc := fc) (st := st)
        show Good (match ckS s c ret fl fb fc st with
          | .ok f => ckSs ss c ret f fb fc sts'
          | .never => match ss, sts' with
            | [], [] => .never
            | _, _ => .bad
          | .bad => .bad) _
        split
        · rename_i f ef
          rw [ef] at k1
          have k := ckSs_ok ss h hp (ret := ret) (fl := f) (fb := fb) (fc := fc) (sts := sts')
          revert k
          cases ckSs ss c ret f fb fc sts' with
          | bad => exact fun _ => trivial
          | never => exact fun k g => ss_c k1 (k g)
          | ok g => exact fun k => ss_c k1 k
        · rename_i en
          rw [en] at k1
          split
          · exact fun g => ss_c (k1 g) ss_n
          · exact trivial
        · exact trivial
end
end
end Mi
end MiP_

section MiQ_
set_option linter.all false
set_option Elab.async false
/-! MiQ: the defs of a text; the law's call. -/
namespace Mi
open PySem PySem.Spec PyProof.Rows L2

/-- a look at the names of a def's scope -/
def scOk (N Q : List Str) (sc : Scope) : Bool :=
  decide (sc.kind = .function) && !sc.isCoroutine && !sc.isGenerator && decide N.Nodup && decide (N.take Q.length = Q) && (Q.all fun x => decide (sc.names.lookup x = some .local) || decide (sc.names.lookup x = some .cell)) && sc.names.all fun y => !decide (y.2 = .free)
theorem scOk_of {N Q : List Str} {sc : Scope} (h : scOk N Q sc = true) : FnScope N Q sc := by
  unfold scOk at h
  simp only [Bool.and_eq_true, Bool.not_eq_true', decide_eq_true_eq, List.all_eq_true, Bool.or_eq_true, decide_eq_false_iff_not] at h
  obtain ⟨⟨⟨⟨⟨⟨a1, a2⟩, a3⟩, a4⟩, a5⟩, a6⟩, a7⟩ := h
  exact ⟨a1, a2, a3, a4, a5, a6, a7⟩
/-- a def of the text with its form in the small language -/
structure Df where
  id : Nat
  name : Str
  params : Arguments
  body : List Stmt
  scope : Scope
  ps : List Str
  N : List Str
  fn : Fn
def findD (ds : List Df) (f : Nat) : Option Df := ds.find? fun d => d.id == f
def tabN (ds : List Df) : Nat → Option (Str × Fn) := fun f => (findD ds f).map fun d => (d.name, d.fn)
def tabF (ds : List Df) : Nat → Option Fn := fun f => (findD ds f).map (·.fn)
theorem findD_of {ds : List Df} (h : (ds.map (·.id)).Nodup) {d : Df} (hd : d ∈ ds) : findD ds d.id = some d := by
  unfold findD
  induction ds with
  | nil => cases hd
  | cons e ds ih =>
    rw [List.map_cons, List.nodup_cons] at h
    rw [List.find?_cons]
    rcases List.mem_cons.mp hd with z | z
    · subst z
      simp
    · have ne : (e.id == d.id) = false := by
        simp only [beq_eq_false_iff_ne, ne_eq]
        exact fun q => h.1 (List.mem_map.mpr ⟨d, z, q.symm⟩)
      rw [ne]
      exact ih h.2 z
theorem findD_mem {ds : List Df} {f : Nat} {d : Df} (h : findD ds f = some d) : d ∈ ds ∧ d.id = f := by
  unfold findD at h
  exact ⟨List.mem_of_find?_eq_some h, by simpa using List.find?_some h⟩
/-- what is used of the module's other names -/
structure Gs where
  gi : List (Str × Int)
  gb : List (Str × String)
  ex : List Nat
def Df.ck (g : Gs) (ds : List Df) (d : Df) : Ck := ⟨d.N, d.scope, fun _ => true, tabN ds, g.gi, g.gb, g.ex, true⟩
/-- .. known of them -/
structure GF (K : PySem.W.Frag) (mg : Str → Option Value) (cm : CM) (g : Gs) : Prop where
  gis : ∀ x n, (x, n) ∈ g.gi → (∃ t, mg x = some (.int n t)) ∧ (x == ("__debug__" : Str)) = false
  gbs : ∀ x id, (x, id) ∈ g.gb → mg x = some (.builtin id) ∧ (x == ("__debug__" : Str)) = false
  exs : ∃ Cs : Nat → Addr, (∀ k ∈ g.ex, mg (exName k) = some (.ref (Cs k)) ∧ (exName k == ("__debug__" : Str)) = false ∧ ExF K (Cs k)) ∧ (∀ k ∈ g.ex, ∀ j ∈ g.ex, PySem.W.kitOne K (.ref (Cs k)) (.ref (Cs j)) = some (isaX k j)) ∧
    (∀ k ∈ g.ex, ∀ j ∈ g.ex, j ≠ 0 → PySem.W.exmOne K (.ref (Cs k)) (.ref (Cs j)) = some (decide (k = j))) ∧ (∀ k a, cm k = some a → k ∈ g.ex ∧ a = Cs k) ∧ ∀ k ∈ g.ex, cm k = some (Cs k)
def flOf (d : Nat) : Fg := if d = 0 then .pl else .bo d
def initF (F : Fn) : List Fg := F.pd.map flOf ++ List.replicate (F.ns - F.np) .pl
def Df.good (g : Gs) (ds : List Df) (d : Df) : Bool := scOk d.N d.ps d.scope && decide (d.N.length = d.fn.ns) && decide (d.ps.length = d.fn.np) && decide (d.fn.pd.length = d.fn.np) && decide (d.fn.np ≤ d.fn.ns) && plain d.name &&
  (match ckSs d.fn.body (d.ck g ds) d.fn.ret (initF d.fn) [] [] d.body with
    | .bad => false
    | _ => true)
/-- the slots at a call -/
theorem SR.enter {K : PySem.W.Frag} {C : Addr → Prop} {M : List W} {H : Hp} {mu : List Addr} {F : Fn} {xs : List W} {vs : List V} {n : Nat} (s : SR K C [] [] M [] H [] mu) (r : RepDs (gT K H C [] mu) F.pd xs vs) (hp : F.pd.length = F.np) (hn : n = F.ns) (hle : F.np ≤ F.ns) :
    SR K C (initF F) (xs.map some ++ List.replicate (F.ns - F.np) none) M (vs.map some ++ List.replicate (n - vs.length) none) H (List.replicate F.ns []) mu := by
  obtain ⟨r1, r2, r3⟩ := r
  have lx : xs.length = F.np := by omega
  have lv : vs.length = F.np := by omega
  have fl0 : (List.replicate F.ns ([] : List Addr)).flatten = [] := by
    rw [List.flatten_eq_nil_iff]
    intro l hl
    exact (List.mem_replicate.mp hl).2
  have eB : ∀ a, allB C (List.replicate F.ns []) mu a ↔ allB C [] mu a := fun a => by
    unfold allB
    rw [fl0]
    rfl
  have t0 : (gT K H C [] mu).To (gT K H C (List.replicate F.ns []) mu) := ⟨rfl, fun a o e k => ⟨e, fun z => k ((eB a).mp z)⟩, fun a o e k => ⟨e, k⟩, fun _ _ e => e⟩
  have t : (gT K H C [] mu).To (gS K H C (List.replicate F.ns []) mu) := ⟨rfl, fun a o e k => ⟨e, fun z => k ((eB a).mp z)⟩, fun a o e k => ⟨e, fun z => by
    rcases z with z | z
    · exact k z
    · rw [fl0] at z; cases z⟩, fun _ _ e => e⟩
  refine ⟨by simp only [List.length_append, List.length_map, List.length_replicate]; omega, by simp only [List.length_append, List.length_map, List.length_replicate]; omega, by simp only [initF, List.length_append, List.length_map, List.length_replicate]; omega, by rw [fl0]; simpa using s.nd, fun a h => ?_, s.ct', fun a h => ?_, s.cl, fun k x a e1 e2 => (s.ce k x a e1 e2).to t0 fun _ _ _ h => h, fun i g x e1 e2 => ?_⟩
  · rw [fl0] at h; exact s.cd a (by simpa using h)
  · rw [fl0] at h; exact s.tr' a (by simpa using h)
  · by_cases hi : i < xs.length
    · rw [List.getElem?_append_left (by simpa using hi), List.getElem?_map] at e2
      obtain ⟨y, ey, e2⟩ := Option.map_eq_some_iff.mp e2
      cases e2
      unfold initF at e1
      rw [List.getElem?_append_left (by simp; omega), List.getElem?_map] at e1
      obtain ⟨d, ed, e1⟩ := Option.map_eq_some_iff.mp e1
      subst e1
      have hv : i < vs.length := by omega
      have ev : vs[i]? = some vs[i] := by simp [hv]
      have rr := r3 i x vs[i] d ey ev ed
      have es : ((vs.map some ++ List.replicate (n - vs.length) none)[i]?).join = some vs[i] := by
        rw [List.getElem?_append_left (by simpa using hv), List.getElem?_map, ev]; rfl
      unfold flOf
      by_cases k : d = 0
      · rw [if_pos k]
        subst k
        exact ⟨_, es, rr.to t⟩
      · rw [if_neg k]
        exact ⟨_, es, rr.to t⟩
    · rw [List.getElem?_append_right (by simpa using Nat.le_of_not_lt hi)] at e2
      rw [List.getElem?_replicate] at e2
      split at e2 <;> cases e2
section
variable {P : Program} {w : World} {K : PySem.W.Frag} {mg : Str → Option Value} {base : Heap} {cm : CM}
/-- what is told of the def i at the depth n -/
def Told (P : Program) (w : World) (K : PySem.W.Frag) (mg : Str → Option Value) (base : Heap) (cm : CM) (ds : List Df) (n : Nat) : Prop :=
  ∀ d ∈ ds, ∃ fa fd, FnOk P w K mg base (L2.CX P w) n fa fd d.ps (spF K cm (callF (tabF ds) n) d.id d.fn) ∧ mg d.name = some (.ref fa) ∧ PySem.W.keepIn K (.ref fa) = true ∧ Binds K fd d.ps []
/-- what the head tells of a def -/
def Known (K : PySem.W.Frag) (mg : Str → Option Value) (ds : List Df) : Prop :=
  ∀ d ∈ ds, ∃ fa fd, FunD K d.name d.name d.params d.body d.scope [] [] fa fd ∧ mg d.name = some (.ref fa) ∧ Binds K fd d.ps []
theorem drop_po {C : Addr → Prop} {fl fl' : List Fg} {ρ ρ' : Env} {M' : List W} {σ σ' : L2.St} {H H' : Hp} {n : Nat} {Fp' : List (List Addr)} {mu mu' : List Addr} (p : Pst K C fl ρ σ (List.replicate n []) H mu fl' ρ' M' σ' H' Fp' mu') : Po K [] [] [] [] C H mu C M' H' mu' := by
  have fl0 : (List.replicate n ([] : List Addr)).flatten = [] := by
    rw [List.flatten_eq_nil_iff]
    intro l hl
    exact (List.mem_replicate.mp hl).2
  exact ⟨fun a o h k => p.ext a o h k (by rw [fl0]; exact List.not_mem_nil), p.pre, fun _ h => .inl h, fun _ h => h, p.sr.drop⟩
theorem step_ok {ds : List Df} (nd : (ds.map (·.id)).Nodup) {gs : Gs} (gf : GF K mg cm gs) (good : ∀ d ∈ ds, d.good gs ds = true) (hb : ∀ x ∈ blts, mg x = none) {n : Nat} (IH : Told P w K mg base cm ds n) {d : Df} (hd : d ∈ ds) {fa : Addr} {fd : FuncData} (F : FunD K d.name d.name d.params d.body d.scope [] [] fa fd) :
    FnOk P w K mg base (L2.CX P w) (n + 1) fa fd d.ps (spF K cm (callF (tabF ds) (n + 1)) d.id d.fn) := by
  have g := good d hd
  unfold Df.good at g
  simp only [Bool.and_eq_true, decide_eq_true_eq] at g
  obtain ⟨⟨⟨⟨⟨⟨g1, g2⟩, g3⟩, g4⟩, g5⟩, g6⟩, g7⟩ := g
  have S := scOk_of g1
  refine F.ok S (fun vs H Q E h => ?_) (fun cdv A outer s H vs Q E hr h => ?_)
  · obtain ⟨C, M, mu, xs, _, r, hp, _⟩ := h
    have := r.1
    have := r.2.1
    omega
  · obtain ⟨C, M, mu, xs, sr, r, hp, q⟩ := h
    let X := cxOf (L2.CX P w) P w K mg base d.N d.name d.scope fa cdv A outer s H E
    let W : Wish := ⟨K, cm, fun cls dd _ H' => E cls dd H'⟩
    have cok : Cok (d.ck gs ds) X (callF (tabF ds) n) W := {
      N := rfl
      sc := rfl
      kind := S.kind
      fn := fun _ => rfl
      nd := S.nd
      calm := rfl
      hk := rfl
      u := by have := hr.un; show (A.deeper _).units + 65 < _; omega
      tk := takes_of (X := X) (E := E) rfl rfl rfl rfl
      blt := hb
      fns := fun f x F' hf => by
        have hf : (findD ds f).map (fun d => (d.name, d.fn)) = some (x, F') := hf
        obtain ⟨d', e0, e2⟩ := Option.map_eq_some_iff.mp hf
        cases e2
        obtain ⟨e1, ei⟩ := findD_mem e0
        subst ei
        have g' := good d' e1
        unfold Df.good at g'
        simp only [Bool.and_eq_true, decide_eq_true_eq] at g'
        obtain ⟨⟨⟨⟨⟨⟨_, _⟩, _⟩, k4⟩, _⟩, k6⟩, _⟩ := g'
        obtain ⟨fa', fd', F1, F2, F3, F4⟩ := IH d' e1
        exact ⟨(plain_of k6).1, k4, fa', fd', d'.ps, n, F1, hr, F2, F3, F4⟩
      gis := gf.gis
      gbs := gf.gbs
      exs := by
        obtain ⟨Cs, k1, k2, k3, k4, k5⟩ := gf.exs
        exact ⟨Cs, ⟨k1, k2, k3⟩, k4, k5⟩
      top := fun _ => ⟨rfl, rfl⟩ }
    have hpass : PassesOwn (model X.prog X.w) X.A X.env X.xe := passes_of (X := X) (K := fun e s'' => L2.CX P w outer H s E e s'') (E₁ := fun e s'' => L2.CX P w outer H s E e s'') rfl
    have gd := ckSs_ok (cl := callF (tabF ds) n) d.fn.body (c := d.ck gs ds) (ret := d.fn.ret) (fl := initF d.fn) (fb := []) (fc := []) (sts := d.body) cok hpass
    have ⟨fn, k⟩ : ∃ fn, PSs X d.body (TSs (callF (tabF ds) n) W d.fn.ret (initF d.fn) fn [] [] d.fn.body) := by
      revert gd g7
      cases ckSs d.fn.body (d.ck gs ds) d.fn.ret (initF d.fn) [] [] d.body with
      | bad => exact fun z => by cases z
      | never => exact fun _ k => ⟨[], k []⟩
      | ok f => exact fun _ k => ⟨f, k⟩
    refine ⟨_, k, ?_⟩
    have lx : xs.length = d.fn.np := by have := r.1; omega
    have en := SR.enter sr r hp g2 g5
    refine ⟨C, xs.map some ++ List.replicate (d.fn.ns - d.fn.np) none, M, List.replicate d.fn.ns [], mu, en, ?_⟩
    have q : OutV W [] d.fn.ret [] [] [] C H mu (callF (tabF ds) (n + 1) d.id xs M) Q := q
    have ec : callF (tabF ds) (n + 1) d.id xs M = fin (execs (callF (tabF ds) n) d.fn.body (xs.map some ++ List.replicate (d.fn.ns - d.fn.np) none) M) := by
      have et : tabF ds d.id = some d.fn := by show (findD ds d.id).map _ = _; rw [findD_of nd hd]; rfl
      unfold callF
      rw [et]
      show (if xs.length = d.fn.np then _ else _) = _
      rw [if_pos lx]
    rw [ec] at q
    show OutS W d.fn.ret (initF d.fn) fn [] [] _ (L2.start d.N vs) (List.replicate d.fn.ns []) C H mu (execs (callF (tabF ds) n) d.fn.body (xs.map some ++ List.replicate (d.fn.ns - d.fn.np) none) M) _
    revert q
    cases execs (callF (tabF ds) n) d.fn.body (xs.map some ++ List.replicate (d.fn.ns - d.fn.np) none) M with
    | no => exact id
    | ex x M' => exact fun q f' ρ' σ' H' Fp' mu' p cls dd e => q H' mu' (drop_po p) cls dd e
    | ok a M' =>
      obtain ⟨a, ρ'⟩ := a
      cases a with
      | bk => exact fun q => q.elim
      | ct => exact fun q => q.elim
      | nx =>
        intro q σ' H' Fp' mu' p
        have pp := drop_po p
        refine q .non H' mu' [] (pp.weak (fun _ h => .inl h) fun a z => z.elim id fun z => absurd z List.not_mem_nil) List.nodup_nil (fun _ h => nomatch h) ?_
        cases d.fn.ret with
        | t m => exact ⟨rfl, by unfold Rep; rfl⟩
        | f m => exact Own.of0 (w := .non) (fun _ h => nomatch h) (fun _ h => nomatch h) (by unfold Rep; rfl) m
      | rt x =>
        intro q v H' mu' S rs
        have fl0 : (List.replicate d.fn.ns ([] : List Addr)).flatten = [] := by
          rw [List.flatten_eq_nil_iff]
          intro l hl
          exact (List.mem_replicate.mp hl).2
        have fr : ∀ a ∈ S, H a = none := fun a ha => by
          rcases rs.fr a ha with z | z
          · rw [fl0] at z; cases z
          · exact z
        exact q v H' mu' S ⟨fun a o h k => rs.ext a o h k (by rw [fl0]; exact List.not_mem_nil), rs.pre, fun a z => z.elim .inl fun z => .inr (fr a z), fun a z => .inl z, rs.sr⟩ rs.nd fr rs.val
theorem told_ok {ds : List Df} (nd : (ds.map (·.id)).Nodup) {gs : Gs} (gf : GF K mg cm gs) (good : ∀ d ∈ ds, d.good gs ds = true) (kn : Known K mg ds) (hb : ∀ x ∈ blts, mg x = none) : ∀ n, Told P w K mg base cm ds n
  | 0 => fun d hd => by
    obtain ⟨fa, fd, F, hm, hbd⟩ := kn d hd
    refine ⟨fa, fd, ⟨fun vs H Q E h => ?_, fun A outer s H args us vs Q E _ _ _ _ h => ?_⟩, hm, F.kp, hbd⟩
    · obtain ⟨C, M, mu, xs, _, _, _, q⟩ := h
      exact q.elim
    · obtain ⟨C, M, mu, xs, _, _, _, q⟩ := h
      exact q.elim
  | n + 1 => fun d hd => by
    obtain ⟨fa, fd, F, hm, hbd⟩ := kn d hd
    exact ⟨fa, fd, step_ok nd gf good hb (told_ok nd gf good kn hb n) hd F, hm, F.kp, hbd⟩
/-- the law's def: it gives True at a script -/
theorem law_sp {ds : List Df} {n : Nat} {d : Df} {a : Addr} {ns : List Int} {H : Hp} (hpd : d.fn.pd = [0]) (hnp : d.fn.np = 1) (hl : ns.length ≤ sizeLine) (hO : L2.Only H) (hS : SqL K H a (ns.map V.int))
    (hv : ∃ M, callF (tabF ds) n d.id [.frz ns] [] = .ok (.bl true) M) : spF K cm (callF (tabF ds) n) d.id d.fn [.ref a] H (fun v _ => v = .bl true) fun _ _ _ => False := by
  obtain ⟨M, hv⟩ := hv
  refine ⟨fun _ => False, [], [], [.frz ns], ⟨rfl, Nat.le_refl _, rfl, List.nodup_nil, fun a h => (by simp at h), fun a h => h.elim, fun a h => (by simp at h), rfl, fun n w a e => (by simp at e), fun i g w e => (by simp at e)⟩, ?_, by rw [hpd, hnp]; rfl, ?_⟩
  · rw [hpd]
    refine ⟨rfl, rfl, fun i x v d e1 e2 e3 => ?_⟩
    cases i with
    | zero =>
      cases e1; cases e2; cases e3
      unfold Rep
      refine ⟨a, rfl, hl, ?_⟩
      rcases hS with h | h
      · rcases h with h | ⟨o, h⟩
        · rcases hO a with z | ⟨o, xs, z⟩
          · rw [z] at h; cases h
          · rw [z] at h; cases h
        · refine .inl ⟨o, h, fun z => ?_⟩
          rcases z with z | z | z
          · cases z
          · simp at z
          · exact z
      · exact .inr h
    | succ i => cases e1
  · rw [hv]
    intro v H' mu' S p nd fr hv
    cases hr : d.fn.ret with
    | t m =>
      rw [hr] at hv
      exact rep_bl hv.2
    | f m =>
      rw [hr] at hv
      have hv : Own _ m (.bl true) v S := hv
      cases m with
      | zero => unfold Own at hv; exact rep_bl hv.2
      | succ m => unfold Own at hv; exact rep_bl hv.2
end
end Mi
end MiQ_

section MiR_
set_option linter.all false
set_option Elab.async false
/-! MiR: a law's end. -/
namespace Mi
open PySem PySem.Spec PyProof.Rows L2
inductive Al {α : Type} (P : α → Prop) : List α → Prop
  | nil : Al P []
  | cons {a : α} {l : List α} : P a → Al P l → Al P (a :: l)
theorem Al.all {α : Type} {P : α → Prop} {l : List α} (h : Al P l) : ∀ a ∈ l, P a := by
  induction h with
  | nil => exact fun _ h => nomatch h
  | cons h _ ih => exact fun a ha => (List.mem_cons.mp ha).elim (fun z => z ▸ h) (ih a)
/-- every parameter is written -/
def Bd (d : Df) : Prop := ∀ (kV doc pm : Value) (an : Option Addr) (cdv ct : Value) (us : List Value), us.length = d.ps.length → bindArgs (PySem.W.fnOf d.name d.name d.params d.body d.scope .none kV doc pm an cdv ct) ⟨us, []⟩ = pure (d.ps.zip us)
def dfd (d : Df) : He.DefD := ⟨(d.name, none), d.name, d.name, d.params, d.body, d.scope, [], []⟩
theorem known {K : PySem.W.Frag} {mg : Str → Option Value} {h : Heap} {ds : List Df} {fa : List He.Fa} {fn : List He.DefD} (KX : K.In h) (G : h.Ns mainGlobals mg) (c : He.SaysD fa fn K) (hfn : ∀ d ∈ ds, dfd d ∈ fn) (hfa : ∀ d ∈ ds, He.Fa.glo d.name ∈ fa) (hb : Al Bd ds) : Known K mg ds := fun d hd => by
  obtain ⟨fd, F⟩ := c.defs (hfn d hd)
  exact ⟨_, fd, F, He.glo_ok KX G (c.facts (hfa d hd)), FunD.bindsN F (hb.all d hd)⟩
theorem frees {K : PySem.W.Frag} {mg : Str → Option Value} {h : Heap} {fa : List He.Fa} {fn : List He.DefD} (KX : K.In h) (G : h.Ns mainGlobals mg) (c : He.SaysD fa fn K) (hfa : ∀ x ∈ blts, He.Fa.free x ∈ fa) : ∀ x ∈ blts, mg x = none := fun x hx => He.free_ok KX G (c.facts (hfa x hx))
theorem cx_false {P : Program} {w : World} {H : Hp} {s s' : Shared} {e : Value} : L2.CX P w [] H s (fun _ _ _ => False) e s' → False := fun ⟨_, _, _, _, _, _, _, _, _, _, _, _, z⟩ => z
/-- the end, for defs that may raise -/
theorem walk_x {l : PySem.W.OpenLaw} {n k : Nat} {q : Program} {loose : List Str} {XP : (Str → Option Value) → Heap → Prop} {YP : World → Heap → Prop} {r : DefRec} {x : Str} (hn : l.most = some n) (hz : n ≤ sizeLine) (hdf : r.params.defaults = []) (hr : Room k callerA)
    (F : ∀ (w : World) (mg : Str → Option Value) (fa : Addr) (h : Heap), YP w h → h.Ns mainGlobals mg → mg r.name = some (.ref fa) → ∃ (K : PySem.W.Frag) (fd : FuncData) (sp : Sp), K.In h ∧ (∀ (s : Shared) (u : Value), BindsTo s fd ⟨[u], []⟩ [(x, u)]) ∧
      (∀ (H : Hp) (a : Addr) (ns : List Int), ns.length ≤ n → L2.Only H → SqL K H a (ns.map V.int) → sp [.ref a] H (fun v _ => v = .bl true) fun _ _ _ => False) ∧ ∀ base : Heap, K.In base → base.Ns mainGlobals mg → FnOk l.prog w K mg base (L2.CX l.prog w) k fa fd [x] sp) :
    PySem.W.WalkO q loose XP YP l.row.toRowW r [] (fun f vs => PySem.call f vs) := by
  refine Att.attach_call hn hdf fun w s0 s1 mg mb fa o pm cd doc a vs ns G Y ho hd hcd hmg hobj hints hlen hg => ?_
  obtain ⟨K, fd, sp, k1, k2, k3, k4⟩ := F w mg fa _ Y G.T.g hmg
  refine law_call k1 G.T.g G.T.b G.T.builtins G.T.nolimit hg hobj hints (Nat.le_trans hlen hz) hr k4 k2 (fun H hO hS => k3 H a ns hlen hO hS) fun H e s' z => cx_false z
/-! ### the module's other names -/
def bltB (K : PySem.W.Frag) (x : Str) (id : String) : Bool := He.eqO (PySem.W.nsIn K mainGlobals x) (some (some (.builtin id)))
def excB (K : PySem.W.Frag) (D : Addr) : Bool :=
  He.eqO (PySem.W.findIn K (.ref D) "__getattribute__") (some (some (.builtin "BaseException.__getattribute__"))) && (He.eqO (PySem.W.findIn K (.ref D) "__getattr__") (some none) && (PySem.W.hasDictIn K D &&
  (He.eqO (PySem.W.findIn K (.ref D) "__class__") (some (some (.builtin "object.__class__"))) && (He.eqO (PySem.W.specialIn K (.builtin "object.__class__") "__get__") (some (some (.builtin "getset_descriptor.__get__"))) &&
  (decide (PySem.W.takesIn K (.builtin "object.__class__") = some true) && decide (PySem.W.mroIn K D (.type "object") = some true))))))
def exB (g : Gs) (K : PySem.W.Frag) (k : Nat) : Bool :=
  ((He.Fa.glo (exName k)).ok K && !(exName k == ("__debug__" : Str))) && ((He.Fa.exc (exName k)).ok K && (excB K (He.ga K (exName k)) &&
    (g.ex.all fun j => decide (PySem.W.kitOne K (.ref (He.ga K (exName k))) (.ref (He.ga K (exName j))) = some (isaX k j)) && (decide (j = 0) || decide (PySem.W.exmOne K (.ref (He.ga K (exName k))) (.ref (He.ga K (exName j))) = some (decide (k = j)))))))
def gsB (g : Gs) (K : PySem.W.Frag) : Bool :=
  (g.gi.all fun p => (He.Fa.int p.1 p.2).ok K && !(p.1 == ("__debug__" : Str))) && ((g.gb.all fun p => bltB K p.1 p.2 && !(p.1 == ("__debug__" : Str))) && g.ex.all (exB g K))
def cmOf (g : Gs) (K : PySem.W.Frag) : CM := fun k => if k ∈ g.ex then some (He.ga K (exName k)) else none
theorem gf_of {g : Gs} {K : PySem.W.Frag} {mg : Str → Option Value} {h : Heap} (KX : K.In h) (G : h.Ns mainGlobals mg) (c : gsB g K = true) : GF K mg (cmOf g K) g := by
  unfold gsB exB at c
  simp only [Bool.and_eq_true, List.all_eq_true, Bool.not_eq_true', decide_eq_true_eq, Bool.or_eq_true] at c
  obtain ⟨c1, c2, c3⟩ := c
  refine ⟨fun x n hx => ?_, fun x id hx => ?_, fun k => He.ga K (exName k), fun k hk => ?_, fun k hk j hj => ?_, fun k hk j hj h0 => ?_, fun k a e => ?_, fun k hk => ?_⟩
  · obtain ⟨k1, k2⟩ := c1 _ hx
    exact ⟨He.int_ok KX G k1, k2⟩
  · obtain ⟨k1, k2⟩ := c2 _ hx
    exact ⟨PySem.W.mg_of KX G (He.eqO_ok k1), k2⟩
  · obtain ⟨⟨k1, k2⟩, k3, k4, _⟩ := c3 k hk
    obtain ⟨e1, e2, e3, e4⟩ := He.exc_ok k3
    unfold excB at k4
    simp only [Bool.and_eq_true, decide_eq_true_eq] at k4
    obtain ⟨m1, m2, m3, m4, m5, m6, m7⟩ := k4
    exact ⟨He.glo_ok KX G k1, k2, ⟨e2, e1, e3, e4, ⟨He.eqO_ok m1, He.eqO_ok m2, e3, m3, He.eqO_ok m4, He.eqO_ok m5, m6, m7⟩⟩⟩
  · exact ((c3 k hk).2.2.2 j hj).1
  · exact ((c3 k hk).2.2.2 j hj).2.resolve_left h0
  · unfold cmOf at e
    split at e
    · rename_i hk
      cases e
      exact ⟨hk, rfl⟩
    · cases e
  · unfold cmOf
    rw [if_pos hk]
/-- THE END: the defs are good, the head tells of them, the law's value is True -/
theorem end_ok {l : PySem.W.OpenLaw} {n k : Nat} {q : Program} {loose : List Str} {XP : (Str → Option Value) → Heap → Prop} {r : DefRec} {fa : List He.Fa} {fn : List He.DefD} {m : Nat} {ds : List Df} {d : Df} (hn : l.most = some n) (hz : n ≤ sizeLine) (hdf : r.params.defaults = []) (hr : Room (k + 1) callerA)
    {gs : Gs} (good : ds.all (Df.good gs ds) = true) (nd : (ds.map (·.id)).Nodup) (hb : Al Bd ds) (hfn : ∀ d ∈ ds, dfd d ∈ fn) (hfa : ∀ d ∈ ds, He.Fa.glo d.name ∈ fa) (hfr : ∀ x ∈ blts, He.Fa.free x ∈ fa) (hd : d ∈ ds) (en : r.name = d.name) (eps : d.ps = [("script" : Str)]) (hpd : d.fn.pd = [0]) (hnp : d.fn.np = 1)
    (law : ∀ ns : List Int, ns.length ≤ n → ∃ M, callF (tabF ds) (k + 1) d.id [.frz ns] [] = .ok (.bl true) M) :
    PySem.W.WalkO q loose XP (fun w h => (He.hookX m fa fn [] [] (gsB gs)).says w h) l.row.toRowW r [] (fun f vs => PySem.call f vs) := by
  refine walk_x (k := k + 1) (x := "script") hn hz hdf hr fun w mg fl h Y G hmg => ?_
  obtain ⟨K, KX, cx⟩ := Y
  have c := cx.t.d
  have gf := gf_of KX G cx.more
  have kn := known KX G c hfn hfa hb
  have fr := frees KX G c hfr
  have gd : ∀ d ∈ ds, d.good gs ds = true := List.all_eq_true.mp good
  obtain ⟨fd, F⟩ := c.defs (hfn d hd)
  have e2 := He.glo_ok KX G (c.facts (hfa d hd))
  have e1 : mg d.name = some (.ref fl) := by rw [← en]; exact hmg
  have bb := FunD.bindsA F (hb.all d hd)
  refine ⟨K, fd, spF K (cmOf gs K) (callF (tabF ds) (k + 1)) d.id d.fn, KX, fun s v => ?_, fun H a ns hl hO hS => law_sp hpd hnp (Nat.le_trans hl hz) hO hS (law ns hl), fun base _ _ => ?_⟩
  · have := bb s [v] (by rw [eps]; rfl)
    rw [eps] at this
    exact this
  · have e3 : He.fAd K (dfd d).at_ = fl := by
      have z := e2.symm.trans e1
      cases z; rfl
    rw [e3] at F
    have T := step_ok nd gf gd fr (told_ok (P := l.prog) (w := w) (base := base) (cm := cmOf gs K) nd gf gd kn fr k) hd F
    rw [eps] at T
    exact T
end Mi
end MiR_

section MiS_
set_option linter.all false
set_option Elab.async false
/-! MiS: reckoning with callF: the rules that simp uses. -/
namespace Mi
open PySem L2

theorem call_of {tab : Nat → Option Fn} {f : Nat} {F : Fn} (h : tab f = some F) (d : Nat) (args : List W) (M : List W) (hn : args.length = F.np) : callF tab (d + 1) f args M = fin (execs (callF tab d) F.body (args.map some ++ List.replicate (F.ns - F.np) none) M) := by
  rw [callF, h]
  show (if args.length = F.np then _ else _) = _
  rw [if_pos hn]

/-! ### the small language, step by step -/
section
variable (cl : Nat → List W → List W → R W) (ρ : Env) (M : List W)
@[simp] theorem ev_non : ev cl .non ρ M = .ok .non M := rfl
@[simp] theorem ev_bl (b : Bool) : ev cl (.bl b) ρ M = .ok (.bl b) M := rfl
@[simp] theorem ev_int (b : Int) : ev cl (.int b) ρ M = .ok (.int b) M := rfl
@[simp] theorem ev_str (b : Str) : ev cl (.str b) ρ M = .ok (.str b) M := rfl
@[simp] theorem ev_var (i : Nat) : ev cl (.var i) ρ M = match ρ[i]? with
    | some (some w) => .ok w M
    | _ => .no := rfl
@[simp] theorem ev_tup (es : List E) : ev cl (.tup es) ρ M = (evs cl es ρ M).bind fun ws M => .ok (.tup ws) M := rfl
@[simp] theorem ev_lst (es : List E) : ev cl (.lst es) ρ M = (evs cl es ρ M).bind fun ws M => .ok (.lst ws) M := rfl
@[simp] theorem ev_dct (es : List E) : ev cl (.dct es) ρ M = (evs cl es ρ M).bind fun ws M => R.of ((dctOf [] ws).map .dct) M := rfl
@[simp] theorem ev_bin (o : Bop) (a b : E) : ev cl (.bin o a b) ρ M = (ev cl a ρ M).bind fun x M => (ev cl b ρ M).bind fun y M => R.of (binW o x y) M := rfl
@[simp] theorem ev_neg (a : E) : ev cl (.neg a) ρ M = (ev cl a ρ M).bind fun x M => match x with
    | .int i => .ok (.int (-i)) M
    | _ => .no := rfl
@[simp] theorem ev_cmp (o : Cop) (a b : E) : ev cl (.cmp o a b) ρ M = (ev cl a ρ M).bind fun x M => (ev cl b ρ M).bind fun y M => R.of ((cmpW o x y).map .bl) M := rfl
@[simp] theorem ev_cmp2 (o p : Cop) (a b c : E) : ev cl (.cmp2 o p a b c) ρ M = (ev cl a ρ M).bind fun x M => (ev cl b ρ M).bind fun y M => match cmpW o x y with
    | some true => (ev cl c ρ M).bind fun z M => R.of ((cmpW p y z).map .bl) M
    | some false => .ok (.bl false) M
    | none => .no := rfl
@[simp] theorem ev_not (a : E) : ev cl (.not a) ρ M = (ev cl a ρ M).bind fun x M => R.of ((truW x).map fun b => .bl (!b)) M := rfl
@[simp] theorem ev_and (a b : E) : ev cl (.and a b) ρ M = (ev cl a ρ M).bind fun x M => match truW x with
    | some true => ev cl b ρ M
    | some false => .ok x M
    | none => .no := rfl
@[simp] theorem ev_or (a b : E) : ev cl (.or a b) ρ M = (ev cl a ρ M).bind fun x M => match truW x with
    | some true => .ok x M
    | some false => ev cl b ρ M
    | none => .no := rfl
@[simp] theorem ev_ite (c : T) (a b : E) : ev cl (.ite c a b) ρ M = (evT cl c ρ M).bind fun x M => if x then ev cl a ρ M else ev cl b ρ M := rfl
@[simp] theorem ev_ix (a i : E) : ev cl (.ix a i) ρ M = (ev cl a ρ M).bind fun x M => (ev cl i ρ M).bind fun y M => match deref M x with
    | some x => R.of (ixW x y) M
    | none => .no := rfl
@[simp] theorem ev_sl (a : E) (lo hi : P) : ev cl (.sl a lo hi) ρ M = (ev cl a ρ M).bind fun x M => (evP cl lo ρ M).bind fun l M => (evP cl hi ρ M).bind fun h M => R.of (slW x l h) M := rfl
@[simp] theorem ev_call (f : Nat) (es : List E) : ev cl (.call f es) ρ M = (evs cl es ρ M).bind fun ws M => cl f ws M := rfl
@[simp] theorem ev_bi (b : Bi) (es : List E) : ev cl (.bi b es) ρ M = (evs cl es ρ M).bind fun ws M => R.of (biW b ws) M := rfl
@[simp] theorem ev_mt (m : Mt) (o : E) (es : List E) : ev cl (.mt m o es) ρ M = (ev cl o ρ M).bind fun x M => if recv m x then (evs cl es ρ M).bind fun ws M => R.of (mtW m (x :: ws)) M else .no := rfl
@[simp] theorem ev_lc' (elt : E) (t : Tg) (it : I) (cond : T) (own : List Nat) : ev cl (.lc elt t it cond own) ρ M = (evI cl it ρ M).bind fun ws M => (compL (turnL cl elt t cond own ρ) ws M).bind fun r M => .ok (.lst r) M := rfl
@[simp] theorem ev_share (a : E) : ev cl (.share a) ρ M = (ev cl a ρ M).bind fun x M => match x with
    | .dct _ => .ok (.loc M.length) (M ++ [x])
    | _ => .no := rfl
@[simp] theorem ev_dc' (k v : E) (t : Tg) (it : I) (cond : T) (own : List Nat) : ev cl (.dc k v t it cond own) ρ M = (evI cl it ρ M).bind fun ws M => (compD (turnD cl k v t cond own ρ) ws [] M).bind fun r M => .ok (.dct r) M := rfl
@[simp] theorem ev_isi (t : Ty) (a : E) : ev cl (.isi t a) ρ M = (ev cl a ρ M).bind fun x M => R.of (isiW t [x]) M := rfl
@[simp] theorem ev_gint (x : Str) (n : Int) : ev cl (.gint x n) ρ M = .ok (.int n) M := rfl
@[simp] theorem ev_rev (a : E) : ev cl (.rev a) ρ M = (ev cl a ρ M).bind fun x M => R.of (revW x) M := rfl
@[simp] theorem ev_dcp (a : E) : ev cl (.dcp a) ρ M = (ev cl a ρ M).bind fun x M => match x with
    | .dct kvs => if kvs.isEmpty = false ∧ (kvs.all fun p => p.1.flat) = true then .ok (.dct kvs) M else .no
    | _ => .no := rfl
@[simp] theorem ev_gcd (a b : E) : ev cl (.gcd a b) ρ M = (ev cl a ρ M).bind fun x M => (ev cl b ρ M).bind fun y M => R.of (gcdW x y) M := rfl
@[simp] theorem ev_keys (a : E) : ev cl (.keys a) ρ M = (ev cl a ρ M).bind fun x M => R.of (keysW x) M := rfl
@[simp] theorem ev_vals (a : E) : ev cl (.vals a) ρ M = (ev cl a ρ M).bind fun x M => R.of (valsW x) M := rfl
@[simp] theorem ev_items (a : E) : ev cl (.items a) ρ M = (ev cl a ρ M).bind fun x M => R.of (itemsW x) M := rfl
@[simp] theorem evs_nil : evs cl [] ρ M = .ok [] M := rfl
@[simp] theorem evs_cons (e : E) (es : List E) : evs cl (e :: es) ρ M = (ev cl e ρ M).bind fun w M => (evs cl es ρ M).bind fun ws M => .ok (w :: ws) M := rfl
@[simp] theorem evI_v (e : E) : evI cl (.v e) ρ M = (ev cl e ρ M).bind fun x M => R.of (items? x) M := rfl
@[simp] theorem evI_range (es : List E) : evI cl (.range es) ρ M = (evs cl es ρ M).bind fun ws M => R.of (rangeL ws) M := rfl
@[simp] theorem evI_enum (a : E) : evI cl (.enum a) ρ M = (ev cl a ρ M).bind fun x M => R.of ((seq? x).map (enumL 0)) M := rfl
@[simp] theorem evT_yes : evT cl .yes ρ M = .ok true M := rfl
@[simp] theorem evT_v (e : E) : evT cl (.v e) ρ M = (ev cl e ρ M).bind fun x M => R.of (truW x) M := rfl
@[simp] theorem evT_cmp (o : Cop) (a b : E) : evT cl (.cmp o a b) ρ M = (ev cl a ρ M).bind fun x M => (ev cl b ρ M).bind fun y M => R.of (cmpW o x y) M := rfl
@[simp] theorem evT_cmp2 (o p : Cop) (a b c : E) : evT cl (.cmp2 o p a b c) ρ M = (ev cl a ρ M).bind fun x M => (ev cl b ρ M).bind fun y M => match cmpW o x y with
    | some true => (ev cl c ρ M).bind fun z M => R.of (cmpW p y z) M
    | some false => .ok false M
    | none => .no := rfl
@[simp] theorem evT_not (a : T) : evT cl (.not a) ρ M = (evT cl a ρ M).bind fun b M => .ok (!b) M := rfl
@[simp] theorem evT_and (a b : T) : evT cl (.and a b) ρ M = (evT cl a ρ M).bind fun x M => if x then evT cl b ρ M else .ok false M := rfl
@[simp] theorem evT_or (a b : T) : evT cl (.or a b) ρ M = (evT cl a ρ M).bind fun x M => if x then .ok true M else evT cl b ρ M := rfl
@[simp] theorem evP_no : evP cl .no ρ M = .ok none M := rfl
@[simp] theorem evP_v (e : E) : evP cl (.v e) ρ M = (ev cl e ρ M).bind fun x M => R.of ((partW x).map some) M := rfl
@[simp] theorem ex_set (i : Nat) (g : Fg) (e : E) : exec cl (.set i g e) ρ M = (ev cl e ρ M).bind fun w M => if i < ρ.length then .ok (.nx, ρ.set i (some w)) M else .no := rfl
@[simp] theorem ex_setT (t : Tg) (e : E) : exec cl (.setT t e) ρ M = (ev cl e ρ M).bind fun w M => R.of ((bindT t w ρ).map fun ρ => (.nx, ρ)) M := rfl
@[simp] theorem ex_stx (i : Nat) (k v : E) : exec cl (.stx i k v) ρ M = (ev cl v ρ M).bind fun y M => match slot ρ i with
    | some x => (ev cl k ρ M).bind fun q M => R.of ((setW x q y).map fun z => (.nx, ρ.set i (some z))) M
    | none => .no := rfl
@[simp] theorem ex_stc (o k v : E) : exec cl (.stc o k v) ρ M = (ev cl v ρ M).bind fun y M => (ev cl o ρ M).bind fun x M => (ev cl k ρ M).bind fun q M => match x with
    | .loc n => match M[n]?.bind fun c => setW c q y with
      | some c => .ok (.nx, ρ) (M.set n c)
      | none => .no
    | _ => .no := rfl
@[simp] theorem ex_aug (i : Nat) (o : Bop) (e : E) : exec cl (.aug i o e) ρ M = match slot ρ i with
    | some x => (ev cl e ρ M).bind fun y M => R.of ((augW o x y).map fun z => (.nx, ρ.set i (some z))) M
    | none => .no := rfl
@[simp] theorem ex_app (i : Nat) (e : E) : exec cl (.app i e) ρ M = match slot ρ i with
    | some (.lst ws) => (ev cl e ρ M).bind fun w M => R.of ((appW (.lst ws) w).map fun z => (.nx, ρ.set i (some z))) M
    | _ => .no := rfl
@[simp] theorem ex_ext (i : Nat) (e : E) : exec cl (.ext i e) ρ M = match slot ρ i with
    | some (.lst ws) => (ev cl e ρ M).bind fun w M => R.of ((extW (.lst ws) w).map fun z => (.nx, ρ.set i (some z))) M
    | _ => .no := rfl
@[simp] theorem ex_pop (i : Nat) (e : E) : exec cl (.pop i e) ρ M = match slot ρ i with
    | some (.lst ws) => (ev cl e ρ M).bind fun w M => R.of ((popW (.lst ws) w).map fun z => (.nx, ρ.set i (some z.2))) M
    | _ => .no := rfl
@[simp] theorem ex_expr (e : E) : exec cl (.expr e) ρ M = (ev cl e ρ M).bind fun _ M => .ok (.nx, ρ) M := rfl
@[simp] theorem ex_ret (e : E) : exec cl (.ret e) ρ M = (ev cl e ρ M).bind fun w M => .ok (.rt w, ρ) M := rfl
@[simp] theorem ex_retv (i : Nat) : exec cl (.retv i) ρ M = R.of ((slot ρ i).map fun w => (.rt w, ρ)) M := rfl
@[simp] theorem ex_ifs (c : T) (a b : List S) : exec cl (.ifs c a b) ρ M = (evT cl c ρ M).bind fun k M => if k then execs cl a ρ M else execs cl b ρ M := rfl
@[simp] theorem ex_for (t : Tg) (it : I) (b : List S) (inv : List Fg) : exec cl (.forr t it b inv) ρ M = (evI cl it ρ M).bind fun ws M => forL (bodyF cl t b) ws ρ M := rfl
@[simp] theorem ex_lk (i : Nat) (s : S) : exec cl (.lk i s) ρ M = exec cl s ρ M := rfl
@[simp] theorem ex_fz (i : Nat) : exec cl (.fz i) ρ M = .ok (.nx, ρ) M := rfl
@[simp] theorem ex_brk : exec cl .brk ρ M = .ok (.bk, ρ) M := rfl
@[simp] theorem ex_cont : exec cl .cont ρ M = .ok (.ct, ρ) M := rfl
@[simp] theorem ex_pass : exec cl .pass ρ M = .ok (.nx, ρ) M := rfl
@[simp] theorem ex_wipe (is : List Nat) : exec cl (.wipe is) ρ M = .ok (.nx, wipeE ρ is) M := rfl
@[simp] theorem ex_raise (k : Nat) : exec cl (.raise k) ρ M = .ex ⟨k, none⟩ M := rfl
@[simp] theorem ex_par (is : List Nat) (es : List E) : exec cl (.par is es) ρ M = (evs cl es ρ M).bind fun ws M => if ws.length = is.length ∧ (is.all fun i => decide (i < ρ.length)) = true then .ok (.nx, setAll ρ is ws) M else .no := rfl
@[simp] theorem ex_rem (i : Nat) (e : E) : exec cl (.rem i e) ρ M = match slot ρ i with
    | some (.lst ws) => (ev cl e ρ M).bind fun w M => R.of ((remW ws w).map fun z => (.nx, ρ.set i (some z))) M
    | _ => .no := rfl
@[simp] theorem ex_augx (i : Nat) (o : Bop) (k e : E) : exec cl (.augx i o k e) ρ M = match slot ρ i with
    | some x => if x.box then (ev cl k ρ M).bind fun q M => match ixW x q with
        | some y => (ev cl e ρ M).bind fun z M => R.of ((augW o y z).bind fun y => (setW x q y).map fun z => (.nx, ρ.set i (some z))) M
        | none => .no
      else .no
    | none => .no := rfl
@[simp] theorem ex_popv (i j : Nat) (e : E) : exec cl (.popv i j e) ρ M = match slot ρ j with
    | some (.lst ws) => if i = j ∨ ¬ i < ρ.length then .no else (ev cl e ρ M).bind fun w M => R.of ((popW (.lst ws) w).map fun z => (.nx, (ρ.set j (some z.2)).set i (some z.1))) M
    | _ => .no := rfl
@[simp] theorem ex_apop (i j : Nat) (e : E) : exec cl (.apop i j e) ρ M = match slot ρ i, slot ρ j with
    | some (.lst us), some (.lst ws) => if i = j then .no else (ev cl e ρ M).bind fun w M => match popW (.lst ws) w with
      | some (y, z) => R.of ((appW (.lst us) y).map fun u => (.nx, (ρ.set j (some z)).set i (some u))) M
      | none => .no
    | _, _ => .no := rfl
@[simp] theorem ex_sda (i : Nat) (k v : E) : exec cl (.sda i k v) ρ M = match slot ρ i with
    | some (.dct kvs) => (ev cl k ρ M).bind fun q M => match q.key? with
      | some ky => if (kvs.all fun p => p.1.flat) = true ∧ ky.flat = true ∧ kvs.length < sizeLine then
          match (setdJ kvs ky).1[(setdJ kvs ky).2]? with
          | some (_, .lst ws) => (ev cl v (ρ.set i (some (.dct (setdJ kvs ky).1))) M).bind fun y M => R.of ((appW (.lst ws) y).map fun z => (.nx, ρ.set i (some (.dct ((setdJ kvs ky).1.set (setdJ kvs ky).2 (ky, z)))))) M
          | _ => .no
        else .no
      | none => .no
    | _ => .no := rfl
theorem ex_tri (s : S) (bs : List S) (hs : List (Nat × Option Hx)) : exec cl (.tri s bs hs) ρ M = match exec cl s ρ M with
    | .ok (.nx, ρ') M' => R.calm (execs cl bs ρ' M')
    | .ok (.bk, ρ') M' => .ok (.bk, ρ') M'
    | .ok (.ct, ρ') M' => .ok (.ct, ρ') M'
    | .ok (.rt v, ρ') M' => .ok (.rt v, ρ') M'
    | .ex x M' => match findH hs x.cls with
      | none => .ex x M'
      | some none => .ok (.nx, ρ) M'
      | some (some v) => .ok (.rt (v.val x.cls).w, ρ) M'
    | .no => .no := rfl
theorem ex_whil (c : T) (b : List S) (inv : List Fg) : exec cl (.whil c b inv) ρ M = whileL (evT cl c) (fun ρ M => execs cl b ρ M) ρ M := rfl
@[simp] theorem exs_nil : execs cl [] ρ M = .ok (.nx, ρ) M := rfl
@[simp] theorem exs_cons (s : S) (ss : List S) : execs cl (s :: ss) ρ M = (exec cl s ρ M).bind fun r M => match r with
    | (.nx, ρ) => execs cl ss ρ M
    | (.bk, ρ) => .ok (.bk, ρ) M
    | (.ct, ρ) => .ok (.ct, ρ) M
    | (.rt v, ρ) => .ok (.rt v, ρ) M := rfl
end
@[simp] theorem bindT_nm (i : Nat) (w : W) (ρ : Env) : bindT (.nm i) w ρ = if i < ρ.length then some (ρ.set i (some w)) else none := rfl
@[simp] theorem bindT_tp (ts : List Tg) (ws : List W) (ρ : Env) : bindT (.tp ts) (.tup ws) ρ = bindTs ts ws ρ := rfl
@[simp] theorem bindTs_nil (ρ : Env) : bindTs [] [] ρ = some ρ := rfl
@[simp] theorem bindTs_cons (t : Tg) (ts : List Tg) (w : W) (ws : List W) (ρ : Env) : bindTs (t :: ts) (w :: ws) ρ = match bindT t w ρ with
    | some ρ => bindTs ts ws ρ
    | none => none := rfl
@[simp] theorem wipeE_nil (ρ : Env) : wipeE ρ [] = ρ := rfl
@[simp] theorem wipeE_cons (ρ : Env) (v : Nat) (vs : List Nat) : wipeE ρ (v :: vs) = (wipeE ρ vs).set v none := rfl

/-! ### values -/
@[simp] theorem binW_add (x y : W) : binW .add x y = addW x y := rfl
@[simp] theorem binW_sub (x y : W) : binW .sub x y = subW x y := rfl
@[simp] theorem binW_mul (x y : W) : binW .mul x y = mulW x y := rfl
@[simp] theorem binW_fdiv (x y : W) : binW .fdiv x y = fdivW x y := rfl
@[simp] theorem binW_mod (x y : W) : binW .mod x y = modW x y := rfl
@[simp] theorem binW_pow (x y : W) : binW .pow x y = powW x y := rfl
@[simp] theorem addW_int (i j : Int) : addW (.int i) (.int j) = some (.int (i + j)) := rfl
@[simp] theorem addW_str (i j : Str) : addW (.str i) (.str j) = if i.length + j.length ≤ sizeLine then some (.str (i ++ j)) else none := rfl
@[simp] theorem addW_lst (i j : List W) : addW (.lst i) (.lst j) = if i.length + j.length ≤ sizeLine then some (.lst (i ++ j)) else none := rfl
@[simp] theorem addW_tup (i j : List W) : addW (.tup i) (.tup j) = if i.length + j.length ≤ sizeLine then some (.tup (i ++ j)) else none := rfl
@[simp] theorem subW_int (i j : Int) : subW (.int i) (.int j) = some (.int (i - j)) := rfl
theorem mulW_l (i j : Int) (h : -(2 ^ 64) < i ∧ i < 2 ^ 64) : mulW (.int i) (.int j) = some (.int (i * j)) := by
  show (if mulOk i j then _ else _) = _
  rw [if_pos (.inl h)]
theorem mulW_r (i j : Int) (h : -(2 ^ 64) < j ∧ j < 2 ^ 64) : mulW (.int i) (.int j) = some (.int (i * j)) := by
  show (if mulOk i j then _ else _) = _
  rw [if_pos (.inr h)]
theorem fdivW_pos (i j : Int) (h : 0 < j) (h2 : j < 2 ^ 64) : fdivW (.int i) (.int j) = some (.int (i / j)) := by
  show (if 0 < j then (if j.natAbs.log2 < 9000 then _ else _) else _) = _
  rw [if_pos h, if_pos]
  by_cases hz : j.natAbs = 0
  · omega
  · exact Nat.lt_trans ((Nat.log2_lt hz).mpr (show j.natAbs < 2 ^ 64 by omega)) (by decide)
theorem modW_pos (i j : Int) (h : 0 < j) : modW (.int i) (.int j) = some (.int (i % j)) := by
  show (if 0 < j then _ else _) = _
  rw [if_pos h]
@[simp] theorem deref_loc (M : List W) (n : Nat) : deref M (.loc n) = M[n]? := rfl
@[simp] theorem deref_tup (M : List W) (n : List W) : deref M (.tup n) = some (.tup n) := rfl
@[simp] theorem deref_lst (M : List W) (n : List W) : deref M (.lst n) = some (.lst n) := rfl
@[simp] theorem deref_str (M : List W) (n : Str) : deref M (.str n) = some (.str n) := rfl
@[simp] theorem deref_dct (M : List W) (n : List (Ky × W)) : deref M (.dct n) = some (.dct n) := rfl
@[simp] theorem deref_int (M : List W) (n : Int) : deref M (.int n) = some (.int n) := rfl
@[simp] theorem ixW_lst (ws : List W) (i : Int) : ixW (.lst ws) (.int i) = atI ws i := rfl
@[simp] theorem ixW_tup (ws : List W) (i : Int) : ixW (.tup ws) (.int i) = atI ws i := rfl
@[simp] theorem ixW_str (x : Str) (i : Int) : ixW (.str x) (.int i) = (atI x.cps.toList i).map fun c => .str ⟨#[c]⟩ := rfl
@[simp] theorem ixW_dct (kvs : List (Ky × W)) (k : W) : ixW (.dct kvs) k = match k.key? with
    | some k => if (kvs.all fun p => p.1.flat == k.flat) then getK kvs k else none
    | none => none := by cases k <;> rfl
@[simp] theorem key_int (i : Int) : W.key? (.int i) = some (.i i) := rfl
@[simp] theorem key_str (i : Str) : W.key? (.str i) = some (.s i) := rfl
@[simp] theorem flat_i (i : Int) : Ky.flat (.i i) = true := rfl
@[simp] theorem flat_s (i : Str) : Ky.flat (.s i) = true := rfl
@[simp] theorem flat_t (i : List L2.Key) : Ky.flat (.t i) = false := rfl
@[simp] theorem slW_lst (ws : List W) (lo hi : Option Int) : slW (.lst ws) lo hi = some (.lst (cut ws lo hi)) := rfl
@[simp] theorem slW_tup (ws : List W) (lo hi : Option Int) : slW (.tup ws) lo hi = some (.tup (cut ws lo hi)) := rfl
@[simp] theorem partW_int (i : Int) : partW (.int i) = some i := rfl
@[simp] theorem setW_lst (ws : List W) (k : Int) (v : W) : setW (.lst ws) (.int k) v = (ixN ws.length k).map fun j => .lst (ws.set j v) := rfl
@[simp] theorem setW_dct (kvs : List (Ky × W)) (k v : W) : setW (.dct kvs) k v = match k.key? with
    | some k => if (kvs.all fun p => p.1.flat == k.flat) ∧ kvs.length < sizeLine then some (.dct (putK kvs k v)) else none
    | none => none := by cases k <;> rfl
@[simp] theorem biW_len (x : List W) : biW .len x = lenW x := rfl
@[simp] theorem biW_int (x : List W) : biW .int x = intW x := rfl
@[simp] theorem biW_tuple (x : List W) : biW .tuple x = tupleW x := rfl
@[simp] theorem biW_list (x : List W) : biW .list x = listW x := rfl
@[simp] theorem biW_sum (x : List W) : biW .sum x = sumW x := rfl
@[simp] theorem biW_any (x : List W) : biW .any x = anyW x := rfl
@[simp] theorem biW_all (x : List W) : biW .all x = allW x := rfl
@[simp] theorem biW_max (x : List W) : biW .max x = maxW x := rfl
@[simp] theorem biW_min (x : List W) : biW .min x = minW x := rfl
@[simp] theorem biW_sorted (x : List W) : biW .sorted x = sortedW x := rfl
@[simp] theorem biW_abs (x : List W) : biW .abs x = absW x := rfl
@[simp] theorem lenW_str (x : Str) : lenW [.str x] = some (.int x.length) := rfl
@[simp] theorem lenW_lst (x : List W) : lenW [.lst x] = some (.int x.length) := rfl
@[simp] theorem lenW_tup (x : List W) : lenW [.tup x] = some (.int x.length) := rfl
@[simp] theorem intW_int (x : Int) : intW [.int x] = some (.int x) := rfl
@[simp] theorem intW_bl (x : Bool) : intW [.bl x] = some (.int (if x then 1 else 0)) := rfl
@[simp] theorem tupleW_lst (x : List W) : tupleW [.lst x] = some (.tup x) := rfl
@[simp] theorem tupleW_tup (x : List W) : tupleW [.tup x] = some (.tup x) := rfl
@[simp] theorem listW_lst (x : List W) : listW [.lst x] = some (.lst x) := rfl
@[simp] theorem listW_tup (x : List W) : listW [.tup x] = some (.lst x) := rfl
@[simp] theorem maxW_two (i j : Int) : maxW [.int i, .int j] = some (.int (if j > i then j else i)) := rfl
@[simp] theorem minW_two (i j : Int) : minW [.int i, .int j] = some (.int (if j < i then j else i)) := rfl
theorem ints_map (l : List Int) : ints? (l.map W.int) = some l := by
  induction l with
  | nil => rfl
  | cons a l ih => simp [ints?, ih]
theorem bls_map (l : List Bool) : bls? (l.map W.bl) = some l := by
  induction l with
  | nil => rfl
  | cons a l ih => simp [bls?, ih]
theorem strs_map (l : List Str) : strs? (l.map W.str) = some l := by
  induction l with
  | nil => rfl
  | cons a l ih => simp [strs?, ih]
@[simp] theorem sumW_ints (l : List Int) : sumW [.lst (l.map W.int)] = some (.int l.sum) := by simp [sumW, ints_map]
@[simp] theorem sumW_intsT (l : List Int) : sumW [.tup (l.map W.int)] = some (.int l.sum) := by simp [sumW, ints_map]
@[simp] theorem allW_bls (l : List Bool) : allW [.lst (l.map W.bl)] = some (.bl (l.all id)) := by simp [allW, bls_map]
@[simp] theorem anyW_bls (l : List Bool) : anyW [.lst (l.map W.bl)] = some (.bl (l.any id)) := by simp [anyW, bls_map]
@[simp] theorem cmpW_eq (x y : W) : cmpW .eq x y = eqW x y := rfl
@[simp] theorem cmpW_ne (x y : W) : cmpW .ne x y = (eqW x y).map (!·) := rfl
@[simp] theorem cmpW_lt (x y : W) : cmpW .lt x y = ltW x y := rfl
@[simp] theorem cmpW_le (x y : W) : cmpW .le x y = leW x y := rfl
@[simp] theorem cmpW_gt (x y : W) : cmpW .gt x y = ltW y x := rfl
@[simp] theorem cmpW_ge (x y : W) : cmpW .ge x y = leW y x := rfl
@[simp] theorem cmpW_is (x y : W) : cmpW .is x y = isW x y := rfl
@[simp] theorem cmpW_isn (x y : W) : cmpW .isn x y = (isW x y).map (!·) := rfl
@[simp] theorem cmpW_inn (x y : W) : cmpW .inn x y = inW x y := rfl
@[simp] theorem cmpW_nin (x y : W) : cmpW .nin x y = (inW x y).map (!·) := rfl
@[simp] theorem ltW_int (i j : Int) : ltW (.int i) (.int j) = some (decide (i < j)) := rfl
@[simp] theorem leW_int (i j : Int) : leW (.int i) (.int j) = some (decide (i ≤ j)) := rfl
@[simp] theorem eqW_int (i j : Int) : eqW (.int i) (.int j) = some (i == j) := by simp [eqW, W.depth, weq]
@[simp] theorem eqW_str (i j : Str) : eqW (.str i) (.str j) = some (i == j) := by simp [eqW, W.depth, weq]
@[simp] theorem isW_non : isW .non .non = some true := rfl
@[simp] theorem isW_int (i : Int) : isW (.int i) .non = some false := rfl
@[simp] theorem truW_bl (b : Bool) : truW (.bl b) = some b := rfl
@[simp] theorem truW_int (b : Int) : truW (.int b) = some (b != 0) := rfl
@[simp] theorem truW_lst (b : List W) : truW (.lst b) = some (!b.isEmpty) := rfl
@[simp] theorem truW_tup (b : List W) : truW (.tup b) = some (!b.isEmpty) := rfl
@[simp] theorem truW_non : truW .non = some false := rfl
@[simp] theorem items_lst (ws : List W) : items? (.lst ws) = some ws := rfl
@[simp] theorem items_tup (ws : List W) : items? (.tup ws) = some ws := rfl
@[simp] theorem items_frz (ws : List Int) : items? (.frz ws) = some (ws.map .int) := rfl
@[simp] theorem seq_lst (ws : List W) : seq? (.lst ws) = some ws := rfl
@[simp] theorem seq_tup (ws : List W) : seq? (.tup ws) = some ws := rfl
theorem range_one (n : Int) (h : -(2 ^ 62) ≤ n ∧ n ≤ sizeLine) : rangeL [.int n] = some ((List.range n.toNat).map fun k : Nat => .int k) := by
  show (if _ then _ else _) = _
  rw [if_pos h]
@[simp] theorem mtW_get (x : List W) : mtW .get x = getW x := rfl
@[simp] theorem mtW_index (x : List W) : mtW .index x = indexW x := rfl
@[simp] theorem mtW_join (x : List W) : mtW .join x = joinW x := rfl
@[simp] theorem mtW_split (x : List W) : mtW .split x = splitW x := rfl
@[simp] theorem recv_get (x : List (Ky × W)) : recv .get (.dct x) = true := rfl
@[simp] theorem recv_index (x : List W) : recv .index (.lst x) = true := rfl
@[simp] theorem recv_join (x : Str) : recv .join (.str x) = true := rfl
@[simp] theorem recv_split (x : Str) : recv .split (.str x) = true := rfl
@[simp] theorem getW_dct (kvs : List (Ky × W)) (k d : W) : getW [.dct kvs, k, d] = match k.key? with
    | some k => if (kvs.all fun p => p.1.flat == k.flat) then some ((getK kvs k).getD d) else none
    | none => none := rfl
@[simp] theorem augW_int (i j : Int) : augW .add (.int i) (.int j) = some (.int (i + j)) := rfl
@[simp] theorem appW_lst (a : List W) (v : W) : appW (.lst a) v = if a.length < sizeLine then some (.lst (a ++ [v])) else none := rfl
@[simp] theorem extW_lst (a b : List W) : extW (.lst a) (.lst b) = if a.length + b.length ≤ sizeLine then some (.lst (a ++ b)) else none := rfl
@[simp] theorem of_map_bl (o : Option Bool) (M : List W) : (R.of (o.map W.bl) M) = match o with
    | some b => .ok (.bl b) M
    | none => .no := by cases o <;> rfl
@[simp] theorem slot_of (ρ : Env) (i : Nat) : slot ρ i = match ρ[i]? with
  | some (some w) => some w
  | _ => none := rfl

/-! ### lists -/
theorem atI_lt {α : Type} {xs : List α} {k : Int} (h0 : 0 ≤ k) (h : k < xs.length) : atI xs k = some (xs[k.toNat]'(by omega)) := by
  unfold atI ixN
  rw [if_pos h0, if_pos (by omega)]
  simp
theorem atI_nat {α : Type} {xs : List α} {k : Nat} : atI xs (k : Int) = xs[k]? := by
  unfold atI ixN
  rw [if_pos (by omega)]
  by_cases h : k < xs.length
  · rw [if_pos (by omega)]; simp
  · rw [if_neg (by omega), List.getElem?_eq_none (by omega)]; rfl
@[simp] theorem atI_zero {α : Type} (x : α) (xs : List α) : atI (x :: xs) 0 = some x := by
  have := @atI_nat α (x :: xs) 0
  simpa using this
@[simp] theorem atI_one {α : Type} (x y : α) (xs : List α) : atI (x :: y :: xs) 1 = some y := by
  have := @atI_nat α (x :: y :: xs) 1
  simpa using this
@[simp] theorem atI_two {α : Type} (x y z : α) (xs : List α) : atI (x :: y :: z :: xs) 2 = some z := by
  have := @atI_nat α (x :: y :: z :: xs) 2
  simpa using this
@[simp] theorem atI_three {α : Type} (x y z u : α) (xs : List α) : atI (x :: y :: z :: u :: xs) 3 = some u := by
  have := @atI_nat α (x :: y :: z :: u :: xs) 3
  simpa using this
@[simp] theorem atI_four {α : Type} (x y z u v : α) (xs : List α) : atI (x :: y :: z :: u :: v :: xs) 4 = some v := by
  have := @atI_nat α (x :: y :: z :: u :: v :: xs) 4
  simpa using this

/-! ### turns -/
/-- a comprehension of turns that change nothing -/
theorem compL_pure {α : Type} {f : W → List W → R (Option W)} {M : List W} {e : α → W} {g : α → Option W} : ∀ (xs : List α), (∀ x ∈ xs, f (e x) M = .ok (g x) M) → compL f (xs.map e) M = .ok (xs.filterMap g) M
  | [], _ => rfl
  | x :: xs, h => by
    have ih := compL_pure (e := e) xs fun y hy => h y (List.mem_cons_of_mem _ hy)
    rw [List.map_cons]
    unfold compL
    rw [h x List.mem_cons_self, R.bind_ok, ih, R.bind_ok, List.filterMap_cons]
    cases g x <;> rfl
/-- .. of turns that keep P of the store -/
theorem compL_inv {α β : Type} {f : W → List W → R (Option W)} {e : α → W} {e' : β → W} {P : List W → Prop} {Q : α → β → Prop} : ∀ (xs : List α) (M : List W), P M → (∀ x ∈ xs, ∀ M, P M → ∃ y M', f (e x) M = .ok (some (e' y)) M' ∧ P M' ∧ Q x y) →
    ∃ (ys : List β) (M' : List W), compL f (xs.map e) M = .ok (ys.map e') M' ∧ P M' ∧ ys.length = xs.length ∧ ∀ y ∈ ys, ∃ x ∈ xs, Q x y
  | [], M, hM, _ => ⟨[], M, rfl, hM, rfl, fun _ h => nomatch h⟩
  | x :: xs, M, hM, h => by
    obtain ⟨y, M1, e1, p1, q1⟩ := h x List.mem_cons_self M hM
    obtain ⟨ys, M2, e2, p2, l2, q2⟩ := compL_inv xs M1 p1 fun z hz => h z (List.mem_cons_of_mem _ hz)
    refine ⟨y :: ys, M2, ?_, p2, by simp [l2], fun z hz => ?_⟩
    · rw [List.map_cons]
      unfold compL
      rw [e1, R.bind_ok, e2]; rfl
    · rcases List.mem_cons.mp hz with rfl | hz
      · exact ⟨x, List.mem_cons_self, q1⟩
      · obtain ⟨x', hx, q⟩ := q2 z hz
        exact ⟨x', List.mem_cons_of_mem _ hx, q⟩
theorem forL_nx {f : W → Env → List W → R (Fl × Env)} {w : W} {ws : List W} {ρ ρ' : Env} {M M' : List W} (h : f w ρ M = .ok (.nx, ρ') M') : forL f (w :: ws) ρ M = forL f ws ρ' M' := by
  rw [forL, h]; rfl
theorem forL_rt {f : W → Env → List W → R (Fl × Env)} {w v : W} {ws : List W} {ρ ρ' : Env} {M M' : List W} (h : f w ρ M = .ok (.rt v, ρ') M') : forL f (w :: ws) ρ M = .ok (.rt v, ρ') M' := by
  rw [forL, h]; rfl
/-- a for by an invariant: what has been walked, the slots, the store -/
theorem forL_inv' {α : Type} {f : W → Env → List W → R (Fl × Env)} {e : α → W} (I : List α → Env → List W → Prop) (all : List α) (k : ∀ done x rest ρ M, all = done ++ x :: rest → I done ρ M → ∃ ρ' M', f (e x) ρ M = .ok (.nx, ρ') M' ∧ I (done ++ [x]) ρ' M') :
    ∀ (xs done : List α) (ρ : Env) (M : List W), all = done ++ xs → I done ρ M → ∃ ρ' M', forL f (xs.map e) ρ M = .ok (.nx, ρ') M' ∧ I all ρ' M'
  | [], done, ρ, M, h, i => ⟨ρ, M, rfl, by rw [h, List.append_nil]; exact i⟩
  | x :: xs, done, ρ, M, h, i => by
    obtain ⟨ρ1, M1, e1, h1⟩ := k done x xs ρ M h i
    obtain ⟨ρ2, M2, e2, h2⟩ := forL_inv' I all k xs (done ++ [x]) ρ1 M1 (by rw [h]; simp) h1
    refine ⟨ρ2, M2, ?_, h2⟩
    rw [List.map_cons]
    unfold forL
    rw [e1, R.bind_ok]
    exact e2
theorem forL_inv {α : Type} {f : W → Env → List W → R (Fl × Env)} {e : α → W} (I : List α → Env → List W → Prop) (all : List α) {ρ : Env} {M : List W} (h : I [] ρ M) (k : ∀ done x rest ρ M, all = done ++ x :: rest → I done ρ M → ∃ ρ' M', f (e x) ρ M = .ok (.nx, ρ') M' ∧ I (done ++ [x]) ρ' M') :
    ∃ ρ' M', forL f (all.map e) ρ M = .ok (.nx, ρ') M' ∧ I all ρ' M' := forL_inv' I all k all [] ρ M rfl h
/-- .. that may stop ahead of its end: by a break, or by a return -/
theorem forL_stop' {α : Type} {f : W → Env → List W → R (Fl × Env)} {e : α → W} (I : List α → Env → List W → Prop) (P : Env → List W → Prop) (Q : W → List W → Prop) (all : List α)
    (k : ∀ done x rest ρ M, all = done ++ x :: rest → I done ρ M → (∃ ρ' M', f (e x) ρ M = .ok (.nx, ρ') M' ∧ I (done ++ [x]) ρ' M') ∨ (∃ ρ' M', f (e x) ρ M = .ok (.bk, ρ') M' ∧ P ρ' M') ∨ ∃ v ρ' M', f (e x) ρ M = .ok (.rt v, ρ') M' ∧ Q v M') (hP : ∀ ρ M, I all ρ M → P ρ M) :
    ∀ (xs done : List α) (ρ : Env) (M : List W), all = done ++ xs → I done ρ M → (∃ ρ' M', forL f (xs.map e) ρ M = .ok (.nx, ρ') M' ∧ P ρ' M') ∨ ∃ v ρ' M', forL f (xs.map e) ρ M = .ok (.rt v, ρ') M' ∧ Q v M'
  | [], done, ρ, M, h, i => .inl ⟨ρ, M, rfl, hP _ _ (by rw [h, List.append_nil]; exact i)⟩
  | x :: xs, done, ρ, M, h, i => by
    rw [List.map_cons]
    unfold forL
    rcases k done x xs ρ M h i with ⟨ρ1, M1, e1, h1⟩ | ⟨ρ1, M1, e1, h1⟩ | ⟨v, ρ1, M1, e1, h1⟩
    · rw [e1, R.bind_ok]
      exact forL_stop' I P Q all k hP xs (done ++ [x]) ρ1 M1 (by rw [h]; simp) h1
    · rw [e1]; exact .inl ⟨ρ1, M1, rfl, h1⟩
    · rw [e1]; exact .inr ⟨v, ρ1, M1, rfl, h1⟩
theorem forL_stop {α : Type} {f : W → Env → List W → R (Fl × Env)} {e : α → W} (I : List α → Env → List W → Prop) (P : Env → List W → Prop) (Q : W → List W → Prop) (all : List α) {ρ : Env} {M : List W} (h : I [] ρ M)
    (k : ∀ done x rest ρ M, all = done ++ x :: rest → I done ρ M → (∃ ρ' M', f (e x) ρ M = .ok (.nx, ρ') M' ∧ I (done ++ [x]) ρ' M') ∨ (∃ ρ' M', f (e x) ρ M = .ok (.bk, ρ') M' ∧ P ρ' M') ∨ ∃ v ρ' M', f (e x) ρ M = .ok (.rt v, ρ') M' ∧ Q v M') (hP : ∀ ρ M, I all ρ M → P ρ M) :
    (∃ ρ' M', forL f (all.map e) ρ M = .ok (.nx, ρ') M' ∧ P ρ' M') ∨ ∃ v ρ' M', forL f (all.map e) ρ M = .ok (.rt v, ρ') M' ∧ Q v M' := forL_stop' I P Q all k hP all [] ρ M rfl h
/-! ### whiles -/
theorem while_eq (t : Env → List W → R Bool) (b : Env → List W → R (Fl × Env)) (ρ : Env) (M : List W) : whileL t b ρ M = match t ρ M with
    | .no => .no
    | .ex x M => .ex x M
    | .ok false M => .ok (.nx, ρ) M
    | .ok true M => match b ρ M with
      | .no => .no
      | .ex x M => .ex x M
      | .ok (.nx, ρ) M => whileL t b ρ M
      | .ok (.ct, ρ) M => whileL t b ρ M
      | .ok (.bk, ρ) M => .ok (.nx, ρ) M
      | .ok (.rt v, ρ) M => .ok (.rt v, ρ) M := by
  unfold whileL
  rw [loop_eq]
  unfold turn
  cases t ρ M with
  | no => rfl
  | ex x M => rfl
  | ok c M =>
    cases c with
    | false => rfl
    | true =>
      simp only
      cases b ρ M with
      | no => rfl
      | ex x M => rfl
      | ok r M =>
        obtain ⟨f, ρ'⟩ := r
        cases f <;> rfl
theorem while_stop {t : Env → List W → R Bool} {b : Env → List W → R (Fl × Env)} {ρ : Env} {M M' : List W} (h : t ρ M = .ok false M') : whileL t b ρ M = .ok (.nx, ρ) M' := by rw [while_eq, h]
theorem while_nx {t : Env → List W → R Bool} {b : Env → List W → R (Fl × Env)} {ρ ρ' : Env} {M M1 M' : List W} (h : t ρ M = .ok true M1) (k : b ρ M1 = .ok (.nx, ρ') M') : whileL t b ρ M = whileL t b ρ' M' := by
  rw [while_eq, h]; simp only; rw [k]
theorem while_rt {t : Env → List W → R Bool} {b : Env → List W → R (Fl × Env)} {ρ ρ' : Env} {M M1 M' : List W} {v : W} (h : t ρ M = .ok true M1) (k : b ρ M1 = .ok (.rt v, ρ') M') : whileL t b ρ M = .ok (.rt v, ρ') M' := by
  rw [while_eq, h]; simp only; rw [k]
/-! ### folds -/
theorem forL_fold {α β : Type} {f : W → Env → List W → R (Fl × Env)} {e : α → W} {enc : β → Env} {step : β → α → β} {M : List W} : ∀ (xs : List α) (b : β), (∀ b x, x ∈ xs → f (e x) (enc b) M = .ok (.nx, enc (step b x)) M) → forL f (xs.map e) (enc b) M = .ok (.nx, enc (xs.foldl step b)) M
  | [], _, _ => rfl
  | x :: xs, b, h => by
    rw [List.map_cons, forL_nx (h b x List.mem_cons_self), List.foldl_cons]
    exact forL_fold xs (step b x) fun b y hy => h b y (List.mem_cons_of_mem _ hy)
/-- a for that looks until something is found -/
theorem forL_all {α : Type} {f : W → Env → List W → R (Fl × Env)} {e : α → W} {ρ : Env} {M : List W} : ∀ (xs : List α), (∀ x ∈ xs, f (e x) ρ M = .ok (.nx, ρ) M) → forL f (xs.map e) ρ M = .ok (.nx, ρ) M
  | [], _ => rfl
  | x :: xs, h => by
    rw [List.map_cons, forL_nx (h x List.mem_cons_self)]
    exact forL_all xs fun y hy => h y (List.mem_cons_of_mem _ hy)
theorem compD_pure {α : Type} {f : W → List W → R (Option (Ky × W))} {M : List W} {e : α → W} {g : α → Option (Ky × W)} : ∀ (xs : List α) (acc : List (Ky × W)), (∀ x ∈ xs, f (e x) M = .ok (g x) M) → (∀ p ∈ acc, p.1.flat = true) → (∀ x ∈ xs, ∀ p, g x = some p → p.1.flat = true) →
    compD f (xs.map e) acc M = .ok ((xs.filterMap g).foldl (fun a p => putK a p.1 p.2) acc) M
  | [], _, _, _, _ => rfl
  | x :: xs, acc, h, ha, hg => by
    rw [List.map_cons]
    unfold compD
    rw [h x List.mem_cons_self, R.bind_ok]
    cases hx : g x with
    | none =>
      simp only
      rw [List.filterMap_cons, hx]
      exact compD_pure xs acc (fun y hy => h y (List.mem_cons_of_mem _ hy)) ha fun y hy => hg y (List.mem_cons_of_mem _ hy)
    | some p =>
      obtain ⟨k, v⟩ := p
      have hk := hg x List.mem_cons_self _ hx
      simp only
      rw [if_pos (List.all_eq_true.mpr fun p hp => by simp [ha p hp, hk]), List.filterMap_cons, hx, List.foldl_cons]
      refine compD_pure xs (putK acc k v) (fun y hy => h y (List.mem_cons_of_mem _ hy)) (fun p hp => ?_) fun y hy => hg y (List.mem_cons_of_mem _ hy)
      unfold putK at hp
      split at hp
      · obtain ⟨q, hq, e⟩ := List.mem_map.mp hp
        have := ha q hq
        split at e <;> (subst e; exact this)
      · rcases List.mem_append.mp hp with hp | hp
        · exact ha p hp
        · rw [List.mem_singleton.mp hp]; exact hk
end Mi
end MiS_

section Sh0_
set_option linter.all false
set_option Elab.async false
/-! Sh0: bodies of helpers that many laws share. -/
namespace Mi
open PySem L2
def F26_names_of : Fn := ⟨1, 2, [0], .t 0,
  [.ret (.lc (.ix (.var 1) (.int 0)) (.nm 1) (.v (.ix (.var 0) (.int 0))) .yes [1])]⟩
def F27_ties_of : Fn := ⟨1, 8, [0], .t 0,
  [.set 1 .pl (.lc (.tup [(.tup [(.str "part"), (.var 2)]), (.var 3), (.var 4), (.var 5)]) (.tp [(.nm 2), (.nm 3), (.nm 4), (.nm 5), (.nm 6)]) (.v (.ix (.var 0) (.int 1))) .yes [2, 3, 4, 5, 6]),
  .set 7 (.ow 1) (.lst []),
  .forr (.tp [(.nm 2), (.nm 3), (.nm 4), (.nm 5), (.nm 6)]) (.v (.ix (.var 0) (.int 1))) [.ifs (.cmp .isn (.var 6) .non) [.app 7 (.tup [(.tup [(.str "room"), (.var 2)]), (.var 4), (.var 3), (.bin .sub (.var 6) (.var 5))])] []] [.pl, .pl, .pl, .pl, .pl, .pl, .pl, (.ow 1)],
  .ret (.bin .add (.var 1) (.var 7))]⟩
def F12__law_digits : Fn := ⟨2, 6, [0, 0], .t 0,
  [.set 2 .pl (.var 0),
  .ifs (.cmp .lt (.var 2) (.int 0)) [.set 2 .pl (.bin .sub (.bin .sub (.int 0) (.int 1)) (.var 2))] [],
  .set 3 (.ow 1) (.lst []),
  .ifs (.cmp .ge (.var 2) (.bin .pow (.int 10) (.int 18))) [.forr (.nm 4) (.range [(.var 1)]) [.app 3 (.bin .mod (.bi .int [(.var 2)]) (.int 1000003)),
      .set 2 .pl (.bin .fdiv (.var 2) (.int 1000003)),
      .ifs (.cmp .eq (.var 2) (.int 0)) [.brk] []] [.pl, .pl, .pl, (.ow 1), .pl, .pl],
    .fz 3,
    .ret (.var 3)] [],
  .forr (.nm 4) (.range [(.var 1)]) [.set 5 .pl (.bin .mod (.bi .int [(.bin .mul (.bin .add (.bin .add (.var 2) (.bin .mul (.int 11) (.var 4))) (.int 3)) (.int 48271))]) (.int 2147483647)),
    .set 5 .pl (.bin .mod (.bi .int [(.bin .add (.bin .add (.bin .mul (.var 5) (.int 69621)) (.bin .mul (.int 37) (.var 4))) (.int 5))]) (.int 2147483629)),
    .app 3 (.bin .mod (.bi .int [(.bin .fdiv (.var 5) (.int 5))]) (.int 1000003))] [.pl, .pl, .pl, (.ow 1), .pl, .pl],
  .fz 3,
  .ret (.var 3)]⟩
def F13__law_box : Fn := ⟨1, 3, [0], .f 1,
  [.set 1 .pl (.lst []),
  .forr (.nm 2) (.v (.var 0)) [.set 1 .pl (.bin .add (.var 1) (.call 12 [(.var 2), (.int 6)]))] [.pl, .pl, .pl],
  .ifs (.cmp .eq (.bi .len [(.var 1)]) (.int 0)) [.set 1 .pl (.lst [(.int 5), (.int 77), (.int 1031), (.int 40009), (.int 3), (.int 900001), (.int 12)])] [],
  .ret (.dct [(.str "row"), (.var 1), (.str "at"), (.int 0)])]⟩
def F14__law_take : Fn := ⟨2, 4, [0, 0], .t 0,
  [.set 2 .pl (.ix (.var 0) (.str "at")),
  .stc (.var 0) (.str "at") (.bin .add (.var 2) (.int 1)),
  .set 3 .pl (.ix (.ix (.var 0) (.str "row")) (.bin .mod (.bi .int [(.var 2)]) (.bi .len [(.ix (.var 0) (.str "row"))]))),
  .ret (.bin .mod (.bi .int [(.bin .add (.var 3) (.bin .mul (.int 104729) (.bin .fdiv (.var 2) (.bi .len [(.ix (.var 0) (.str "row"))]))))]) (.var 1))]⟩
def F15__law_pick : Fn := ⟨2, 2, [0, 0], .t 0,
  [.ret (.ix (.var 1) (.call 14 [(.var 0), (.bi .len [(.var 1)])]))]⟩
def F16__law_word : Fn := ⟨2, 3, [0, 0], .t 0,
  [.ret (.mt .join (.str "") [(.lc (.ix (.str "abcdefghijklmnopqrstuvwxyz") (.call 14 [(.var 0), (.int 26)])) (.nm 2) (.range [(.var 1)]) .yes [2])])]⟩
def F17__law_names : Fn := ⟨2, 12, [0, 0], .t 0,
  [.ifs (.and (.cmp .lt (.var 1) (.int 9)) (.cmp .eq (.call 14 [(.var 0), (.int 6)]) (.int 0))) [.set 2 .pl (.str "against along any bar bin counts cycle down empty end endless entries fewest free from go held lead low machine most never no open order part"),
    .set 2 .pl (.bin .add (.mt .split (.var 2) [(.str " ")]) (.lst [(.str "path"), (.str "reached"), (.str "ring"), (.str "room"), (.str "row"), (.str "rules"), (.str "strike"), (.str "up"), (.str "walk"), (.str "went"), (.str "wish"), (.str "works")])),
    .set 3 .pl (.call 15 [(.var 0), (.lst [(.int 0), (.int 0), (.call 14 [(.var 0), (.bin .add (.bin .sub (.bi .len [(.var 2)]) (.var 1)) (.int 1))])])]),
    .ret (.sl (.var 2) (.v (.var 3)) (.v (.bin .add (.var 3) (.var 1))))] [],
  .set 4 .pl (.call 16 [(.var 0), (.call 14 [(.var 0), (.int 8)])]),
  .set 5 .pl (.call 14 [(.var 0), (.bin .add (.bi .len [(.var 4)]) (.int 1))]),
  .set 6 .pl (.call 14 [(.var 0), (.int 26)]),
  .set 7 .pl (.call 14 [(.var 0), (.int 2)]),
  .set 8 (.ow 1) (.lst []),
  .forr (.nm 9) (.range [(.var 1)]) [.set 10 .pl (.ix (.str "abcdefghijklmnopqrstuvwxyz") (.bin .mod (.bi .int [(.bin .add (.var 6) (.bin .mul (.int 5) (.var 9)))]) (.int 26))),
    .set 11 .pl (.str ""),
    .ifs (.cmp .eq (.var 7) (.int 1)) [.set 11 .pl (.call 16 [(.var 0), (.call 14 [(.var 0), (.int 4)])])] [],
    .app 8 (.bin .add (.bin .add (.bin .add (.sl (.var 4) .no (.v (.var 5))) (.var 10)) (.sl (.var 4) (.v (.var 5)) .no)) (.var 11))] [.pl, .pl, .pl, .pl, .pl, .pl, .pl, .pl, (.ow 1), .pl, .pl, .pl],
  .ret (.bi .sorted [(.var 8)])]⟩
def F18__law_machines : Fn := ⟨2, 4, [0, 0], .t 0,
  [.set 2 (.ow 1) (.lst []),
  .forr (.nm 3) (.v (.call 17 [(.var 0), (.var 1)])) [.app 2 (.tup [(.var 3), (.call 15 [(.var 0), (.lst [(.int 0), (.int 1), (.bin .add (.int 1) (.call 14 [(.var 0), (.int 9)])), (.bin .add (.int 1) (.call 14 [(.var 0), (.int 9)])), (.call 14 [(.var 0), (.int 1001)])])])])] [.pl, .pl, (.ow 1), .pl],
  .ret (.bi .tuple [(.var 2)])]⟩
def F19__law_works : Fn := ⟨4, 11, [0, 0, 0, 0], .t 0,
  [.set 4 .pl (.call 18 [(.var 0), (.bin .add (.int 1) (.call 14 [(.var 0), (.var 1)]))]),
  .set 5 .pl (.lc (.ix (.var 6) (.int 0)) (.nm 6) (.v (.var 4)) .yes [6]),
  .set 7 (.ow 1) (.lst []),
  .forr (.nm 8) (.v (.call 17 [(.var 0), (.call 14 [(.var 0), (.bin .add (.var 2) (.int 1))])])) [.set 9 .pl (.call 15 [(.var 0), (.lst [(.int 0), (.int 0), (.int 0), (.int 1), (.int 2), (.call 14 [(.var 0), (.var 3)])])]),
    .set 10 .pl (.call 15 [(.var 0), (.lst [.non, .non, (.bi .max [(.var 9), (.int 1)]), (.bin .add (.bi .max [(.var 9), (.int 1)]) (.call 14 [(.var 0), (.int 4)]))])]),
    .app 7 (.tup [(.var 8), (.call 15 [(.var 0), (.var 5)]), (.call 15 [(.var 0), (.var 5)]), (.var 9), (.var 10)])] [.pl, .pl, .pl, .pl, .pl, .pl, .pl, (.ow 1), .pl, .pl, .pl],
  .ret (.tup [(.var 4), (.bi .tuple [(.var 7)])])]⟩
def F32__law_ties : Fn := ⟨1, 8, [0], .t 0,
  [.set 1 (.ow 1) (.lst []),
  .set 2 (.ow 1) (.lst []),
  .forr (.tp [(.nm 3), (.nm 4), (.nm 5), (.nm 6), (.nm 7)]) (.v (.ix (.var 0) (.int 1))) [.app 1 (.tup [(.tup [(.str "part"), (.var 3)]), (.var 4), (.var 5), (.var 6)]),
    .ifs (.cmp .isn (.var 7) .non) [.app 2 (.tup [(.tup [(.str "room"), (.var 3)]), (.var 5), (.var 4), (.bin .sub (.var 7) (.var 6))])] []] [.pl, (.ow 1), (.ow 1), .pl, .pl, .pl, .pl, .pl],
  .ret (.bin .add (.var 1) (.var 2))]⟩
def F20__law_name_list : Fn := ⟨1, 2, [0], .t 0,
  [.ret (.lc (.ix (.var 1) (.int 0)) (.nm 1) (.v (.ix (.var 0) (.int 0))) .yes [1])]⟩
def F33__law_stocks_behind : Fn := ⟨2, 8, [0, 0], .t 0,
  [.set 2 (.ow 1) (.lst []),
  .forr (.tp [(.nm 3), (.nm 4), (.nm 5), (.nm 6), (.nm 7)]) (.v (.ix (.var 0) (.int 1))) [.app 2 (.bin .sub (.bin .add (.var 6) (.mt .get (.var 1) [(.var 4), (.int 0)])) (.mt .get (.var 1) [(.var 5), (.int 0)]))] [.pl, .pl, (.ow 1), .pl, .pl, .pl, .pl, .pl],
  .ret (.bi .tuple [(.var 2)])]⟩
def F21__law_with : Fn := ⟨2, 4, [0, 0], .t 0,
  [.set 2 (.ow 1) (.lst []),
  .forr (.nm 3) (.range [(.bi .len [(.ix (.var 0) (.int 1))])]) [.app 2 (.bin .add (.bin .add (.sl (.ix (.ix (.var 0) (.int 1)) (.var 3)) .no (.v (.int 3))) (.tup [(.ix (.var 1) (.var 3))])) (.sl (.ix (.ix (.var 0) (.int 1)) (.var 3)) (.v (.int 4)) .no))] [.pl, .pl, (.ow 1), .pl],
  .ret (.tup [(.ix (.var 0) (.int 0)), (.bi .tuple [(.var 2)])])]⟩
def F22__law_stocks : Fn := ⟨1, 2, [0], .t 0,
  [.ret (.bi .tuple [(.lc (.ix (.var 1) (.int 3)) (.nm 1) (.v (.ix (.var 0) (.int 1))) .yes [1])])]⟩
end Mi
end Sh0_

section Sh1_
set_option linter.all false
set_option Elab.async false
/-! Sh1: the helpers that draw. -/
namespace Mi
open PySem L2

def boxW (row : List Int) (at_ : Int) : W := .dct [(.s "row", .lst (row.map .int)), (.s "at", .int at_)]
structure IsBox (M : List W) : Prop where
  ex : ∃ (row : List Int) (at_ : Int), M = [boxW row at_] ∧ 0 < row.length ∧ row.length ≤ 1000 ∧ 0 ≤ at_
theorem get_row {r a : W} : getK [(.s "row", r), (.s "at", a)] (.s "row") = some r := by simp [getK]
theorem get_at {r a : W} : getK [(.s "row", r), (.s "at", a)] (.s "at") = some a := by
  unfold getK
  rw [List.find?_cons, show decide ((Ky.s "row") = Ky.s "at") = false by decide, List.find?_cons, show decide ((Ky.s "at") = Ky.s "at") = true by decide]
  rfl
theorem put_at {r a b : W} : putK [(.s "row", r), (.s "at", a)] (.s "at") b = [(.s "row", r), (.s "at", b)] := by
  unfold putK
  rw [if_pos (by simp)]
  simp only [List.map_cons, List.map_nil]
  rw [if_neg (by decide)]; simp
section
variable {tab : Nat → Option Fn}
theorem take_ok (h : tab 14 = some F14__law_take) {M : List W} (hb : IsBox M) {many : Int} (hm : 0 < many) (n : Nat) (hn : 1 ≤ n) :
    ∃ k M', callF tab n 14 [.loc 0, .int many] M = .ok (.int k) M' ∧ IsBox M' ∧ 0 ≤ k ∧ k < many := by
  obtain ⟨d, rfl⟩ : ∃ d, n = d + 1 := ⟨n - 1, by omega⟩
  obtain ⟨row, at_, rfl, h1, h2, h3⟩ := hb
  rw [call_of h _ _ _ rfl]
  have hl : (0 : Int) < row.length := by omega
  have hl2 : (row.length : Int) < 2 ^ 64 := by omega
  have e1 : 0 ≤ at_ % (row.length : Int) := Int.emod_nonneg _ (by omega)
  have e2 : at_ % (row.length : Int) < row.length := Int.emod_lt_of_pos _ hl
  have g : atI (row.map W.int) (at_ % (row.length : Int)) = some (.int (row[(at_ % (row.length : Int)).toNat]'(by omega))) := by
    rw [atI_lt e1 (by simpa using e2)]
    simp
  refine ⟨(row[(at_ % (row.length : Int)).toNat]'(by omega) + 104729 * (at_ / (row.length : Int))) % many, [boxW row (at_ + 1)], ?_, ⟨row, at_ + 1, rfl, h1, h2, by omega⟩, Int.emod_nonneg _ (by omega), Int.emod_lt_of_pos _ hm⟩
  simp [F14__law_take, boxW, get_at, get_row, put_at, g, modW_pos _ _ hl, modW_pos _ _ hm, fdivW_pos _ _ hl hl2, mulW_l, sizeLine_eq]
/-- one of a list, or of a tuple -/
theorem pick_ok (h : tab 14 = some F14__law_take) (h2 : tab 15 = some F15__law_pick) {M : List W} (hb : IsBox M) {ws : List W} (hw : ws ≠ []) (n : Nat) (hn : 2 ≤ n) :
    ∃ w M', callF tab n 15 [.loc 0, .lst ws] M = .ok w M' ∧ IsBox M' ∧ w ∈ ws := by
  obtain ⟨d, rfl⟩ : ∃ d, n = d + 1 := ⟨n - 1, by omega⟩
  have hl : (0 : Int) < ws.length := by
    have := List.length_pos_iff.mpr hw
    omega
  obtain ⟨k, M', e, b, k1, k2⟩ := take_ok h hb hl d (by omega)
  have g := atI_lt (xs := ws) k1 k2
  refine ⟨ws[k.toNat]'(by omega), M', ?_, b, List.getElem_mem _⟩
  rw [call_of h2 _ _ _ rfl]
  simp [F15__law_pick, e, g]
theorem range_len (n : Nat) (hn : (n : Int) ≤ 16777216) : rangeL [.int (n : Int)] = some ((List.range n).map fun k : Nat => W.int k) := by
  rw [range_one _ ⟨by omega, by rw [sizeLine_eq]; exact hn⟩]
  simp
theorem sum_le {l : List Str} (h : ∀ x ∈ l, x.length ≤ 1) : (l.map (·.length)).sum ≤ l.length := by
  induction l with
  | nil => simp
  | cons a l ih =>
    have h1 := h a List.mem_cons_self
    have h2 := ih fun x hx => h x (List.mem_cons_of_mem _ hx)
    simp only [List.map_cons, List.sum_cons, List.length_cons]
    omega
theorem alpha_len : ("abcdefghijklmnopqrstuvwxyz" : Str).cps.toList.length = 26 := by decide +kernel
/-- a text of letters -/
def Lets (x : Str) : Prop := ∀ c ∈ x.cps.toList, 97 ≤ c ∧ c ≤ 122
theorem alpha_lets : ∀ c ∈ ("abcdefghijklmnopqrstuvwxyz" : Str).cps.toList, 97 ≤ c ∧ c ≤ 122 := by decide +kernel
theorem Lets.append {x y : Str} (h : Lets x) (k : Lets y) : Lets (x ++ y) := fun c hc => by
  have e : (x ++ y).cps.toList = x.cps.toList ++ y.cps.toList := by
    show (x.cps ++ y.cps).toList = _
    rw [Array.toList_append]
  rw [e] at hc
  exact (List.mem_append.mp hc).elim (h c) (k c)
theorem lets_empty : Lets "" := fun c hc => by
  have : (("" : Str).cps.toList) = [] := by decide +kernel
  rw [this] at hc; cases hc
theorem lets_join : ∀ (l : List Str), (∀ x ∈ l, Lets x) → Lets (Str.join "" l)
  | [], _ => lets_empty
  | [x], h => h x List.mem_cons_self
  | x :: y :: r, h => ((h x List.mem_cons_self).append lets_empty).append (lets_join (y :: r) fun z hz => h z (List.mem_cons_of_mem _ hz))
/-- a word of letters -/
theorem word_ok (h : tab 14 = some F14__law_take) (h2 : tab 16 = some F16__law_word) {M : List W} (hb : IsBox M) {n : Nat} (hn : n ≤ 1000) (m : Nat) (hm : 2 ≤ m) :
    ∃ x M', callF tab m 16 [.loc 0, .int n] M = .ok (.str x) M' ∧ IsBox M' ∧ x.length ≤ n ∧ Lets x := by
  obtain ⟨d, rfl⟩ : ∃ d, m = d + 1 := ⟨m - 1, by omega⟩
  rw [call_of h2 _ _ _ rfl]
  have tl : ∀ w M, IsBox M → ∃ (y : Str) (M' : List W), turnL (callF tab d) (.ix (.str "abcdefghijklmnopqrstuvwxyz") (.call 14 [.var 0, .int 26])) (.nm 2) .yes [2] [some (.loc 0), some (.int n), none] w M = .ok (some (.str y)) M' ∧ IsBox M' ∧ y.length ≤ 1 ∧ Lets y := by
    intro w M hM
    obtain ⟨k, M', e, b, k1, k2⟩ := take_ok h hM (many := 26) (by decide) d (by omega)
    have hk : k < (("abcdefghijklmnopqrstuvwxyz" : Str).cps.toList.length : Int) := by rw [alpha_len]; exact k2
    refine ⟨⟨#[("abcdefghijklmnopqrstuvwxyz" : Str).cps.toList[k.toNat]'(by omega)]⟩, M', ?_, b, Nat.le_refl _, fun c hc => by
      have e : c = ("abcdefghijklmnopqrstuvwxyz" : Str).cps.toList[k.toNat]'(by omega) := by simpa using hc
      rw [e]
      exact alpha_lets _ (List.getElem_mem _)⟩
    have g := atI_lt (xs := ("abcdefghijklmnopqrstuvwxyz" : Str).cps.toList) k1 hk
    simp [turnL, e, g]
  obtain ⟨ys, M', e1, b1, l1, q1⟩ := compL_inv (f := turnL (callF tab d) (.ix (.str "abcdefghijklmnopqrstuvwxyz") (.call 14 [.var 0, .int 26])) (.nm 2) .yes [2] [some (.loc 0), some (.int n), none]) (e := fun k : Nat => W.int k) (e' := W.str) (P := IsBox) (Q := fun _ (y : Str) => y.length ≤ 1 ∧ Lets y) (List.range n) M hb fun x _ M hM => tl _ M hM
  have hys : ∀ y ∈ ys, y.length ≤ 1 := fun y hy => by
    obtain ⟨_, _, q⟩ := q1 y hy
    exact q.1
  have hyl : ∀ y ∈ ys, Lets y := fun y hy => by
    obtain ⟨_, _, q⟩ := q1 y hy
    exact q.2
  have sl := sum_le hys
  rw [List.length_range] at l1
  have e0 : (Str.length ("" : Str)) = 0 := by decide +kernel
  refine ⟨Str.join "" ys, M', ?_, b1, ?_, lets_join ys hyl⟩
  · have ej : joinW [.str "", .lst (ys.map W.str)] = some (.str (Str.join "" ys)) := by
      show (match strs? (ys.map W.str) with
        | some ys => if (ys.map fun x : Str => x.length).sum + ys.length * (Str.length ("" : Str)) ≤ sizeLine then some (W.str (Str.join "" ys)) else none
        | none => none) = _
      rw [strs_map]
      show (if _ then _ else _) = _
      rw [if_pos]
      rw [e0, sizeLine_eq]; omega
    simp [F16__law_word, range_len n (by omega), e1, ej]
  · have := StrLaws.join_length_le ("" : Str) ys
    rw [e0] at this
    omega
end
end Mi
end Sh1_

section Sh2_
set_option linter.all false
set_option Elab.async false
/-! Sh2: names that are drawn. -/
namespace Mi
open PySem L2

theorem cut_to {α : Type} (xs : List α) (b : Nat) : cut xs none (some (b : Int)) = xs.take b := by
  unfold cut
  rw [HT.sIx_none, HT.sIx_nat, List.drop_zero, Nat.sub_zero]
  by_cases h : b ≤ xs.length
  · rw [Nat.min_eq_left h]
  · rw [Nat.min_eq_right (by omega), List.take_length, List.take_of_length_le (by omega)]
theorem cut_from {α : Type} (xs : List α) (a : Nat) : cut xs (some (a : Int)) none = xs.drop a := by
  unfold cut
  rw [HT.sIx_none, HT.sIx_nat]
  by_cases h : a ≤ xs.length
  · rw [Nat.min_eq_left h, List.take_of_length_le (by rw [List.length_drop]; exact Nat.le_refl _)]
  · rw [Nat.min_eq_right (by omega), List.drop_length, List.take_nil, List.drop_of_length_le (by omega)]
theorem cut_both {α : Type} (xs : List α) (a b : Nat) (h : a ≤ b) (hb : b ≤ xs.length) : cut xs (some (a : Int)) (some (b : Int)) = (xs.drop a).take (b - a) := by
  unfold cut
  rw [HT.sIx_nat, HT.sIx_nat, Nat.min_eq_left hb, Nat.min_eq_left (by omega)]
theorem cps_append (x y : Str) : (x ++ y).cps.toList = x.cps.toList ++ y.cps.toList := by
  show (x.cps ++ y.cps).toList = _
  rw [Array.toList_append]
theorem str_len (x : Str) : x.length = x.cps.toList.length := by rw [Array.length_toList]; rfl
def words29 : List Str := ["against", "along", "any", "bar", "bin", "counts", "cycle", "down", "empty", "end", "endless", "entries", "fewest", "free", "from", "go", "held", "lead", "low", "machine", "most", "never", "no", "open", "order", "part"]
def words12 : List Str := ["path", "reached", "ring", "room", "row", "rules", "strike", "up", "walk", "went", "wish", "works"]
def text38 : Str := "against along any bar bin counts cycle down empty end endless entries fewest free from go held lead low machine most never no open order part"
theorem words_e : Txt.split text38 " " = words29 := by decide +kernel
theorem split_of {a b : Str} {l : List Str} (e : Txt.split a b = l) (h : (!(b.length == 0) && decide (a.length + 2 ≤ 16777216) && decide (l.length ≤ 16777216) && l.all fun x => PyData.strOk x && decide (x.length ≤ 16777216)) = true) : splitW [.str a, .str b] = some (.lst (l.map .str)) := by
  unfold splitW
  subst e
  rw [← sizeLine_eq] at h
  simp only [Bool.and_eq_true, Bool.not_eq_true', decide_eq_true_eq] at h
  exact if_pos ⟨h.1.1.1, h.1.1.2, h.1.2, h.2⟩
theorem words_split : splitW [.str text38, .str " "] = some (.lst (words29.map .str)) := split_of words_e (by decide +kernel)
theorem words_nodup : (words29 ++ words12).Nodup := by decide +kernel
theorem words_ok : ((words29 ++ words12).all fun x => decide (1 ≤ x.length) && decide (x.length ≤ 11) && x.cps.toList.all fun c => decide (97 ≤ c) && decide (c ≤ 122)) = true := by decide +kernel
theorem words_asc : (words29 ++ words12).Pairwise fun x y => x.cps.toList < y.cps.toList := by decide +kernel
theorem words_short : ∀ x ∈ words29 ++ words12, x.length ≤ 20 := by decide +kernel
theorem words_len : (words29 ++ words12).length = 38 := by decide +kernel
theorem five_inj {f : Int} {i j : Nat} (hi : i < 26) (hj : j < 26) (h : (f + 5 * (i : Int)) % 26 = (f + 5 * (j : Int)) % 26) : i = j := by omega
theorem alpha_nodup : ("abcdefghijklmnopqrstuvwxyz" : Str).cps.toList.Nodup := by decide +kernel
/-- the k-th letter from f -/
def letterAt (f : Int) (k : Nat) : Nat := (("abcdefghijklmnopqrstuvwxyz" : Str).cps.toList[((f + 5 * (k : Int)) % 26).toNat]?).getD 0
theorem letter_get (f : Int) (k : Nat) : atI ("abcdefghijklmnopqrstuvwxyz" : Str).cps.toList ((f + 5 * (k : Int)) % 26) = some (letterAt f k) := by
  have h0 : 0 ≤ (f + 5 * (k : Int)) % 26 := by omega
  have h1 : (f + 5 * (k : Int)) % 26 < (("abcdefghijklmnopqrstuvwxyz" : Str).cps.toList.length : Int) := by rw [alpha_len]; omega
  rw [atI_lt h0 h1]
  unfold letterAt
  rw [List.getElem?_eq_getElem (by omega)]; rfl
theorem letter_inj {f : Int} {i j : Nat} (hi : i < 26) (hj : j < 26) (h : letterAt f i = letterAt f j) : i = j := by
  have l : ∀ k : Nat, ((f + 5 * (k : Int)) % 26).toNat < ("abcdefghijklmnopqrstuvwxyz" : Str).cps.toList.length := fun k => by rw [alpha_len]; omega
  unfold letterAt at h
  rw [List.getElem?_eq_getElem (l i), List.getElem?_eq_getElem (l j)] at h
  have := (List.getElem_inj alpha_nodup).mp h
  exact five_inj (f := f) hi hj (by omega)
/-- what a drawn name is -/
structure OkN (x : Str) : Prop where
  low : 1 ≤ x.length
  high : x.length ≤ 11
  lets : Lets x
structure IsName (base : Str) (p : Nat) (f : Int) (k : Nat) (x : Str) : Prop where
  at_ : x.cps.toList[p]? = some (letterAt f k)
  ok : OkN x
theorem letterAt_let (f : Int) (k : Nat) : 97 ≤ letterAt f k ∧ letterAt f k ≤ 122 := by
  unfold letterAt
  have h1 : ((f + 5 * (k : Int)) % 26).toNat < ("abcdefghijklmnopqrstuvwxyz" : Str).cps.toList.length := by rw [alpha_len]; omega
  rw [List.getElem?_eq_getElem h1]
  exact alpha_lets _ (List.getElem_mem _)
theorem lets_of {l : List Nat} (h : ∀ c ∈ l, 97 ≤ c ∧ c ≤ 122) : Lets ⟨l.toArray⟩ := fun c hc => h c (by simpa using hc)
theorem name_of {base tail : Str} {p : Nat} {f : Int} {k : Nat} (hb : base.length ≤ 7) (lb : Lets base) (ht : tail.length ≤ 3) (lt : Lets tail) (hp : p ≤ base.length) : IsName base p f k ((((⟨(base.cps.toList.take p).toArray⟩ : Str) ++ ⟨#[letterAt f k]⟩) ++ ⟨(base.cps.toList.drop p).toArray⟩) ++ tail) := by
  have hl := str_len base
  refine ⟨?_, ?_⟩
  · rw [cps_append, cps_append, cps_append]
    have : (List.take p base.cps.toList).length = p := by rw [List.length_take]; omega
    simp [List.getElem?_append, this]
  · have e := str_len ((((⟨(base.cps.toList.take p).toArray⟩ : Str) ++ ⟨#[letterAt f k]⟩) ++ ⟨(base.cps.toList.drop p).toArray⟩) ++ tail)
    rw [cps_append, cps_append, cps_append] at e
    have := str_len tail
    simp only [List.length_append, List.length_take, List.length_drop, List.length_cons, List.length_nil] at e
    refine ⟨by omega, by omega, ?_⟩
    refine Lets.append (Lets.append (Lets.append (lets_of fun c hc => lb c (List.mem_of_mem_take hc)) fun c hc => ?_) (lets_of fun c hc => lb c (List.mem_of_mem_drop hc))) lt
    have e : c = letterAt f k := by simpa using hc
    rw [e]; exact letterAt_let f k
theorem words_split2 : splitW [.str "against along any bar bin counts cycle down empty end endless entries fewest free from go held lead low machine most never no open order part", .str " "] = some (.lst (words29.map .str)) := words_split
section
variable {tab : Nat → Option Fn}
/-- the names in the making -/
structure NmInv (base : Str) (p : Nat) (f : Int) (u : Int) (m : Nat) (done : List Nat) (ρ : Env) (M : List W) : Prop where
  box : IsBox M
  ex : ∃ (names : List Str) (a b c d e : Option W), ρ = [some (.loc 0), some (.int m), a, b, some (.str base), some (.int p), some (.int f), some (.int u), some (.lst (names.map .str)), c, d, e] ∧ names.length = done.length ∧ ∀ (i : Nat) (x : Str) (k : Nat), names[i]? = some x → done[i]? = some k → IsName base p f k x
abbrev nmBody : List S := [.set 10 .pl (.ix (.str "abcdefghijklmnopqrstuvwxyz") (.bin .mod (.bi .int [(.bin .add (.var 6) (.bin .mul (.int 5) (.var 9)))]) (.int 26))),
    .set 11 .pl (.str ""),
    .ifs (.cmp .eq (.var 7) (.int 1)) [.set 11 .pl (.call 16 [(.var 0), (.call 14 [(.var 0), (.int 4)])])] [],
    .app 8 (.bin .add (.bin .add (.bin .add (.sl (.var 4) .no (.v (.var 5))) (.var 10)) (.sl (.var 4) (.v (.var 5)) .no)) (.var 11))]
@[simp] theorem slW_str (x : Str) (lo hi : Option Int) : slW (.str x) lo hi = some (.str ⟨(cut x.cps.toList lo hi).toArray⟩) := rfl
theorem nm_add {base tail : Str} {p : Nat} {c : Nat} (hb : base.length ≤ 7) (ht : tail.length ≤ 4) :
    addW (.str ⟨(cut base.cps.toList none (some (p : Int))).toArray⟩) (.str ⟨#[c]⟩) = some (.str ((⟨(base.cps.toList.take p).toArray⟩ : Str) ++ ⟨#[c]⟩)) ∧
    addW (.str ((⟨(base.cps.toList.take p).toArray⟩ : Str) ++ ⟨#[c]⟩)) (.str ⟨(cut base.cps.toList (some (p : Int)) none).toArray⟩) = some (.str (((⟨(base.cps.toList.take p).toArray⟩ : Str) ++ ⟨#[c]⟩) ++ ⟨(base.cps.toList.drop p).toArray⟩)) ∧
    addW (.str (((⟨(base.cps.toList.take p).toArray⟩ : Str) ++ ⟨#[c]⟩) ++ ⟨(base.cps.toList.drop p).toArray⟩)) (.str tail) = some (.str ((((⟨(base.cps.toList.take p).toArray⟩ : Str) ++ ⟨#[c]⟩) ++ ⟨(base.cps.toList.drop p).toArray⟩) ++ tail)) := by
  have hl := str_len base
  have a : ∀ l : List Nat, Str.length ⟨l.toArray⟩ = l.length := fun l => by rw [str_len]
  have b : Str.length ⟨#[c]⟩ = 1 := rfl
  refine ⟨?_, ?_, ?_⟩
  · rw [cut_to, addW_str, if_pos]
    rw [a, b, sizeLine_eq, List.length_take]; omega
  · rw [cut_from, addW_str, if_pos]
    rw [len_append, a, a, a, sizeLine_eq, List.length_take, List.length_drop, List.length_singleton]; omega
  · rw [addW_str, if_pos]
    rw [len_append, len_append, a, a, a, sizeLine_eq, List.length_take, List.length_drop, List.length_singleton]; omega
theorem nm_step (h14 : tab 14 = some F14__law_take) (h16 : tab 16 = some F16__law_word) {base : Str} {p m : Nat} {f u : Int} (hb : base.length ≤ 7) (lb : Lets base) (hp : p ≤ base.length) (hm : m ≤ 26) {n : Nat} (hn : 2 ≤ n) {done : List Nat} {k : Nat} {ρ : Env} {M : List W} (hd : done.length < 26) (I : NmInv base p f u m done ρ M) :
    ∃ ρ' M', bodyF (callF tab n) (.nm 9) nmBody (.int k) ρ M = .ok (.nx, ρ') M' ∧ NmInv base p f u m (done ++ [k]) ρ' M' := by
  obtain ⟨bx, names, a, b, c, d, e, rfl, hl, hi⟩ := I
  have fin2 : ∀ (tail : Str) (M' : List W), tail.length ≤ 3 → Lets tail → IsBox M' → NmInv base p f u m (done ++ [k]) [some (.loc 0), some (.int m), a, b, some (.str base), some (.int p), some (.int f), some (.int u), some (.lst ((names ++ [(((⟨(base.cps.toList.take p).toArray⟩ : Str) ++ ⟨#[letterAt f k]⟩) ++ ⟨(base.cps.toList.drop p).toArray⟩) ++ tail]).map .str)), some (.int k), some (.str ⟨#[letterAt f k]⟩), some (.str tail)] M' := fun tail M' ht lt bM => by
    refine ⟨bM, _, a, b, _, _, _, rfl, by simp [hl], fun i x k' ex ek => ?_⟩
    by_cases q : i < names.length
    · rw [List.getElem?_append_left q] at ex
      rw [List.getElem?_append_left (by omega)] at ek
      exact hi i x k' ex ek
    · rw [List.getElem?_append_right (by omega)] at ex
      rw [List.getElem?_append_right (by omega), ← hl] at ek
      have q0 : i - names.length = 0 := by
        have := (List.getElem?_eq_some_iff.mp ex).1
        simp at this; omega
      rw [q0] at ex ek
      cases ex; cases ek
      exact name_of hb lb ht lt hp
  have nl : names.length < 16777216 := by omega
  by_cases hu : u = 1
  · obtain ⟨k1, M1, e1, b1, k1a, k1b⟩ := take_ok h14 bx (many := 4) (by decide) n (by omega)
    obtain ⟨j1, rfl⟩ := Int.eq_ofNat_of_zero_le k1a
    obtain ⟨tail, M2, e2, b2, l2, t2⟩ := word_ok h14 h16 b1 (n := j1) (by omega) n hn
    obtain ⟨x1, x2, x3⟩ := nm_add (p := p) (c := letterAt f k) hb (show tail.length ≤ 4 by omega)
    refine ⟨_, M2, ?_, fin2 tail M2 (by omega) t2 b2⟩
    simp [bodyF, letter_get, modW_pos, mulW_l, hu, e1, e2, x1, x2, x3, sizeLine_eq, nl]
  · obtain ⟨x1, x2, x3⟩ := nm_add (p := p) (c := letterAt f k) (tail := "") hb (by decide +kernel)
    refine ⟨_, M, ?_, fin2 "" M (by decide +kernel) lets_empty bx⟩
    simp [bodyF, letter_get, modW_pos, mulW_l, hu, x1, x2, x3, sizeLine_eq, nl]
theorem isName_inj {base : Str} {p : Nat} {f : Int} {i j : Nat} {x : Str} (hi : i < 26) (hj : j < 26) (h : IsName base p f i x) (k : IsName base p f j x) : i = j := by
  have := h.at_.symm.trans k.at_
  exact letter_inj (f := f) hi hj (Option.some.inj this)
theorem sortedW_strs {l : List Str} (h : l.length < 64) : sortedW [.lst (l.map .str)] = some (.lst ((l.mergeSort leStr).map .str)) := by
  show sortW _ = _
  unfold sortW
  rw [strs_map]
  exact if_pos h
/-- the order of names -/
def ltS (x y : Str) : Prop := x.cps.toList < y.cps.toList
theorem ltS_of {x y : Str} (h : leStr x y = true) (ne : x ≠ y) : ltS x y := by
  unfold leStr at h
  rw [decide_eq_true_eq] at h
  unfold ltS
  refine Classical.byContradiction fun z => ne ?_
  have h2 : y.cps.toList ≤ x.cps.toList := List.not_lt.mp z
  exact leStr_anti x y (by unfold leStr; exact decide_eq_true h) (by unfold leStr; exact decide_eq_true h2)
theorem asc_of {names : List Str} (nd : (names.mergeSort leStr).Nodup) : (names.mergeSort leStr).Pairwise ltS := by
  have h := List.pairwise_mergeSort (le := leStr) leStr_trans leStr_total names
  exact List.Pairwise.imp₂ (fun a b x y => ltS_of x y) h nd
theorem names2_ok (h14 : tab 14 = some F14__law_take) (h16 : tab 16 = some F16__law_word) {M : List W} (hb : IsBox M) {m : Nat} (hm : m ≤ 26) (n : Nat) (hn : 2 ≤ n) :
    ∃ (names : List Str) (M' : List W), fin (execs (callF tab n) F17__law_names.body.tail [some (.loc 0), some (.int m), none, none, none, none, none, none, none, none, none, none] M) = .ok (.lst (names.map .str)) M' ∧ IsBox M' ∧ names.length = m ∧ names.Nodup ∧ (∀ x ∈ names, OkN x) ∧ names.Pairwise ltS := by
  obtain ⟨k1, M1, e1, b1, k1a, k1b⟩ := take_ok h14 hb (many := 8) (by decide) n (by omega)
  obtain ⟨j1, rfl⟩ := Int.eq_ofNat_of_zero_le k1a
  obtain ⟨base, M2, e2, b2, l2, t2⟩ := word_ok h14 h16 b1 (n := j1) (by omega) n hn
  obtain ⟨k3, M3, e3, b3, k3a, k3b⟩ := take_ok h14 b2 (many := base.length + 1) (by omega) n (by omega)
  obtain ⟨p, rfl⟩ := Int.eq_ofNat_of_zero_le k3a
  obtain ⟨f, M4, e4, b4, k4a, k4b⟩ := take_ok h14 b3 (many := 26) (by decide) n (by omega)
  obtain ⟨u, M5, e5, b5, k5a, k5b⟩ := take_ok h14 b4 (many := 2) (by decide) n (by omega)
  have start : NmInv base p f u m [] [some (.loc 0), some (.int m), none, none, some (.str base), some (.int p), some (.int f), some (.int u), some (.lst []), none, none, none] M5 := ⟨b5, [], none, none, none, none, none, rfl, rfl, fun i x k h => by simp at h⟩
  obtain ⟨ρ', M6, e6, I6⟩ := forL_inv (f := bodyF (callF tab n) (.nm 9) nmBody) (e := fun k : Nat => W.int k) (NmInv base p f u m) (List.range m) start fun done x rest ρ M hx I => by
    have hl := congrArg List.length hx
    rw [List.length_range, List.length_append, List.length_cons] at hl
    exact nm_step h14 h16 (by omega) t2 (by omega) hm hn (by omega) I
  obtain ⟨b6, names, a, b, c, d, e, rfl, hl, hi⟩ := I6
  rw [List.length_range] at hl
  have isn : ∀ (i : Nat) (x : Str), names[i]? = some x → i < 26 ∧ IsName base p f i x := fun i x ex => by
    have h1 := (List.getElem?_eq_some_iff.mp ex).1
    have h2 : i < m := by omega
    exact ⟨by omega, hi i x i ex (by rw [List.getElem?_range h2])⟩
  have nd : names.Nodup := by
    refine List.pairwise_iff_getElem.mpr fun i j hi' hj hij heq => ?_
    obtain ⟨i1, i2⟩ := isn i _ (List.getElem?_eq_getElem hi')
    obtain ⟨j1, j2⟩ := isn j _ (List.getElem?_eq_getElem hj)
    rw [heq] at i2
    have := isName_inj i1 j1 i2 j2
    omega
  have hp := List.mergeSort_perm names leStr
  refine ⟨names.mergeSort leStr, M6, ?_, b6, by rw [hp.length_eq, hl], hp.nodup_iff.mpr nd, fun x hx => ?_, asc_of (hp.nodup_iff.mpr nd)⟩
  · have er := range_len m (by omega)
    simp [F17__law_names, e1, e2, e3, e4, e5, er, e6, sortedW_strs (show names.length < 64 by omega)]
  · obtain ⟨i, hi, e⟩ := List.mem_iff_getElem.mp (hp.mem_iff.mp hx)
    exact (isn i x (by rw [List.getElem?_eq_getElem hi, e])).2.ok
end
end Mi
end Sh2_

section Sh3_
set_option linter.all false
set_option Elab.async false
set_option maxRecDepth 100000
/-! Sh3: names, machines, works; the box. -/
namespace Mi
open PySem L2
section
variable {tab : Nat → Option Fn}
theorem take3 {l : List Int} {w : W} (h : w ∈ l.map W.int) : ∃ i ∈ l, w = .int i := by
  obtain ⟨i, hi, e⟩ := List.mem_map.mp h
  exact ⟨i, hi, e.symm⟩
/-- the names that a law's helper draws -/
structure Names (m : Nat) (l : List Str) : Prop where
  len : l.length = m
  nd : l.Nodup
  ok : ∀ x ∈ l, OkN x
  asc : l.Pairwise ltS
theorem Names.short {m : Nat} {l : List Str} (h : Names m l) : ∀ x ∈ l, x.length ≤ 20 := fun x hx => by
  have := (h.ok x hx).high
  omega
theorem words_okN : ∀ x ∈ words29 ++ words12, OkN x := fun x hx => by
  have := List.all_eq_true.mp words_ok x hx
  simp only [Bool.and_eq_true, decide_eq_true_eq, List.all_eq_true] at this
  exact ⟨this.1.1, this.1.2, this.2⟩
theorem fin_stop {cl : Nat → List W → List W → R W} {s : S} {ss : List S} {ρ : Env} {M : List W} {v : W} {ρ' : Env} {M' : List W} (h : exec cl s ρ M = .ok (.rt v, ρ') M') : fin (execs cl (s :: ss) ρ M) = .ok v M' := by
  rw [exs_cons, h]; rfl
theorem fin_go {cl : Nat → List W → List W → R W} {s : S} {ss : List S} {ρ : Env} {M : List W} {ρ' : Env} {M' : List W} (h : exec cl s ρ M = .ok (.nx, ρ') M') : fin (execs cl (s :: ss) ρ M) = fin (execs cl ss ρ' M') := by
  rw [exs_cons, h]; rfl
theorem names_ok (h14 : tab 14 = some F14__law_take) (h15 : tab 15 = some F15__law_pick) (h16 : tab 16 = some F16__law_word) (h17 : tab 17 = some F17__law_names) {M : List W} (hb : IsBox M) {m : Nat} (hm : m ≤ 26) (n : Nat) (hn : 3 ≤ n) :
    ∃ (names : List Str) (M' : List W), callF tab n 17 [.loc 0, .int m] M = .ok (.lst (names.map .str)) M' ∧ IsBox M' ∧ Names m names := by
  obtain ⟨d, rfl⟩ : ∃ d, n = d + 1 := ⟨n - 1, by omega⟩
  rw [call_of h17 _ _ _ rfl]
  have eb : F17__law_names.body = F17__law_names.body.headD .pass :: F17__law_names.body.tail := rfl
  have eρ : ([.loc 0, .int m] : List W).map some ++ List.replicate (F17__law_names.ns - F17__law_names.np) none = [some (.loc 0), some (.int m), none, none, none, none, none, none, none, none, none, none] := rfl
  rw [eb, eρ]
  have back : ∀ M', IsBox M' → ∃ (names : List Str) (M2 : List W), fin (execs (callF tab d) F17__law_names.body.tail [some (.loc 0), some (.int m), none, none, none, none, none, none, none, none, none, none] M') = .ok (.lst (names.map .str)) M2 ∧ IsBox M2 ∧ Names m names := fun M' b => by
    obtain ⟨names, M2, e, b2, k1, k2, k3, k4⟩ := names2_ok h14 h16 b hm d (by omega)
    exact ⟨names, M2, e, b2, k1, k2, k3, k4⟩
  by_cases h9 : m < 9
  · obtain ⟨k, M1, e1, b1, ka, kb⟩ := take_ok h14 hb (many := 6) (by decide) d (by omega)
    by_cases hk : k = 0
    · subst hk
      obtain ⟨k2, M2, e2, b2, k2a, k2b⟩ := take_ok h14 b1 (many := (38 : Int) - m + 1) (by omega) d (by omega)
      obtain ⟨w, M3, e3, b3, hw⟩ := pick_ok h14 h15 b2 (ws := [.int 0, .int 0, .int k2]) (by simp) d (by omega)
      obtain ⟨i, hi, rfl⟩ := take3 (l := [0, 0, k2]) hw
      have hi' : 0 ≤ i ∧ i ≤ 38 - m := by
        simp at hi
        rcases hi with rfl | rfl <;> omega
      obtain ⟨at_, rfl⟩ := Int.eq_ofNat_of_zero_le hi'.1
      have hl : (words29.map W.str ++ words12.map W.str) = (words29 ++ words12).map W.str := by rw [List.map_append]
      have hlen : ((words29 ++ words12).map W.str).length = 38 := by rw [List.length_map, words_len]
      have ec : cut ((words29 ++ words12).map W.str) (some (at_ : Int)) (some ((at_ : Int) + m)) = (((words29 ++ words12).drop at_).take m).map W.str := by
        have e : (at_ : Int) + m = ((at_ + m : Nat) : Int) := by omega
        rw [e, cut_both _ _ _ (by omega) (by rw [hlen]; omega), Nat.add_sub_cancel_left, List.map_take, List.map_drop]
      have la : words29.length = 26 := by decide +kernel
      have lb : words12.length = 12 := by decide +kernel
      have e4 : exec (callF tab d) (F17__law_names.body.headD .pass) [some (.loc 0), some (.int m), none, none, none, none, none, none, none, none, none, none] M = .ok (.rt (.lst ((((words29 ++ words12).drop at_).take m).map W.str)), [some (.loc 0), some (.int m), some (.lst ((words29 ++ words12).map W.str)), some (.int at_), none, none, none, none, none, none, none, none]) M3 := by
        have e2' : callF tab d 14 [.loc 0, .int (26 + 12 - (m : Int) + 1)] M1 = .ok (.int k2) M2 := e2
        have m9 : (m : Int) < 9 := by omega
        have c : evT (callF tab d) (.and (.cmp .lt (.var 1) (.int 9)) (.cmp .eq (.call 14 [(.var 0), (.int 6)]) (.int 0))) [some (.loc 0), some (.int m), none, none, none, none, none, none, none, none, none, none] M = .ok true M1 := by simp [m9, e1]
        have s1 : ∀ x, exec (callF tab d) (.set 2 .pl (.str x)) [some (.loc 0), some (.int m), none, none, none, none, none, none, none, none, none, none] M1 = .ok (.nx, [some (.loc 0), some (.int m), some (.str x), none, none, none, none, none, none, none, none, none]) M1 := fun x => by simp
        have s2 : exec (callF tab d) (.set 2 .pl (.bin .add (.mt .split (.var 2) [(.str " ")]) (.lst (words12.map .str)))) [some (.loc 0), some (.int m), some (.str text38), none, none, none, none, none, none, none, none, none] M1 = .ok (.nx, [some (.loc 0), some (.int m), some (.lst ((words29 ++ words12).map W.str)), none, none, none, none, none, none, none, none, none]) M1 := by
          have el : evs (callF tab d) (words12.map E.str) [some (.loc 0), some (.int m), some (.str text38), none, none, none, none, none, none, none, none, none] M1 = .ok (words12.map W.str) M1 := by
            generalize words12 = l
            induction l with
            | nil => rfl
            | cons a l ih => simp [ih]
          have hz : words29.length + words12.length ≤ sizeLine := by rw [la, lb, sizeLine_eq]; omega
          simp only [ex_set, ev_bin, ev_mt, ev_var, ev_str, ev_lst, el, evs_cons, evs_nil, List.getElem?_cons_zero, List.getElem?_cons_succ, R.bind_ok, recv_split, if_true, mtW_split, words_split, R.of_some, binW_add, addW_lst, List.length_map, hz, hl]
          rfl
        have s3 : exec (callF tab d) (.set 3 .pl (.call 15 [(.var 0), (.lst [(.int 0), (.int 0), (.call 14 [(.var 0), (.bin .add (.bin .sub (.bi .len [(.var 2)]) (.var 1)) (.int 1))])])])) [some (.loc 0), some (.int m), some (.lst ((words29 ++ words12).map W.str)), none, none, none, none, none, none, none, none, none] M1 = .ok (.nx, [some (.loc 0), some (.int m), some (.lst ((words29 ++ words12).map W.str)), some (.int at_), none, none, none, none, none, none, none, none]) M3 := by
          simp only [ex_set, ev_call, evs_cons, evs_nil, ev_var, ev_lst, ev_int, ev_bin, ev_bi, List.getElem?_cons_zero, List.getElem?_cons_succ, R.bind_ok, biW_len, lenW_lst, hlen, R.of_some, binW_sub, subW_int, binW_add, addW_int]
          simp [e2, e3]
        have s4 : exec (callF tab d) (.ret (.sl (.var 2) (.v (.var 3)) (.v (.bin .add (.var 3) (.var 1))))) [some (.loc 0), some (.int m), some (.lst ((words29 ++ words12).map W.str)), some (.int at_), none, none, none, none, none, none, none, none] M3 = .ok (.rt (.lst ((((words29 ++ words12).drop at_).take m).map W.str)), [some (.loc 0), some (.int m), some (.lst ((words29 ++ words12).map W.str)), some (.int at_), none, none, none, none, none, none, none, none]) M3 := by
          simp only [ex_ret, ev_sl, evP_v, ev_var, ev_bin, List.getElem?_cons_zero, List.getElem?_cons_succ, R.bind_ok, partW_int, Option.map_some, R.of_some, binW_add, addW_int, slW_lst, ec]
        show exec _ (.ifs _ _ _) _ _ = _
        rw [ex_ifs, c, R.bind_ok, if_pos rfl, exs_cons, s1, R.bind_ok]
        show execs _ (_ :: _) _ _ = _
        rw [exs_cons]
        refine (congrArg (fun r => R.bind r _) s2).trans ?_
        rw [R.bind_ok]
        show execs _ (_ :: _) _ _ = _
        rw [exs_cons, s3, R.bind_ok]
        show execs _ (_ :: _) _ _ = _
        rw [exs_cons, s4, R.bind_ok]
      refine ⟨((words29 ++ words12).drop at_).take m, M3, fin_stop e4, b3, ?_, ?_, fun x hx => ?_, ?_⟩
      · rw [List.length_take, List.length_drop, words_len]; omega
      · exact (words_nodup.sublist (List.drop_sublist _ _)).sublist (List.take_sublist _ _)
      · exact words_okN x (List.mem_of_mem_drop (List.mem_of_mem_take hx))
      · exact (words_asc.sublist (List.drop_sublist _ _)).sublist (List.take_sublist _ _)
    · have e4 : exec (callF tab d) (F17__law_names.body.headD .pass) [some (.loc 0), some (.int m), none, none, none, none, none, none, none, none, none, none] M = .ok (.nx, [some (.loc 0), some (.int m), none, none, none, none, none, none, none, none, none, none]) M1 := by
        show exec _ (.ifs _ _ _) _ _ = _
        have m9 : (m : Int) < 9 := by omega
        simp [m9, e1, hk]
      obtain ⟨names, M2, e, r⟩ := back M1 b1
      exact ⟨names, M2, (fin_go e4).trans e, r⟩
  · have e4 : exec (callF tab d) (F17__law_names.body.headD .pass) [some (.loc 0), some (.int m), none, none, none, none, none, none, none, none, none, none] M = .ok (.nx, [some (.loc 0), some (.int m), none, none, none, none, none, none, none, none, none, none]) M := by
      show exec _ (.ifs _ _ _) _ _ = _
      have m9 : ¬ (m : Int) < 9 := by omega
      simp [m9]
    obtain ⟨names, M2, e, r⟩ := back M hb
    exact ⟨names, M2, (fin_go e4).trans e, r⟩
end
end Mi
end Sh3_

section Sh4_
set_option linter.all false
set_option Elab.async false
/-! Sh4: machines, works. -/
namespace Mi
open PySem L2
structure Mac where
  name : Str
  time : Int
structure Bn where
  name : Str
  start : Str
  goal : Str
  stock : Int
  room : Option Int
structure Wo where
  ms : List Mac
  bs : List Bn
def encM (m : Mac) : W := .tup [.str m.name, .int m.time]
def encO : Option Int → W
  | none => .non
  | some i => .int i
def encB (b : Bn) : W := .tup [.str b.name, .str b.start, .str b.goal, .int b.stock, encO b.room]
def encK (k : Wo) : W := .tup [.tup (k.ms.map encM), .tup (k.bs.map encB)]
/-- what a drawn works is -/
structure Fair (k : Wo) : Prop where
  names : (k.ms.map (·.name)).Nodup
  some_ : k.ms ≠ []
  few : k.ms.length ≤ 26
  times : ∀ m ∈ k.ms, 0 ≤ m.time ∧ m.time ≤ 1000
  bnames : (k.bs.map (·.name)).Nodup
  bfew : k.bs.length ≤ 26
  ends : ∀ b ∈ k.bs, b.start ∈ k.ms.map (·.name) ∧ b.goal ∈ k.ms.map (·.name)
  stocks : ∀ b ∈ k.bs, 0 ≤ b.stock
  rooms : ∀ b ∈ k.bs, ∀ r, b.room = some r → b.stock ≤ r ∧ 1 ≤ r
  okM : ∀ m ∈ k.ms, OkN m.name
  okB : ∀ b ∈ k.bs, OkN b.name
  ascM : (k.ms.map (·.name)).Pairwise ltS
  ascB : (k.bs.map (·.name)).Pairwise ltS
theorem Fair.shortM {k : Wo} (h : Fair k) : ∀ m ∈ k.ms, m.name.length ≤ 20 := fun m hm => by
  have := (h.okM m hm).high
  omega
theorem Fair.shortB {k : Wo} (h : Fair k) : ∀ b ∈ k.bs, b.name.length ≤ 20 := fun m hm => by
  have := (h.okB m hm).high
  omega
section
variable {tab : Nat → Option Fn}
abbrev mcBody : List S := [.app 2 (.tup [(.var 3), (.call 15 [(.var 0), (.lst [(.int 0), (.int 1), (.bin .add (.int 1) (.call 14 [(.var 0), (.int 9)])), (.bin .add (.int 1) (.call 14 [(.var 0), (.int 9)])), (.call 14 [(.var 0), (.int 1001)])])])])]
structure McInv (m : Int) (done : List Str) (ρ : Env) (M : List W) : Prop where
  box : IsBox M
  ex : ∃ (ms : List Mac) (a : Option W), ρ = [some (.loc 0), some (.int m), some (.lst (ms.map encM)), a] ∧ ms.map (·.name) = done ∧ ∀ c ∈ ms, 0 ≤ c.time ∧ c.time ≤ 1000
theorem machines_ok (h14 : tab 14 = some F14__law_take) (h15 : tab 15 = some F15__law_pick) (h16 : tab 16 = some F16__law_word) (h17 : tab 17 = some F17__law_names) (h18 : tab 18 = some F18__law_machines) {M : List W} (hb : IsBox M) {m : Nat} (hm : m ≤ 26) (n : Nat) (hn : 4 ≤ n) :
    ∃ (ms : List Mac) (M' : List W), callF tab n 18 [.loc 0, .int m] M = .ok (.tup (ms.map encM)) M' ∧ IsBox M' ∧ Names m (ms.map (·.name)) ∧ ∀ c ∈ ms, 0 ≤ c.time ∧ c.time ≤ 1000 := by
  obtain ⟨d, rfl⟩ : ∃ d, n = d + 1 := ⟨n - 1, by omega⟩
  obtain ⟨names, M1, e1, b1, hN⟩ := names_ok h14 h15 h16 h17 hb hm d (by omega)
  obtain ⟨ρ', M2, e2, I⟩ := forL_inv (f := bodyF (callF tab d) (.nm 3) mcBody) (e := W.str) (McInv m) names (ρ := [some (.loc 0), some (.int m), some (.lst []), none]) (M := M1) ⟨b1, [], none, rfl, rfl, fun _ h => nomatch h⟩ fun done x rest ρ M hx I => by
    obtain ⟨bx, ms, a, rfl, hd, ht⟩ := I
    obtain ⟨k1, N1, x1, c1, a1, a1'⟩ := take_ok h14 bx (many := 9) (by decide) d (by omega)
    obtain ⟨k2, N2, x2, c2, a2, a2'⟩ := take_ok h14 c1 (many := 9) (by decide) d (by omega)
    obtain ⟨k3, N3, x3, c3, a3, a3'⟩ := take_ok h14 c2 (many := 1001) (by decide) d (by omega)
    obtain ⟨w, N4, x4, c4, hw⟩ := pick_ok h14 h15 c3 (ws := [.int 0, .int 1, .int (1 + k1), .int (1 + k2), .int k3]) (by simp) d (by omega)
    obtain ⟨t, hi, rfl⟩ := take3 (l := [0, 1, 1 + k1, 1 + k2, k3]) hw
    have ht' : 0 ≤ t ∧ t ≤ 1000 := by
      simp at hi
      rcases hi with rfl | rfl | rfl | rfl | rfl <;> omega
    have hl := congrArg List.length hx
    have hz : ms.length < 16777216 := by
      have := congrArg List.length hd
      rw [List.length_map] at this
      have := hN.len
      rw [List.length_append, List.length_cons] at hl
      omega
    refine ⟨[some (.loc 0), some (.int m), some (.lst ((ms ++ [(⟨x, t⟩ : Mac)]).map encM)), some (.str x)], N4, ?_, c4, ms ++ [(⟨x, t⟩ : Mac)], some (.str x), rfl, by simp [hd], fun c hc => ?_⟩
    · simp [bodyF, x1, x2, x3, x4, sizeLine_eq, hz, encM]
    · rcases List.mem_append.mp hc with hc | hc
      · exact ht c hc
      · rw [List.mem_singleton.mp hc]; exact ht'
  obtain ⟨b2, ms, a, rfl, hd, ht⟩ := I
  refine ⟨ms, M2, ?_, b2, hd ▸ hN, ht⟩
  rw [call_of h18 _ _ _ rfl]
  simp [F18__law_machines, e1, e2]
/-- one of drawn values of a kind -/
theorem pick_of (h14 : tab 14 = some F14__law_take) (h15 : tab 15 = some F15__law_pick) {α : Type} (e : α → W) {M : List W} (hb : IsBox M) {l : List α} (hl : l ≠ []) (n : Nat) (hn : 2 ≤ n) :
    ∃ x ∈ l, ∃ M', callF tab n 15 [.loc 0, .lst (l.map e)] M = .ok (e x) M' ∧ IsBox M' := by
  obtain ⟨w, M', e1, b, hw⟩ := pick_ok h14 h15 hb (ws := l.map e) (by simpa using hl) n hn
  obtain ⟨x, hx, rfl⟩ := List.mem_map.mp hw
  exact ⟨x, hx, M', e1, b⟩
abbrev wkBody : List S := [.set 9 .pl (.call 15 [(.var 0), (.lst [(.int 0), (.int 0), (.int 0), (.int 1), (.int 2), (.call 14 [(.var 0), (.var 3)])])]),
    .set 10 .pl (.call 15 [(.var 0), (.lst [.non, .non, (.bi .max [(.var 9), (.int 1)]), (.bin .add (.bi .max [(.var 9), (.int 1)]) (.call 14 [(.var 0), (.int 4)]))])]),
    .app 7 (.tup [(.var 8), (.call 15 [(.var 0), (.var 5)]), (.call 15 [(.var 0), (.var 5)]), (.var 9), (.var 10)])]
structure GoodB (ms : List Mac) (b : Bn) : Prop where
  ends : b.start ∈ ms.map (·.name) ∧ b.goal ∈ ms.map (·.name)
  stock : 0 ≤ b.stock
  room : ∀ r, b.room = some r → b.stock ≤ r ∧ 1 ≤ r
structure WkInv (ms : List Mac) (most bins : Nat) (great : Int) (done : List Str) (ρ : Env) (M : List W) : Prop where
  box : IsBox M
  ex : ∃ (bs : List Bn) (a b c d : Option W), ρ = [some (.loc 0), some (.int most), some (.int bins), some (.int great), some (.tup (ms.map encM)), some (.lst ((ms.map (·.name)).map .str)), a, some (.lst (bs.map encB)), b, c, d] ∧ bs.map (·.name) = done ∧ ∀ c ∈ bs, GoodB ms c
theorem wk_step (h14 : tab 14 = some F14__law_take) (h15 : tab 15 = some F15__law_pick) {ms : List Mac} (hms : ms ≠ []) {most bins : Nat} {great : Int} (hg : 0 < great) {n : Nat} (hn : 2 ≤ n) {done : List Str} {x : Str} {ρ : Env} {M : List W} (hd : done.length < 16777216) (I : WkInv ms most bins great done ρ M) :
    ∃ ρ' M', bodyF (callF tab n) (.nm 8) wkBody (.str x) ρ M = .ok (.nx, ρ') M' ∧ WkInv ms most bins great (done ++ [x]) ρ' M' := by
  obtain ⟨bx, bs, a, b, c, d, rfl, hl, hb⟩ := I
  obtain ⟨k1, N1, x1, c1, a1, a1'⟩ := take_ok h14 bx hg n (by omega)
  obtain ⟨st, hst, N2, x2, c2⟩ := pick_of h14 h15 W.int c1 (l := [0, 0, 0, 1, 2, k1]) (by simp) n hn
  have s0 : 0 ≤ st := by
    simp at hst
    rcases hst with rfl | rfl | rfl | rfl <;> omega
  obtain ⟨k3, N3, x3, c3, a3, a3'⟩ := take_ok h14 c2 (many := 4) (by decide) n (by omega)
  obtain ⟨rm, hrm, N4, x4, c4⟩ := pick_of h14 h15 encO c3 (l := [none, none, some (if 1 > st then 1 else st), some ((if 1 > st then 1 else st) + k3)]) (by simp) n hn
  have r0 : ∀ r, rm = some r → st ≤ r ∧ 1 ≤ r := fun r hr => by
    subst hr
    simp at hrm
    rcases hrm with rfl | rfl <;> split <;> omega
  obtain ⟨s1, hs1, N5, x5, c5⟩ := pick_of h14 h15 W.str c4 (l := ms.map (·.name)) (by simpa using hms) n hn
  obtain ⟨s2, hs2, N6, x6, c6⟩ := pick_of h14 h15 W.str c5 (l := ms.map (·.name)) (by simpa using hms) n hn
  have hz : bs.length < 16777216 := by
    have := congrArg List.length hl
    rw [List.length_map] at this
    omega
  refine ⟨[some (.loc 0), some (.int most), some (.int bins), some (.int great), some (.tup (ms.map encM)), some (.lst ((ms.map (·.name)).map .str)), a, some (.lst ((bs ++ [(⟨x, s1, s2, st, rm⟩ : Bn)]).map encB)), some (.str x), some (.int st), some (encO rm)], N6, ?_, c6, bs ++ [(⟨x, s1, s2, st, rm⟩ : Bn)], a, _, _, _, rfl, by simp [hl], fun y hy => ?_⟩
  · simp only [List.map_cons, List.map_nil, encO] at x2 x4
    simp [bodyF, x1, x2, x3, x4, x5, x6, sizeLine_eq, hz, encB, encO, -List.map_map]
  · rcases List.mem_append.mp hy with hy | hy
    · exact hb y hy
    · rw [List.mem_singleton.mp hy]
      exact ⟨⟨hs1, hs2⟩, s0, r0⟩
theorem works_ok (h14 : tab 14 = some F14__law_take) (h15 : tab 15 = some F15__law_pick) (h16 : tab 16 = some F16__law_word) (h17 : tab 17 = some F17__law_names) (h18 : tab 18 = some F18__law_machines) (h19 : tab 19 = some F19__law_works) {M : List W} (hb : IsBox M) {most bins : Nat} {great : Int} (hm : 1 ≤ most ∧ most ≤ 25) (hbn : bins ≤ 25) (hg : 0 < great) (n : Nat) (hn : 5 ≤ n) :
    ∃ (k : Wo) (M' : List W), callF tab n 19 [.loc 0, .int most, .int bins, .int great] M = .ok (encK k) M' ∧ IsBox M' ∧ Fair k ∧ k.ms.length ≤ most ∧ k.bs.length ≤ bins := by
  obtain ⟨d, rfl⟩ : ∃ d, n = d + 1 := ⟨n - 1, by omega⟩
  obtain ⟨k1, N1, x1, c1, a1, a1'⟩ := take_ok h14 hb (many := most) (by omega) d (by omega)
  obtain ⟨m, rfl⟩ := Int.eq_ofNat_of_zero_le a1
  obtain ⟨ms, N2, x2, c2, hM, hT⟩ := machines_ok h14 h15 h16 h17 h18 c1 (m := 1 + m) (by omega) d (by omega)
  obtain ⟨k2, N3, x3, c3, a3, a3'⟩ := take_ok h14 c2 (many := bins + 1) (by omega) d (by omega)
  obtain ⟨m2, rfl⟩ := Int.eq_ofNat_of_zero_le a3
  obtain ⟨names, N4, x4, c4, hN⟩ := names_ok h14 h15 h16 h17 c3 (m := m2) (by omega) d (by omega)
  have lm : ms.length = 1 + m := by have := hM.len; rwa [List.length_map] at this
  have hms : ms ≠ [] := fun z => by rw [z] at lm; simp at lm; omega
  obtain ⟨ρ', N5, x5, I⟩ := forL_inv (f := bodyF (callF tab d) (.nm 8) wkBody) (e := W.str) (WkInv ms most bins great) names (ρ := [some (.loc 0), some (.int most), some (.int bins), some (.int great), some (.tup (ms.map encM)), some (.lst ((ms.map (·.name)).map .str)), none, some (.lst []), none, none, none]) (M := N4) ⟨c4, [], none, none, none, none, rfl, rfl, fun _ h => nomatch h⟩ fun done x rest ρ M hx I => by
    have hl := congrArg List.length hx
    rw [List.length_append, List.length_cons] at hl
    have := hN.len
    exact wk_step h14 h15 hms hg (by omega) (by omega) I
  obtain ⟨b5, bs, a, b, c, e, rfl, hd, hB⟩ := I
  have lb : bs.length = m2 := by
    have := hN.len
    rw [← hd, List.length_map] at this
    exact this
  have x2' : callF tab d 18 [.loc 0, .int (1 + (m : Int))] N1 = .ok (.tup (ms.map encM)) N2 := by
    have e : (1 + (m : Int)) = ((1 + m : Nat) : Int) := by omega
    rw [e]; exact x2
  have xl : compL (turnL (callF tab d) (.ix (.var 6) (.int 0)) (.nm 6) .yes [6] [some (.loc 0), some (.int most), some (.int bins), some (.int great), some (.tup (ms.map encM)), none, none, none, none, none, none]) (ms.map encM) N2 = .ok ((ms.map (·.name)).map .str) N2 := by
    rw [compL_pure (g := fun c => some (.str c.name)) ms fun c _ => by simp [turnL, encM]]
    rw [List.filterMap_eq_map']
    simp
  refine ⟨⟨ms, bs⟩, N5, ?_, b5, ⟨hM.nd, hms, by show ms.length ≤ 26; omega, hT, by show (bs.map (·.name)).Nodup; rw [hd]; exact hN.nd, by show bs.length ≤ 26; omega, fun b h => (hB b h).ends, fun b h => (hB b h).stock, fun b h => (hB b h).room, fun c h => hM.ok _ (List.mem_map.mpr ⟨c, h, rfl⟩), fun c h => hN.ok _ (by rw [← hd]; exact List.mem_map.mpr ⟨c, h, rfl⟩), hM.asc, by show (bs.map (·.name)).Pairwise ltS; rw [hd]; exact hN.asc⟩, by show ms.length ≤ most; omega, by show bs.length ≤ bins; omega⟩
  rw [call_of h19 _ _ _ rfl]
  simp [F19__law_works, x1, x2', xl, x3, x4, x5, encK, -List.map_map]
end
end Mi
end Sh4_

section Sh5_
set_option linter.all false
set_option Elab.async false
/-! Sh5: digits, the box. -/
namespace Mi
open PySem L2
section
variable {tab : Nat → Option Fn}
abbrev dg1 : List S := [.app 3 (.bin .mod (.bi .int [(.var 2)]) (.int 1000003)),
      .set 2 .pl (.bin .fdiv (.var 2) (.int 1000003)),
      .ifs (.cmp .eq (.var 2) (.int 0)) [.brk] []]
abbrev dg2 : List S := [.set 5 .pl (.bin .mod (.bi .int [(.bin .mul (.bin .add (.bin .add (.var 2) (.bin .mul (.int 11) (.var 4))) (.int 3)) (.int 48271))]) (.int 2147483647)),
    .set 5 .pl (.bin .mod (.bi .int [(.bin .add (.bin .add (.bin .mul (.var 5) (.int 69621)) (.bin .mul (.int 37) (.var 4))) (.int 5))]) (.int 2147483629)),
    .app 3 (.bin .mod (.bi .int [(.bin .fdiv (.var 5) (.int 5))]) (.int 1000003))]
structure DgInv (c m : Int) (M0 : List W) (done : List Nat) (ρ : Env) (M : List W) : Prop where
  st : M = M0
  ex : ∃ (k : Int) (row : List Int) (a b : Option W), ρ = [some (.int c), some (.int m), some (.int k), some (.lst (row.map .int)), a, b] ∧ row.length ≤ done.length
theorem digits_ok (h12 : tab 12 = some F12__law_digits) (c : Int) {m : Nat} (hm : m ≤ 1000) (M : List W) (n : Nat) (hn : 1 ≤ n) : ∃ row : List Int, callF tab n 12 [.int c, .int m] M = .ok (.lst (row.map .int)) M ∧ row.length ≤ m := by
  obtain ⟨d, rfl⟩ : ∃ d, n = d + 1 := ⟨n - 1, by omega⟩
  rw [call_of h12 _ _ _ rfl]
  -- the number
  have two : ∀ k : Int, ∃ row : List Int, fin (execs (callF tab d) (F12__law_digits.body.drop 2) [some (.int c), some (.int m), some (.int k), none, none, none] M) = .ok (.lst (row.map .int)) M ∧ row.length ≤ m := fun k => by
    have er := range_len m (by omega)
    have p18 : powW (.int 10) (.int 18) = some (.int (10 ^ 18)) := by simp [powW]
    by_cases hk : (1000000000000000000 : Int) ≤ k
    · rcases forL_stop (f := bodyF (callF tab d) (.nm 4) dg1) (e := fun k : Nat => W.int k) (DgInv c m M) (fun ρ M' => ∃ l : List Nat, l.length ≤ m ∧ DgInv c m M l ρ M') (fun _ _ => False) (List.range m) (ρ := [some (.int c), some (.int m), some (.int k), some (.lst []), none, none]) (M := M) ⟨rfl, k, [], none, none, rfl, Nat.le_refl _⟩ (fun done x rest ρ M' hx I => by
        obtain ⟨rfl, k, row, a, b, rfl, hl⟩ := I
        have hlen := congrArg List.length hx
        rw [List.length_range, List.length_append, List.length_cons] at hlen
        have hz : row.length < 16777216 := by omega
        have I2 : DgInv c m M' (done ++ [x]) [some (.int c), some (.int m), some (.int (k / 1000003)), some (.lst ((row ++ [k % 1000003]).map .int)), some (.int x), b] M' := ⟨rfl, k / 1000003, row ++ [k % 1000003], some (.int x), b, rfl, by simp; omega⟩
        by_cases h0 : k / 1000003 = 0
        · refine .inr (.inl ⟨_, M', ?_, done ++ [x], by simp; omega, I2⟩)
          simp [bodyF, modW_pos, fdivW_pos, sizeLine_eq, hz, h0]
        · refine .inl ⟨_, M', ?_, I2⟩
          simp [bodyF, modW_pos, fdivW_pos, sizeLine_eq, hz, h0]) (fun ρ M' I => ⟨_, by rw [List.length_range]; exact Nat.le_refl _, I⟩) with ⟨ρ', M', e, l, hl, I⟩ | ⟨v, ρ', M', e, q⟩
      · obtain ⟨rfl, k', row, a, b, rfl, hr⟩ := I
        refine ⟨row, ?_, by omega⟩
        simp only [F12__law_digits, List.drop_succ_cons, List.drop_zero]
        simp [p18, hk, er, e]
      · exact q.elim
    · obtain ⟨ρ', M', e, I⟩ := forL_inv (f := bodyF (callF tab d) (.nm 4) dg2) (e := fun k : Nat => W.int k) (DgInv c m M) (List.range m) (ρ := [some (.int c), some (.int m), some (.int k), some (.lst []), none, none]) (M := M) ⟨rfl, k, [], none, none, rfl, Nat.le_refl _⟩ fun done x rest ρ M' hx I => by
        obtain ⟨rfl, k, row, a, b, rfl, hl⟩ := I
        have hlen := congrArg List.length hx
        rw [List.length_range, List.length_append, List.length_cons] at hlen
        have hz : row.length < 16777216 := by omega
        refine ⟨_, M', ?_, rfl, k, row ++ [((((k + 11 * (x : Int) + 3) * 48271) % 2147483647 * 69621 + 37 * (x : Int) + 5) % 2147483629 / 5) % 1000003], some (.int x), some (.int ((((k + 11 * (x : Int) + 3) * 48271) % 2147483647 * 69621 + 37 * (x : Int) + 5) % 2147483629)), rfl, by simp; omega⟩
        simp [bodyF, modW_pos, fdivW_pos, mulW_l, mulW_r, sizeLine_eq, hz]
      obtain ⟨rfl, k', row, a, b, rfl, hr⟩ := I
      rw [List.length_range] at hr
      refine ⟨row, ?_, by omega⟩
      simp only [F12__law_digits, List.drop_succ_cons, List.drop_zero]
      simp [p18, hk, er, e]
  by_cases h0 : c < 0
  · obtain ⟨row, e, hl⟩ := two (0 - 1 - c)
    refine ⟨row, ?_, hl⟩
    rw [← e]
    simp [F12__law_digits, h0]
  · obtain ⟨row, e, hl⟩ := two c
    refine ⟨row, ?_, hl⟩
    rw [← e]
    simp [F12__law_digits, h0]
structure BxInv (ns : List Int) (M0 : List W) (done : List Int) (ρ : Env) (M : List W) : Prop where
  st : M = M0
  ex : ∃ (row : List Int) (a : Option W), ρ = [some (.frz ns), some (.lst (row.map .int)), a] ∧ row.length ≤ 6 * done.length
theorem box_ok (h12 : tab 12 = some F12__law_digits) (h13 : tab 13 = some F13__law_box) {ns : List Int} (hn : ns.length ≤ 63) (M : List W) (n : Nat) (hn : 2 ≤ n) : ∃ row : List Int, callF tab n 13 [.frz ns] M = .ok (boxW row 0) M ∧ 0 < row.length ∧ row.length ≤ 1000 := by
  obtain ⟨d, rfl⟩ : ∃ d, n = d + 1 := ⟨n - 1, by omega⟩
  rw [call_of h13 _ _ _ rfl]
  obtain ⟨ρ', M', e, I⟩ := forL_inv (f := bodyF (callF tab d) (.nm 2) [.set 1 .pl (.bin .add (.var 1) (.call 12 [(.var 2), (.int 6)]))]) (e := W.int) (BxInv ns M) ns (ρ := [some (.frz ns), some (.lst []), none]) (M := M) ⟨rfl, [], none, rfl, Nat.le_refl _⟩ fun done x rest ρ M' hx I => by
    obtain ⟨rfl, row, a, rfl, hl⟩ := I
    obtain ⟨r2, e2, l2⟩ := digits_ok h12 x (m := 6) (by decide) M' d (by omega)
    have hlen := congrArg List.length hx
    rw [List.length_append, List.length_cons] at hlen
    have hz : row.length + r2.length ≤ 16777216 := by omega
    have e2 : callF tab d 12 [.int x, .int 6] M' = .ok (.lst (r2.map .int)) M' := e2
    refine ⟨_, M', ?_, rfl, row ++ r2, some (.int x), rfl, by simp; omega⟩
    simp [bodyF, e2, sizeLine_eq, hz]
  obtain ⟨rfl, row, a, rfl, hl⟩ := I
  have dk : dctOf [] [.str "row", .lst (row.map .int), .str "at", .int 0] = some [(.s "row", .lst (row.map .int)), (.s "at", .int 0)] := rfl
  have dk2 : dctOf [] [.str "row", .lst [.int 5, .int 77, .int 1031, .int 40009, .int 3, .int 900001, .int 12], .str "at", .int 0] = some [(.s "row", .lst ([5, 77, 1031, 40009, 3, 900001, 12].map .int)), (.s "at", .int 0)] := rfl
  by_cases h0 : row = []
  · subst h0
    refine ⟨[5, 77, 1031, 40009, 3, 900001, 12], ?_, by decide, by decide⟩
    simp only [List.map_nil] at e
    simp [F13__law_box, e, dk2, boxW]
  · have h1 : 0 < row.length := List.length_pos_iff.mpr h0
    refine ⟨row, ?_, h1, by omega⟩
    have h2 : ¬ ((row.length : Int) = 0) := by omega
    simp [F13__law_box, e, dk, boxW, h0]
end
end Mi
end Sh5_

section Sh6_
set_option linter.all false
set_option Elab.async false
/-! Sh6: ties, stocks. -/
namespace Mi
open PySem L2
/-! ### equality of a value with itself -/
mutual
theorem weq_refl : ∀ (x : W), x.depth < 1000 → weq x x = true
  | .non, _ => rfl
  | .bl b, _ => by simp [weq]
  | .int i, _ => by simp [weq]
  | .str s, _ => by simp [weq]
  | .lst xs, h => by
    unfold W.depth at h
    unfold weq
    exact weqL_refl xs (by omega)
  | .tup xs, h => by
    unfold W.depth at h
    unfold weq
    exact weqL_refl xs (by omega)
  | .dct _, h => by unfold W.depth at h; omega
  | .frz _, h => by unfold W.depth at h; omega
  | .loc _, h => by unfold W.depth at h; omega
theorem weqL_refl : ∀ (xs : List W), depthL xs < 1000 → weqL xs xs = true
  | [], _ => rfl
  | x :: xs, h => by
    unfold depthL at h
    unfold weqL
    rw [weq_refl x (by omega), weqL_refl xs (by omega)]; rfl
end
theorem eqW_self {x : W} (h : x.depth ≤ 60) : eqW x x = some true := by
  unfold eqW
  rw [if_pos ⟨h, h⟩, weq_refl x (by omega)]
theorem depthL_map {α : Type} {e : α → W} {d : Nat} : ∀ (l : List α), (∀ x ∈ l, (e x).depth ≤ d) → depthL (l.map e) ≤ d
  | [], _ => Nat.zero_le _
  | x :: l, h => by
    rw [List.map_cons]
    unfold depthL
    have h1 := h x List.mem_cons_self
    have h2 := depthL_map l fun y hy => h y (List.mem_cons_of_mem _ hy)
    omega
@[simp] theorem depth_lst (xs : List W) : (W.lst xs).depth = depthL xs + 1 := by rw [W.depth]
@[simp] theorem depth_tup (xs : List W) : (W.tup xs).depth = depthL xs + 1 := by rw [W.depth]
@[simp] theorem depth_int (i : Int) : (W.int i).depth = 0 := by rw [W.depth] <;> simp
@[simp] theorem depth_str (i : Str) : (W.str i).depth = 0 := by rw [W.depth] <;> simp
@[simp] theorem depth_bl (i : Bool) : (W.bl i).depth = 0 := by rw [W.depth] <;> simp
@[simp] theorem depth_non : W.non.depth = 0 := by rw [W.depth] <;> simp
@[simp] theorem depthL_nil : depthL [] = 0 := by rw [depthL]
@[simp] theorem depthL_cons (x : W) (xs : List W) : depthL (x :: xs) = max x.depth (depthL xs) := by rw [depthL]

/-! ### dicts -/
theorem get_put (kvs : List (Ky × W)) (k k' : Ky) (v : W) : getK (putK kvs k v) k' = if k = k' then some v else getK kvs k' := by
  unfold getK putK
  by_cases ha : (kvs.any fun p => decide (p.1 = k)) = true
  · rw [if_pos ha]
    induction kvs with
    | nil => simp at ha
    | cons p r ih =>
      rw [List.map_cons, List.find?_cons, List.find?_cons]
      by_cases hp : p.1 = k
      · rw [if_pos hp]
        by_cases hk : k = k'
        · have : decide (p.1 = k') = true := by simp [hp, hk]
          simp [this, hk]
        · have e : decide (p.1 = k') = false := by simp [hp, hk]
          rw [if_neg hk]
          simp only [e]
          by_cases hr : (r.any fun p => decide (p.1 = k)) = true
          · have := ih hr
            rw [if_neg hk] at this
            exact this
          · have : r.map (fun p => if p.1 = k then (p.1, v) else p) = r := by
              rw [show r.map (fun p => if p.1 = k then (p.1, v) else p) = r.map id from List.map_congr_left fun q hq => if_neg fun z => hr (List.any_eq_true.mpr ⟨q, hq, by simp [z]⟩), List.map_id]
            rw [this]
      · rw [if_neg hp]
        have hr : (r.any fun p => decide (p.1 = k)) = true := by simpa [hp] using ha
        by_cases hk' : p.1 = k'
        · have : ¬ k = k' := fun z => hp (hk'.trans z.symm)
          simp [hk', this]
        · simp only [decide_eq_false hk']
          exact ih hr
  · rw [if_neg ha, List.find?_append]
    by_cases hk : k = k'
    · subst hk
      have : kvs.find? (fun p => decide (p.1 = k)) = none := by
        rw [List.find?_eq_none]
        intro p hp z
        exact ha (List.any_eq_true.mpr ⟨p, hp, z⟩)
      simp [this]
    · simp [hk]

/-! ### ties -/
structure Ti where
  kind : Str
  name : Str
  start : Str
  goal : Str
  count : Int
def encT (t : Ti) : W := .tup [.tup [.str t.kind, .str t.name], .str t.start, .str t.goal, .int t.count]
def partOf (b : Bn) : Ti := ⟨"part", b.name, b.start, b.goal, b.stock⟩
def roomOf (b : Bn) : Option Ti := b.room.map fun r => ⟨"room", b.name, b.goal, b.start, r - b.stock⟩
def tiesOf (k : Wo) : List Ti := k.bs.map partOf ++ k.bs.filterMap roomOf
theorem depth_T (t : Ti) : (encT t).depth ≤ 2 := by simp [encT]
theorem depth_B (b : Bn) : (encB b).depth ≤ 1 := by
  unfold encB
  cases b.room <;> simp [encO]
theorem ties_len (k : Wo) : (tiesOf k).length ≤ 2 * k.bs.length := by
  unfold tiesOf
  have := List.length_filterMap_le roomOf k.bs
  rw [List.length_append, List.length_map]; omega
@[simp] theorem isW_O (o : Option Int) : isW (encO o) .non = some o.isNone := by cases o <;> rfl
section
variable {tab : Nat → Option Fn}
theorem fm_snoc {α β : Type} (f : α → Option β) (l : List α) (x : α) : (l ++ [x]).filterMap f = l.filterMap f ++ (f x).toList := by
  rw [List.filterMap_append, List.filterMap_cons]
  cases f x <;> rfl
/-- the machines' names -/
theorem name_list_ok (h20 : tab 20 = some F20__law_name_list) (k : Wo) (M : List W) (n : Nat) (hn : 1 ≤ n) : callF tab n 20 [encK k] M = .ok (.lst ((k.ms.map (·.name)).map .str)) M := by
  obtain ⟨d, rfl⟩ : ∃ d, n = d + 1 := ⟨n - 1, by omega⟩
  have xl : compL (turnL (callF tab d) (.ix (.var 1) (.int 0)) (.nm 1) .yes [1] [some (encK k), none]) (k.ms.map encM) M = .ok ((k.ms.map (·.name)).map .str) M := by
    rw [compL_pure (g := fun c => some (.str c.name)) k.ms fun c _ => by simp [turnL, encM]]
    rw [List.filterMap_eq_map']
    simp
  rw [call_of h20 _ _ _ rfl]
  unfold encK at xl
  simp [F20__law_name_list, encK, xl, -List.map_map]
theorem names_of_ok (h26 : tab 26 = some F26_names_of) (k : Wo) (M : List W) (n : Nat) (hn : 1 ≤ n) : callF tab n 26 [encK k] M = .ok (.lst ((k.ms.map (·.name)).map .str)) M := by
  obtain ⟨d, rfl⟩ : ∃ d, n = d + 1 := ⟨n - 1, by omega⟩
  have xl : compL (turnL (callF tab d) (.ix (.var 1) (.int 0)) (.nm 1) .yes [1] [some (encK k), none]) (k.ms.map encM) M = .ok ((k.ms.map (·.name)).map .str) M := by
    rw [compL_pure (g := fun c => some (.str c.name)) k.ms fun c _ => by simp [turnL, encM]]
    rw [List.filterMap_eq_map']
    simp
  rw [call_of h26 _ _ _ rfl]
  unfold encK at xl
  simp [F26_names_of, encK, xl, -List.map_map]
/-- the law's ties -/
structure TsInv (k : Wo) (M0 : List W) (done : List Bn) (ρ : Env) (M : List W) : Prop where
  st : M = M0
  ex : ∃ a b c d e, ρ = [some (encK k), some (.lst ((done.map partOf).map encT)), some (.lst ((done.filterMap roomOf).map encT)), a, b, c, d, e]
theorem law_ties_ok (h32 : tab 32 = some F32__law_ties) (k : Wo) (hk : k.bs.length ≤ 1000) (M : List W) (n : Nat) (hn : 1 ≤ n) : callF tab n 32 [encK k] M = .ok (.lst ((tiesOf k).map encT)) M := by
  obtain ⟨d, rfl⟩ : ∃ d, n = d + 1 := ⟨n - 1, by omega⟩
  rw [call_of h32 _ _ _ rfl]
  obtain ⟨ρ', M', e, I⟩ := forL_inv (f := bodyF (callF tab d) (.tp [(.nm 3), (.nm 4), (.nm 5), (.nm 6), (.nm 7)]) [.app 1 (.tup [(.tup [(.str "part"), (.var 3)]), (.var 4), (.var 5), (.var 6)]),
    .ifs (.cmp .isn (.var 7) .non) [.app 2 (.tup [(.tup [(.str "room"), (.var 3)]), (.var 5), (.var 4), (.bin .sub (.var 7) (.var 6))])] []]) (e := encB) (TsInv k M) k.bs (ρ := [some (encK k), some (.lst []), some (.lst []), none, none, none, none, none]) (M := M) ⟨rfl, none, none, none, none, none, rfl⟩ fun done x rest ρ M' hx I => by
    obtain ⟨rfl, a, b, c, d', e, rfl⟩ := I
    have hlen := congrArg List.length hx
    rw [List.length_append, List.length_cons] at hlen
    have z1 : (done.map partOf).length < 16777216 := by rw [List.length_map]; omega
    have z2 : (done.filterMap roomOf).length < 16777216 := by have := List.length_filterMap_le roomOf done; omega
    have z1' : done.length < 16777216 := by omega
    cases hr : x.room with
    | none =>
      refine ⟨[some (encK k), some (.lst (((done ++ [x]).map partOf).map encT)), some (.lst (((done ++ [x]).filterMap roomOf).map encT)), some (.str x.name), some (.str x.start), some (.str x.goal), some (.int x.stock), some .non], M', ?_, rfl, _, _, _, _, _, rfl⟩
      simp [bodyF, encB, encO, hr, sizeLine_eq, z1', encT, partOf, fm_snoc, roomOf]
    | some r =>
      refine ⟨[some (encK k), some (.lst (((done ++ [x]).map partOf).map encT)), some (.lst (((done ++ [x]).filterMap roomOf).map encT)), some (.str x.name), some (.str x.start), some (.str x.goal), some (.int x.stock), some (.int r)], M', ?_, rfl, _, _, _, _, _, rfl⟩
      simp only [fm_snoc, List.map_append]
      generalize done.filterMap roomOf = l at z2
      simp [bodyF, encB, encO, hr, sizeLine_eq, z1', z2, encT, partOf, roomOf]
  obtain ⟨rfl, a, b, c, d', e', rfl⟩ := I
  have z : (k.bs.map partOf).length + (k.bs.filterMap roomOf).length ≤ 16777216 := by
    have := List.length_filterMap_le roomOf k.bs
    rw [List.length_map]; omega
  unfold encK at e
  unfold tiesOf
  generalize k.bs.map partOf = l1 at z e
  generalize k.bs.filterMap roomOf = l2 at z e
  simp [F32__law_ties, encK, e, sizeLine_eq, z]
end
end Mi
end Sh6_

section Sh7_
set_option linter.all false
set_option Elab.async false
/-! Sh7: the program's ties, stocks. -/
namespace Mi
open PySem L2
section
variable {tab : Nat → Option Fn}
structure TiInv (k : Wo) (M0 : List W) (ps : List W) (done : List Bn) (ρ : Env) (M : List W) : Prop where
  st : M = M0
  ex : ∃ a b c d e, ρ = [some (encK k), some (.lst ps), a, b, c, d, e, some (.lst ((done.filterMap roomOf).map encT))]
theorem ties_of_ok (h27 : tab 27 = some F27_ties_of) (k : Wo) (hk : k.bs.length ≤ 1000) (M : List W) (n : Nat) (hn : 1 ≤ n) : callF tab n 27 [encK k] M = .ok (.lst ((tiesOf k).map encT)) M := by
  obtain ⟨d, rfl⟩ : ∃ d, n = d + 1 := ⟨n - 1, by omega⟩
  rw [call_of h27 _ _ _ rfl]
  have xl : compL (turnL (callF tab d) (.tup [(.tup [(.str "part"), (.var 2)]), (.var 3), (.var 4), (.var 5)]) (.tp [(.nm 2), (.nm 3), (.nm 4), (.nm 5), (.nm 6)]) .yes [2, 3, 4, 5, 6] [some (encK k), none, none, none, none, none, none, none]) (k.bs.map encB) M = .ok ((k.bs.map partOf).map encT) M := by
    rw [compL_pure (g := fun b => some (encT (partOf b))) k.bs fun c _ => by simp [turnL, encB, encT, partOf]]
    rw [List.filterMap_eq_map']
    simp
  obtain ⟨ρ', M', e, I⟩ := forL_inv (f := bodyF (callF tab d) (.tp [(.nm 2), (.nm 3), (.nm 4), (.nm 5), (.nm 6)]) [.ifs (.cmp .isn (.var 6) .non) [.app 7 (.tup [(.tup [(.str "room"), (.var 2)]), (.var 4), (.var 3), (.bin .sub (.var 6) (.var 5))])] []]) (e := encB) (TiInv k M ((k.bs.map partOf).map encT)) k.bs (ρ := [some (encK k), some (.lst ((k.bs.map partOf).map encT)), none, none, none, none, none, some (.lst [])]) (M := M) ⟨rfl, none, none, none, none, none, rfl⟩ fun done x rest ρ M' hx I => by
    obtain ⟨rfl, a, b, c, d', e, rfl⟩ := I
    have hlen := congrArg List.length hx
    rw [List.length_append, List.length_cons] at hlen
    have z2 : (done.filterMap roomOf).length < 16777216 := by have := List.length_filterMap_le roomOf done; omega
    cases hr : x.room with
    | none =>
      refine ⟨[some (encK k), some (.lst ((k.bs.map partOf).map encT)), some (.str x.name), some (.str x.start), some (.str x.goal), some (.int x.stock), some .non, some (.lst (((done ++ [x]).filterMap roomOf).map encT))], M', ?_, rfl, _, _, _, _, _, rfl⟩
      simp [bodyF, encB, encO, hr, fm_snoc, roomOf]
    | some r =>
      refine ⟨[some (encK k), some (.lst ((k.bs.map partOf).map encT)), some (.str x.name), some (.str x.start), some (.str x.goal), some (.int x.stock), some (.int r), some (.lst (((done ++ [x]).filterMap roomOf).map encT))], M', ?_, rfl, _, _, _, _, _, rfl⟩
      simp only [fm_snoc, List.map_append]
      generalize done.filterMap roomOf = l at z2
      simp [bodyF, encB, encO, hr, sizeLine_eq, z2, encT, roomOf]
  obtain ⟨rfl, a, b, c, d', e', rfl⟩ := I
  have z : (k.bs.map partOf).length + (k.bs.filterMap roomOf).length ≤ 16777216 := by
    have := List.length_filterMap_le roomOf k.bs
    rw [List.length_map]; omega
  unfold encK at e xl
  unfold tiesOf
  generalize k.bs.map partOf = l1 at z e xl
  generalize k.bs.filterMap roomOf = l2 at z e
  simp [F27_ties_of, encK, xl, e, sizeLine_eq, z]

/-! ### stocks behind goings -/
/-- a dict of counts: of names, absent names count 0 -/
structure Counts (kvs : List (Ky × W)) (c : Str → Int) : Prop where
  flat : ∀ p ∈ kvs, p.1.flat = true
  get : ∀ x : Str, (getK kvs (.s x)).getD (.int 0) = .int (c x)
theorem Counts.all {kvs : List (Ky × W)} {c : Str → Int} (h : Counts kvs c) : (kvs.all fun p => p.1.flat == true) = true := List.all_eq_true.mpr fun p hp => by rw [h.flat p hp]; rfl
theorem counts_get {kvs : List (Ky × W)} {c : Str → Int} (h : Counts kvs c) (x : Str) : getW [.dct kvs, .str x, .int 0] = some (.int (c x)) := by
  rw [getW_dct]
  simp only [key_str, flat_s, h.all, if_true, h.get]
def setStock (k : Wo) (f : Bn → Int) : Wo := ⟨k.ms, k.bs.map fun b => { b with stock := f b }⟩
structure SbInv (k : Wo) (kvs : List (Ky × W)) (c : Str → Int) (M0 : List W) (done : List Bn) (ρ : Env) (M : List W) : Prop where
  st : M = M0
  ex : ∃ a b c1 d e, ρ = [some (encK k), some (.dct kvs), some (.lst (done.map fun b => W.int (b.stock + c b.start - c b.goal))), a, b, c1, d, e]
abbrev sbBody : List S := [.app 2 (.bin .sub (.bin .add (.var 6) (.mt .get (.var 1) [(.var 4), (.int 0)])) (.mt .get (.var 1) [(.var 5), (.int 0)]))]
theorem sb_loop (cl : Nat → List W → List W → R W) (k : Wo) (hk : k.bs.length ≤ 1000) {kvs : List (Ky × W)} {c : Str → Int} (hc : Counts kvs c) (M : List W) : ∃ a b c1 d e, forL (bodyF cl (.tp [(.nm 3), (.nm 4), (.nm 5), (.nm 6), (.nm 7)]) sbBody) (k.bs.map encB) [some (encK k), some (.dct kvs), some (.lst []), none, none, none, none, none] M = .ok (.nx, [some (encK k), some (.dct kvs), some (.lst (k.bs.map fun b => W.int (b.stock + c b.start - c b.goal))), a, b, c1, d, e]) M := by
  obtain ⟨ρ', M', e, I⟩ := forL_inv (f := bodyF cl (.tp [(.nm 3), (.nm 4), (.nm 5), (.nm 6), (.nm 7)]) sbBody) (e := encB) (SbInv k kvs c M) k.bs (ρ := [some (encK k), some (.dct kvs), some (.lst []), none, none, none, none, none]) (M := M) ⟨rfl, none, none, none, none, none, rfl⟩ fun done x rest ρ M' hx I => by
    obtain ⟨rfl, a, b, c1, d', e, rfl⟩ := I
    have hlen := congrArg List.length hx
    rw [List.length_append, List.length_cons] at hlen
    have z : done.length < 16777216 := by omega
    refine ⟨_, M', ?_, rfl, some (.str x.name), some (.str x.start), some (.str x.goal), some (.int x.stock), some (encO x.room), rfl⟩
    simp [bodyF, encB, sizeLine_eq, z, counts_get hc, -getW_dct]
  obtain ⟨rfl, a, b, c1, d', e', rfl⟩ := I
  exact ⟨a, b, c1, d', e', e⟩
theorem stocks_behind_ok (h33 : tab 33 = some F33__law_stocks_behind) (k : Wo) (hk : k.bs.length ≤ 1000) {kvs : List (Ky × W)} {c : Str → Int} (hc : Counts kvs c) (M : List W) (n : Nat) (hn : 1 ≤ n) : callF tab n 33 [encK k, .dct kvs] M = .ok (.tup (k.bs.map fun b => W.int (b.stock + c b.start - c b.goal))) M := by
  obtain ⟨d, rfl⟩ : ∃ d, n = d + 1 := ⟨n - 1, by omega⟩
  rw [call_of h33 _ _ _ rfl]
  obtain ⟨a, b, c1, d', e', e⟩ := sb_loop (callF tab d) k hk hc M
  unfold encK at e
  simp [F33__law_stocks_behind, encK, e]
/-- works with other stocks -/
structure WtInv (k : Wo) (f : Bn → Int) (M0 : List W) (done : List Nat) (ρ : Env) (M : List W) : Prop where
  st : M = M0
  ex : ∃ a, ρ = [some (encK k), some (.tup (k.bs.map fun b => W.int (f b))), some (.lst ((k.bs.take done.length).map fun b => encB { b with stock := f b })), a]
theorem with_ok (h21 : tab 21 = some F21__law_with) (k : Wo) (hk : k.bs.length ≤ 1000) (f : Bn → Int) (M : List W) (n : Nat) (hn : 1 ≤ n) : callF tab n 21 [encK k, .tup (k.bs.map fun b => W.int (f b))] M = .ok (encK (setStock k f)) M := by
  obtain ⟨d, rfl⟩ : ∃ d, n = d + 1 := ⟨n - 1, by omega⟩
  rw [call_of h21 _ _ _ rfl]
  have er := range_len k.bs.length (by omega)
  obtain ⟨ρ', M', e, I⟩ := forL_inv (f := bodyF (callF tab d) (.nm 3) [.app 2 (.bin .add (.bin .add (.sl (.ix (.ix (.var 0) (.int 1)) (.var 3)) .no (.v (.int 3))) (.tup [(.ix (.var 1) (.var 3))])) (.sl (.ix (.ix (.var 0) (.int 1)) (.var 3)) (.v (.int 4)) .no))]) (e := fun j : Nat => W.int j) (WtInv k f M) (List.range k.bs.length) (ρ := [some (encK k), some (.tup (k.bs.map fun b => W.int (f b))), some (.lst []), none]) (M := M) ⟨rfl, none, rfl⟩ fun done x rest ρ M' hx I => by
    obtain ⟨rfl, a, rfl⟩ := I
    have hlen := congrArg List.length hx
    rw [List.length_range, List.length_append, List.length_cons] at hlen
    have hx2 : x = done.length := by
      have : (List.range k.bs.length)[done.length]? = some x := by rw [hx]; simp
      rw [List.getElem?_range (by omega)] at this
      exact (Option.some.inj this).symm
    subst hx2
    have hb : done.length < k.bs.length := by omega
    have g1 : (k.bs.map encB)[done.length]? = some (encB k.bs[done.length]) := by simp [hb]
    have g2 : (k.bs.map fun b => W.int (f b))[done.length]? = some (.int (f k.bs[done.length])) := by simp [hb]
    have z : (k.bs.take done.length).length < 16777216 := by rw [List.length_take]; omega
    have c3 : cut [W.str k.bs[done.length].name, W.str k.bs[done.length].start, W.str k.bs[done.length].goal, W.int k.bs[done.length].stock, encO k.bs[done.length].room] none (some (3 : Int)) = [W.str k.bs[done.length].name, W.str k.bs[done.length].start, W.str k.bs[done.length].goal] := cut_to _ 3
    have c4 : cut [W.str k.bs[done.length].name, W.str k.bs[done.length].start, W.str k.bs[done.length].goal, W.int k.bs[done.length].stock, encO k.bs[done.length].room] (some (4 : Int)) none = [encO k.bs[done.length].room] := cut_from _ 4
    refine ⟨[some (encK k), some (.tup (k.bs.map fun b => W.int (f b))), some (.lst ((k.bs.take (done ++ [done.length]).length).map fun b => encB { b with stock := f b })), some (.int (done.length : Nat))], M', ?_, rfl, _, rfl⟩
    have ht : k.bs.take (done ++ [done.length]).length = k.bs.take done.length ++ [k.bs[done.length]] := by
      rw [List.length_append, List.length_singleton, List.take_succ_eq_append_getElem hb]
    rw [ht]
    generalize k.bs.take done.length = l at z
    simp [bodyF, encK, atI_nat, g1, g2, encB, c3, c4, sizeLine_eq, z]
  obtain ⟨rfl, a, rfl⟩ := I
  rw [List.length_range, List.take_length] at e
  unfold encK at e
  simp only [F21__law_with, setStock]
  simp [encK, er, e]
end
end Mi
end Sh7_

section Sh8_
set_option linter.all false
set_option Elab.async false
/-! Sh8: bodies of the program's checks of works; what they compute. -/
namespace Mi
open PySem L2
def F0_is_integer : Fn := ⟨1, 1, [0], .t 0,
  [.ret (.and (.isi .int (.var 0)) (.not (.isi .bool (.var 0))))]⟩
def F1_is_between : Fn := ⟨3, 3, [0, 0, 0], .t 0,
  [.ret (.and (.call 0 [(.var 0)]) (.and (.cmp .le (.var 1) (.var 0)) (.or (.cmp .is (.var 2) .non) (.cmp .le (.var 0) (.var 2)))))]⟩
def F2_is_row : Fn := ⟨2, 2, [0, 0], .t 0,
  [.ret (.and (.isi .tuple (.var 0)) (.cmp .eq (.bi .len [(.var 0)]) (.var 1)))]⟩
def F3_is_name : Fn := ⟨1, 2, [0], .t 0,
  [.ifs (.or (.not (.v (.isi .str (.var 0)))) (.not (.cmp2 .le .le (.int 1) (.bi .len [(.var 0)]) (.int 12)))) [.ret (.bl false)] [],
  .ret (.bi .all [(.lc (.cmp2 .le .le (.str "a") (.var 1) (.str "z")) (.nm 1) (.v (.var 0)) .yes [1])])]⟩
def F4_is_ascending : Fn := ⟨1, 2, [0], .t 0,
  [.ret (.bi .all [(.lc (.cmp .lt (.ix (.var 0) (.var 1)) (.ix (.var 0) (.bin .add (.var 1) (.int 1)))) (.nm 1) (.range [(.bin .sub (.bi .len [(.var 0)]) (.int 1))]) .yes [1])])]⟩
def F5_is_machine : Fn := ⟨1, 1, [0], .t 0,
  [.ret (.and (.call 2 [(.var 0), (.int 2)]) (.and (.call 3 [(.ix (.var 0) (.int 0))]) (.call 1 [(.ix (.var 0) (.int 1)), (.int 0), (.gint "MAX_TIME" 1000)])))]⟩
def F6_are_machines : Fn := ⟨1, 2, [0], .t 0,
  [.ifs (.or (.not (.v (.isi .tuple (.var 0)))) (.not (.cmp2 .le .le (.int 1) (.bi .len [(.var 0)]) (.gint "MAX_MACHINES" 20)))) [.ret (.bl false)] [],
  .ret (.and (.bi .all [(.lc (.call 5 [(.var 1)]) (.nm 1) (.v (.var 0)) .yes [1])]) (.call 4 [(.lc (.ix (.var 1) (.int 0)) (.nm 1) (.v (.var 0)) .yes [1])]))]⟩
def F7_is_bin : Fn := ⟨2, 7, [0, 0], .t 0,
  [.ifs (.not (.v (.call 2 [(.var 0), (.int 5)]))) [.ret (.bl false)] [],
  .setT (.tp [(.nm 2), (.nm 3), (.nm 4), (.nm 5), (.nm 6)]) (.var 0),
  .ifs (.or (.not (.v (.call 3 [(.var 2)]))) (.or (.not (.v (.call 3 [(.var 3)]))) (.not (.v (.call 3 [(.var 4)]))))) [.ret (.bl false)] [],
  .ifs (.or (.cmp .nin (.var 3) (.var 1)) (.or (.cmp .nin (.var 4) (.var 1)) (.not (.v (.call 1 [(.var 5), (.int 0), .non]))))) [.ret (.bl false)] [],
  .ret (.or (.cmp .is (.var 6) .non) (.call 1 [(.var 6), (.bi .max [(.var 5), (.int 1)]), .non]))]⟩
def F8_are_bins : Fn := ⟨2, 3, [0, 0], .t 0,
  [.ifs (.or (.not (.v (.isi .tuple (.var 0)))) (.cmp .gt (.bi .len [(.var 0)]) (.gint "MAX_BINS" 60))) [.ret (.bl false)] [],
  .ret (.and (.bi .all [(.lc (.call 7 [(.var 2), (.var 1)]) (.nm 2) (.v (.var 0)) .yes [2])]) (.call 4 [(.lc (.ix (.var 2) (.int 0)) (.nm 2) (.v (.var 0)) .yes [2])]))]⟩
def F9_works_fault : Fn := ⟨1, 2, [0], .t 0,
  [.ifs (.not (.v (.call 2 [(.var 0), (.int 2)]))) [.ret (.str "form")] [],
  .ifs (.not (.v (.call 6 [(.ix (.var 0) (.int 0))]))) [.ret (.str "machines")] [],
  .ifs (.not (.v (.call 8 [(.ix (.var 0) (.int 1)), (.lc (.ix (.var 1) (.int 0)) (.nm 1) (.v (.ix (.var 0) (.int 0))) .yes [1])]))) [.ret (.str "bins")] [],
  .ret .non]⟩
def F10_stocks_of : Fn := ⟨1, 2, [0], .t 0,
  [.ret (.bi .tuple [(.lc (.ix (.var 1) (.int 3)) (.nm 1) (.v (.ix (.var 0) (.int 1))) .yes [1])])]⟩
def F11_with_stocks : Fn := ⟨2, 5, [0, 0], .t 0,
  [.set 2 .pl (.lc (.bin .add (.bin .add (.sl (.var 4) .no (.v (.int 3))) (.tup [(.ix (.var 1) (.var 3))])) (.sl (.var 4) (.v (.int 4)) .no)) (.tp [(.nm 3), (.nm 4)]) (.enum (.ix (.var 0) (.int 1))) .yes [3, 4]),
  .ret (.tup [(.ix (.var 0) (.int 0)), (.bi .tuple [(.var 2)])])]⟩
/-! ### what they compute -/
def intB : W → Bool
  | .int _ => true
  | _ => false
/-- no cell, no script -/
def W.tip : W → Bool
  | .loc _ => false
  | .frz _ => false
  | _ => true
def btw (lo : Int) (hi : Option Int) : W → Bool
  | .int i => decide (lo ≤ i) && (match hi with | none => true | some h => decide (i ≤ h))
  | _ => false
def rowB (n : Int) : W → Bool
  | .tup ws => decide ((ws.length : Int) = n)
  | _ => false
def letsB (x : Str) : Bool := x.cps.toList.all fun c => decide (97 ≤ c) && decide (c ≤ 122)
def nameB : W → Bool
  | .str x => decide (1 ≤ x.length) && decide (x.length ≤ 12) && letsB x
  | _ => false
def ascB (l : List Str) : Bool := (List.range (l.length - 1)).all fun i => decide (((l[i]?.getD (Str.empty : Str)) : Str).cps.toList < ((l[i + 1]?.getD (Str.empty : Str)) : Str).cps.toList)
@[simp] theorem isiW_non (t : Ty) : isiW t [.non] = some (.bl false) := by cases t <;> rfl
@[simp] theorem isiW_bl (t : Ty) (b : Bool) : isiW t [.bl b] = some (.bl (decide (t = .int ∨ t = .bool))) := by cases t <;> rfl
@[simp] theorem isiW_int (t : Ty) (b : Int) : isiW t [.int b] = some (.bl (decide (t = .int))) := by cases t <;> rfl
@[simp] theorem isiW_str (t : Ty) (b : Str) : isiW t [.str b] = some (.bl (decide (t = .str))) := by cases t <;> rfl
@[simp] theorem isiW_tup (t : Ty) (b : List W) : isiW t [.tup b] = some (.bl (decide (t = .tuple))) := by cases t <;> rfl
@[simp] theorem isiW_lst (t : Ty) (b : List W) : isiW t [.lst b] = some (.bl (decide (t = .list))) := by cases t <;> rfl
@[simp] theorem isiW_dct (t : Ty) (b : List (Ky × W)) : isiW t [.dct b] = some (.bl (decide (t = .dict))) := by cases t <;> rfl
section
variable {tab : Nat → Option Fn}
theorem is_integer_ok (h0 : tab 0 = some F0_is_integer) {w : W} (h : w.tip = true) (M : List W) (n : Nat) (hn : 1 ≤ n) : callF tab n 0 [w] M = .ok (.bl (intB w)) M := by
  obtain ⟨d, rfl⟩ : ∃ d, n = d + 1 := ⟨n - 1, by omega⟩
  rw [call_of h0 _ _ _ rfl]
  cases w <;> first | (cases h; done) | simp [F0_is_integer, intB]
theorem is_between_ok (h0 : tab 0 = some F0_is_integer) (h1 : tab 1 = some F1_is_between) {w : W} (h : w.tip = true) (lo : Int) (hi : Option Int) (M : List W) (n : Nat) (hn : 2 ≤ n) : callF tab n 1 [w, .int lo, encO hi] M = .ok (.bl (btw lo hi w)) M := by
  obtain ⟨d, rfl⟩ : ∃ d, n = d + 1 := ⟨n - 1, by omega⟩
  rw [call_of h1 _ _ _ rfl]
  have x0 := is_integer_ok h0 h M d (by omega)
  cases w with
  | int i =>
    cases hi with
    | none =>
      by_cases q : lo ≤ i <;> simp [F1_is_between, x0, intB, btw, encO, q]
    | some j =>
      by_cases q : lo ≤ i <;> simp [F1_is_between, x0, intB, btw, encO, q]
  | _ => simp [F1_is_between, x0, intB, btw]
theorem is_row_ok (h2 : tab 2 = some F2_is_row) {w : W} (h : w.tip = true) (k : Int) (M : List W) (n : Nat) (hn : 1 ≤ n) : callF tab n 2 [w, .int k] M = .ok (.bl (rowB k w)) M := by
  obtain ⟨d, rfl⟩ : ∃ d, n = d + 1 := ⟨n - 1, by omega⟩
  rw [call_of h2 _ _ _ rfl]
  cases w with
  | tup ws =>
    have : ((ws.length : Int) == k) = decide ((ws.length : Int) = k) := rfl
    simp [F2_is_row, rowB, this]
  | loc _ => cases h
  | frz _ => cases h
  | _ => simp [F2_is_row, rowB]
theorem one_lt {a b : Nat} : [a] < [b] ↔ a < b := by
  constructor
  · intro h
    cases h with
    | rel h => exact h
    | cons h => cases h
  · exact fun h => .rel h
theorem sign_le1 (c : Nat) : leW (.str "a") (.str ⟨#[c]⟩) = some (decide (97 ≤ c)) := by
  have e : ("a" : Str).cps.toList = [97] := by decide +kernel
  show some (!decide ([c] < ("a" : Str).cps.toList)) = _
  rw [e]
  have : decide ([c] < [97]) = decide (c < 97) := decide_eq_decide.mpr one_lt
  rw [this]
  by_cases h : c < 97
  · simp [h]
  · simp [h, Nat.not_lt.mp h]
theorem sign_le2 (c : Nat) : leW (.str ⟨#[c]⟩) (.str "z") = some (decide (c ≤ 122)) := by
  have e : ("z" : Str).cps.toList = [122] := by decide +kernel
  show some (!decide (("z" : Str).cps.toList < [c])) = _
  rw [e]
  have : decide ([122] < [c]) = decide (122 < c) := decide_eq_decide.mpr one_lt
  rw [this]
  by_cases h : 122 < c
  · simp [h]
  · simp [h, Nat.not_lt.mp h]
theorem is_name_ok (h3 : tab 3 = some F3_is_name) {w : W} (h : w.tip = true) (M : List W) (n : Nat) (hn : 1 ≤ n) : callF tab n 3 [w] M = .ok (.bl (nameB w)) M := by
  obtain ⟨d, rfl⟩ : ∃ d, n = d + 1 := ⟨n - 1, by omega⟩
  rw [call_of h3 _ _ _ rfl]
  cases w with
  | str x =>
    have e : compL (turnL (callF tab d) (.cmp2 .le .le (.str "a") (.var 1) (.str "z")) (.nm 1) .yes [1] [some (.str x), none]) (x.cps.toList.map fun c => W.str ⟨#[c]⟩) M = .ok ((x.cps.toList.map fun c => decide (97 ≤ c) && decide (c ≤ 122)).map W.bl) M := by
      rw [compL_pure (g := fun c => some (.bl (decide (97 ≤ c) && decide (c ≤ 122)))) x.cps.toList fun c _ => ?_]
      · rw [List.filterMap_eq_map']; simp
      · by_cases q : 97 ≤ c <;> simp [turnL, sign_le1, sign_le2, q]
    have it : items? (.str x) = some (x.cps.toList.map fun c => W.str ⟨#[c]⟩) := rfl
    by_cases q1 : 1 ≤ x.length
    · by_cases q2 : x.length ≤ 12
      · have q1' : (1 : Int) ≤ x.length := by omega
        have q2' : (x.length : Int) ≤ 12 := by omega
        have z : ((x.cps.toList.map fun c => decide (97 ≤ c) && decide (c ≤ 122)).all id) = letsB x := by simp [letsB, List.all_map, Function.comp_def]
        simp only [F3_is_name]
        simp [q1', q2', it, e, -List.map_map, z, nameB, q1, q2]
      · have q1' : (1 : Int) ≤ x.length := by omega
        have q2' : ¬ (x.length : Int) ≤ 12 := by omega
        simp [F3_is_name, q1', q2', nameB, q2]
    · have q1' : ¬ (1 : Int) ≤ x.length := by omega
      simp [F3_is_name, q1', nameB, q1]
  | loc _ => cases h
  | frz _ => cases h
  | _ => simp [F3_is_name, nameB]
theorem is_ascending_ok (h4 : tab 4 = some F4_is_ascending) (l : List Str) (hl : l.length ≤ 1000) (M : List W) (n : Nat) (hn : 1 ≤ n) : callF tab n 4 [.lst (l.map .str)] M = .ok (.bl (ascB l)) M := by
  obtain ⟨d, rfl⟩ : ∃ d, n = d + 1 := ⟨n - 1, by omega⟩
  rw [call_of h4 _ _ _ rfl]
  have er : rangeL [.int ((l.length : Int) - 1)] = some ((List.range (l.length - 1)).map fun k : Nat => W.int k) := by
    rw [range_one _ ⟨by omega, by rw [sizeLine_eq]; omega⟩]
    have : ((l.length : Int) - 1).toNat = l.length - 1 := by omega
    rw [this]
  have e : compL (turnL (callF tab d) (.cmp .lt (.ix (.var 0) (.var 1)) (.ix (.var 0) (.bin .add (.var 1) (.int 1)))) (.nm 1) .yes [1] [some (.lst (l.map .str)), none]) ((List.range (l.length - 1)).map fun k : Nat => W.int k) M = .ok (((List.range (l.length - 1)).map fun i => decide (((l[i]?.getD (Str.empty : Str)) : Str).cps.toList < ((l[i + 1]?.getD (Str.empty : Str)) : Str).cps.toList)).map W.bl) M := by
    rw [compL_pure (g := fun i => some (.bl (decide (((l[i]?.getD (Str.empty : Str)) : Str).cps.toList < ((l[i + 1]?.getD (Str.empty : Str)) : Str).cps.toList)))) (List.range (l.length - 1)) fun i hi => ?_]
    · rw [List.filterMap_eq_map']; simp
    · have hi' := List.mem_range.mp hi
      have g1 : atI (l.map W.str) (i : Int) = some (.str (l[i]'(by omega))) := by rw [atI_nat]; simp [show i < l.length by omega]
      have g2 : atI (l.map W.str) ((i : Int) + 1) = some (.str (l[i + 1]'(by omega))) := by
        have : (i : Int) + 1 = ((i + 1 : Nat) : Int) := by omega
        rw [this, atI_nat]; simp [show i + 1 < l.length by omega]
      have lt : ltW (.str (l[i]'(by omega))) (.str (l[i + 1]'(by omega))) = some (decide ((l[i]'(by omega)).cps.toList < (l[i + 1]'(by omega)).cps.toList)) := rfl
      have p1 : l[i]?.getD (Str.empty : Str) = l[i]'(by omega) := by rw [List.getElem?_eq_getElem (by omega)]; rfl
      have p2 : l[i + 1]?.getD (Str.empty : Str) = l[i + 1]'(by omega) := by rw [List.getElem?_eq_getElem (by omega)]; rfl
      rw [p1, p2]
      simp [turnL, g1, g2, lt]
  have z : ((List.range (l.length - 1)).map fun i => decide (((l[i]?.getD (Str.empty : Str)) : Str).cps.toList < ((l[i + 1]?.getD (Str.empty : Str)) : Str).cps.toList)).all id = ascB l := by simp [ascB, List.all_map, Function.comp_def]
  generalize ((List.range (l.length - 1)).map fun i => decide (((l[i]?.getD (Str.empty : Str)) : Str).cps.toList < ((l[i + 1]?.getD (Str.empty : Str)) : Str).cps.toList)) = bs at e z
  simp only [F4_is_ascending]
  simp [er, e, z]
theorem ascB_of {l : List Str} (h : l.Pairwise ltS) : ascB l = true := by
  unfold ascB
  rw [List.all_eq_true]
  intro i hi
  have hi' := List.mem_range.mp hi
  rw [List.getElem?_eq_getElem (by omega), List.getElem?_eq_getElem (by omega)]
  exact decide_eq_true (List.pairwise_iff_getElem.mp h i (i + 1) (by omega) (by omega) (by omega))
def machB : W → Bool
  | .tup [a, b] => nameB a && btw 0 (some 1000) b
  | _ => false
def fstN : W → Str
  | .tup (.str x :: _) => x
  | _ => Str.empty
def machsB : W → Bool
  | .tup ws => decide (1 ≤ ws.length) && decide (ws.length ≤ 20) && (ws.all machB) && ascB (ws.map fstN)
  | _ => false
/-- a tree of data, down to three steps -/
def W.tips : W → Bool
  | .tup ws => ws.all W.tip
  | w => w.tip
theorem is_machine_ok (h0 : tab 0 = some F0_is_integer) (h1 : tab 1 = some F1_is_between) (h2 : tab 2 = some F2_is_row) (h3 : tab 3 = some F3_is_name) (h5 : tab 5 = some F5_is_machine) {w : W} (h : w.tips = true) (M : List W) (n : Nat) (hn : 3 ≤ n) : callF tab n 5 [w] M = .ok (.bl (machB w)) M := by
  obtain ⟨d, rfl⟩ : ∃ d, n = d + 1 := ⟨n - 1, by omega⟩
  rw [call_of h5 _ _ _ rfl]
  have ht : w.tip = true := by cases w <;> first | rfl | cases h
  have x2 := is_row_ok h2 ht 2 M d (by omega)
  cases w with
  | tup ws =>
    match ws, h with
    | [], _ => simp [F5_is_machine, x2, rowB, machB]
    | [a], _ => simp [F5_is_machine, x2, rowB, machB]
    | [a, b], h =>
      have ha : a.tip = true ∧ b.tip = true := by simpa [W.tips] using h
      have x3 := is_name_ok h3 ha.1 M d (by omega)
      have x1 : callF tab d 1 [b, .int 0, .int 1000] M = .ok (.bl (btw 0 (some 1000) b)) M := is_between_ok h0 h1 ha.2 0 (some 1000) M d (by omega)
      cases q : nameB a <;> simp [F5_is_machine, x2, rowB, machB, x3, q, x1]
    | a :: b :: c :: r, _ =>
      have : ¬ ((r.length : Int) + 1 + 1 + 1 = 2) := by omega
      simp [F5_is_machine, x2, rowB, machB, this]
  | _ => simp [F5_is_machine, x2, rowB, machB]
theorem machB_name {w : W} (h : machB w = true) : ∃ x b, w = .tup [.str x, b] ∧ fstN w = x := by
  unfold machB at h
  split at h
  · rename_i a b
    cases a with
    | str x => exact ⟨x, b, rfl, rfl⟩
    | _ => simp [nameB] at h
  · cases h
theorem are_machines_ok (h0 : tab 0 = some F0_is_integer) (h1 : tab 1 = some F1_is_between) (h2 : tab 2 = some F2_is_row) (h3 : tab 3 = some F3_is_name) (h4 : tab 4 = some F4_is_ascending) (h5 : tab 5 = some F5_is_machine) (h6 : tab 6 = some F6_are_machines) {w : W} (ht : w.tip = true) (h : ∀ ws, w = .tup ws → ∀ x ∈ ws, x.tips = true) (M : List W) (n : Nat) (hn : 4 ≤ n) :
    callF tab n 6 [w] M = .ok (.bl (machsB w)) M := by
  obtain ⟨d, rfl⟩ : ∃ d, n = d + 1 := ⟨n - 1, by omega⟩
  rw [call_of h6 _ _ _ rfl]
  cases w with
  | tup ws =>
    by_cases q1 : 1 ≤ ws.length
    · by_cases q2 : ws.length ≤ 20
      · have q1' : (1 : Int) ≤ ws.length := by omega
        have q2' : (ws.length : Int) ≤ 20 := by omega
        have e : compL (turnL (callF tab d) (.call 5 [(.var 1)]) (.nm 1) .yes [1] [some (.tup ws), none]) ws M = .ok ((ws.map machB).map W.bl) M := by
          have := compL_pure (f := turnL (callF tab d) (.call 5 [(.var 1)]) (.nm 1) .yes [1] [some (.tup ws), none]) (M := M) (e := id) (g := fun w => some (.bl (machB w))) ws fun w hw => by
            have := is_machine_ok h0 h1 h2 h3 h5 (h ws rfl w hw) M d (by omega)
            simp [turnL, this]
          rw [List.map_id] at this
          rw [this, List.filterMap_eq_map']; simp
        by_cases qa : ws.all machB = true
        · have z : (ws.map machB).all id = true := by rw [List.all_map]; exact qa
          have e2 : compL (turnL (callF tab d) (.ix (.var 1) (.int 0)) (.nm 1) .yes [1] [some (.tup ws), none]) ws M = .ok ((ws.map fstN).map W.str) M := by
            have := compL_pure (f := turnL (callF tab d) (.ix (.var 1) (.int 0)) (.nm 1) .yes [1] [some (.tup ws), none]) (M := M) (e := id) (g := fun w => some (.str (fstN w))) ws fun w hw => by
              obtain ⟨x, b, e1, e2⟩ := machB_name (List.all_eq_true.mp qa w hw)
              simp [turnL, e1, fstN]
            rw [List.map_id] at this
            rw [this, List.filterMap_eq_map']; simp
          have x4 := is_ascending_ok h4 (ws.map fstN) (by rw [List.length_map]; omega) M d (by omega)
          have r : machsB (.tup ws) = ascB (ws.map fstN) := by simp only [machsB, q1, q2, qa, decide_true, Bool.true_and]
          rw [r]
          generalize ws.map fstN = l at e2 x4
          generalize ws.map machB = bs at e z
          simp only [F6_are_machines]
          simp [q1', q2', e, e2, x4, -List.map_map]
          rw [z]; rfl
        · have z : (ws.map machB).all id = false := by rw [List.all_map]; simpa using qa
          have r : machsB (.tup ws) = false := by
            have : ws.all machB = false := by simpa using qa
            simp only [machsB, this, Bool.and_false, Bool.false_and]
          rw [r]
          generalize ws.map machB = bs at e z
          simp only [F6_are_machines]
          simp [q1', q2', e, -List.map_map]
          rw [z]; rfl
      · have q1' : (1 : Int) ≤ ws.length := by omega
        have q2' : ¬ (ws.length : Int) ≤ 20 := by omega
        simp [F6_are_machines, q1', q2', machsB, q2]
    · have q1' : ¬ (1 : Int) ≤ ws.length := by omega
      simp [F6_are_machines, q1', machsB, q1]
  | loc _ => cases ht
  | frz _ => cases ht
  | _ => simp [F6_are_machines, machsB]
def binB (ns : List Str) : W → Bool
  | .tup [a, b, c, d, e] => nameB a && nameB b && nameB c && (match b with | .str x => decide (x ∈ ns) | _ => false) && (match c with | .str x => decide (x ∈ ns) | _ => false) && (match d, e with
    | .int i, .non => decide (0 ≤ i)
    | .int i, e => decide (0 ≤ i) && btw (if 1 > i then 1 else i) none e
    | _, _ => false)
  | _ => false
def binsB (ns : List Str) : W → Bool
  | .tup ws => decide (ws.length ≤ 60) && (ws.all (binB ns)) && ascB (ws.map fstN)
  | _ => false
theorem in_strs (x : Str) (l : List Str) : inW (.str x) (.lst (l.map .str)) = some (decide (x ∈ l)) := by
  have hf : (W.str x).flat = true ∧ (l.map W.str).all W.flat = true := ⟨rfl, by simp [W.flat]⟩
  have e : inW (.str x) (.lst (l.map .str)) = if (W.str x).flat ∧ (l.map W.str).all W.flat then some ((l.map W.str).any fun y => weq y (.str x)) else if (W.str x).depth ≤ 60 ∧ (W.lst (l.map .str)).depth ≤ 60 then some ((l.map W.str).any fun y => weq y (.str x)) else none := rfl
  rw [e, if_pos hf, List.any_map]
  congr 1
  rw [Bool.eq_iff_iff, List.any_eq_true, decide_eq_true_eq]
  constructor
  · rintro ⟨y, hy, q⟩
    have : y = x := by simpa [weq] using q
    exact this ▸ hy
  · exact fun h => ⟨x, h, by simp [weq]⟩
theorem is_bin_ok (h0 : tab 0 = some F0_is_integer) (h1 : tab 1 = some F1_is_between) (h2 : tab 2 = some F2_is_row) (h3 : tab 3 = some F3_is_name) (h7 : tab 7 = some F7_is_bin) {w : W} (h : w.tips = true) (ns : List Str) (M : List W) (n : Nat) (hn : 3 ≤ n) : callF tab n 7 [w, .lst (ns.map .str)] M = .ok (.bl (binB ns w)) M := by
  obtain ⟨d, rfl⟩ : ∃ d, n = d + 1 := ⟨n - 1, by omega⟩
  rw [call_of h7 _ _ _ rfl]
  have ht : w.tip = true := by cases w <;> first | rfl | cases h
  have x2 := is_row_ok h2 ht 5 M d (by omega)
  cases w with
  | tup ws =>
    by_cases hl : ws.length = 5
    · match ws, h, hl with
      | [a, b, c, s, r], h, _ =>
        have hq : a.tip = true ∧ b.tip = true ∧ c.tip = true ∧ s.tip = true ∧ r.tip = true := by simpa [W.tips] using h
        have xa := is_name_ok h3 hq.1 M d (by omega)
        have xb := is_name_ok h3 hq.2.1 M d (by omega)
        have xc := is_name_ok h3 hq.2.2.1 M d (by omega)
        have xs : callF tab d 1 [s, .int 0, .non] M = .ok (.bl (btw 0 none s)) M := is_between_ok h0 h1 hq.2.2.2.1 0 none M d (by omega)
        have xr : ∀ lo, callF tab d 1 [r, .int lo, .non] M = .ok (.bl (btw lo none r)) M := fun lo => is_between_ok h0 h1 hq.2.2.2.2 lo none M d (by omega)
        have rb : rowB 5 (.tup [a, b, c, s, r]) = true := rfl
        rw [rb] at x2
        cases qa : nameB a
        · simp [F7_is_bin, x2, xa, qa, binB]
        cases qb : nameB b
        · simp [F7_is_bin, x2, xa, qa, xb, qb, binB]
        cases qc : nameB c
        · simp [F7_is_bin, x2, xa, qa, xb, qb, xc, qc, binB]
        cases b with
        | str y =>
          cases c with
          | str z =>
            by_cases q1 : y ∈ ns
            · by_cases q2 : z ∈ ns
              · cases s with
                | int i =>
                  by_cases q3 : 0 ≤ i
                  · cases r with
                    | non => simp [F7_is_bin, x2, xa, qa, xb, qb, xc, qc, in_strs, q1, q2, xs, xr, q3, btw, binB]
                    | loc _ => simp [W.tip] at hq
                    | frz _ => simp [W.tip] at hq
                    | _ => simp [F7_is_bin, x2, xa, qa, xb, qb, xc, qc, in_strs, q1, q2, xs, xr, q3, btw, binB, isW]
                  · cases r <;> simp [F7_is_bin, x2, xa, qa, xb, qb, xc, qc, in_strs, q1, q2, xs, xr, q3, btw, binB]
                | _ => simp [F7_is_bin, x2, xa, qa, xb, qb, xc, qc, in_strs, q1, q2, xs, btw, binB]
              · simp [F7_is_bin, x2, xa, qa, xb, qb, xc, qc, in_strs, q1, q2, binB]
            · simp [F7_is_bin, x2, xa, qa, xb, qb, xc, qc, in_strs, q1, binB]
          | _ => simp [nameB] at qc
        | _ => simp [nameB] at qb
    · have r0 : rowB 5 (.tup ws) = false := by
        unfold rowB
        exact decide_eq_false (by omega)
      have b0 : binB ns (.tup ws) = false := by
        unfold binB
        split
        · rename_i e
          cases e
          exact absurd rfl hl
        · rfl
      simp [F7_is_bin, x2, r0, b0]
  | _ => simp [F7_is_bin, x2, rowB, binB]
theorem binB_name {ns : List Str} {w : W} (h : binB ns w = true) : ∃ x r, w = .tup (.str x :: r) ∧ fstN w = x := by
  unfold binB at h
  split at h
  · rename_i a b c d e
    cases a with
    | str x => exact ⟨x, _, rfl, rfl⟩
    | _ => simp [nameB] at h
  · cases h
theorem are_bins_ok (h0 : tab 0 = some F0_is_integer) (h1 : tab 1 = some F1_is_between) (h2 : tab 2 = some F2_is_row) (h3 : tab 3 = some F3_is_name) (h4 : tab 4 = some F4_is_ascending) (h7 : tab 7 = some F7_is_bin) (h8 : tab 8 = some F8_are_bins) {w : W} (ht : w.tip = true) (h : ∀ ws, w = .tup ws → ∀ x ∈ ws, x.tips = true) (ns : List Str) (M : List W) (n : Nat) (hn : 4 ≤ n) :
    callF tab n 8 [w, .lst (ns.map .str)] M = .ok (.bl (binsB ns w)) M := by
  obtain ⟨d, rfl⟩ : ∃ d, n = d + 1 := ⟨n - 1, by omega⟩
  rw [call_of h8 _ _ _ rfl]
  cases w with
  | tup ws =>
    by_cases q2 : ws.length ≤ 60
    · have q2' : ¬ (60 : Int) < ws.length := by omega
      have e : compL (turnL (callF tab d) (.call 7 [(.var 2), (.var 1)]) (.nm 2) .yes [2] [some (.tup ws), some (.lst (ns.map .str)), none]) ws M = .ok ((ws.map (binB ns)).map W.bl) M := by
        have := compL_pure (f := turnL (callF tab d) (.call 7 [(.var 2), (.var 1)]) (.nm 2) .yes [2] [some (.tup ws), some (.lst (ns.map .str)), none]) (M := M) (e := id) (g := fun w => some (.bl (binB ns w))) ws fun w hw => by
          have := is_bin_ok h0 h1 h2 h3 h7 (h ws rfl w hw) ns M d (by omega)
          simp [turnL, this]
        rw [List.map_id] at this
        rw [this, List.filterMap_eq_map']; simp
      by_cases qa : ws.all (binB ns) = true
      · have z : (ws.map (binB ns)).all id = true := by rw [List.all_map]; exact qa
        have e2 : compL (turnL (callF tab d) (.ix (.var 2) (.int 0)) (.nm 2) .yes [2] [some (.tup ws), some (.lst (ns.map .str)), none]) ws M = .ok ((ws.map fstN).map W.str) M := by
          have := compL_pure (f := turnL (callF tab d) (.ix (.var 2) (.int 0)) (.nm 2) .yes [2] [some (.tup ws), some (.lst (ns.map .str)), none]) (M := M) (e := id) (g := fun w => some (.str (fstN w))) ws fun w hw => by
            obtain ⟨x, b, e1, e2⟩ := binB_name (List.all_eq_true.mp qa w hw)
            simp [turnL, e1, fstN]
          rw [List.map_id] at this
          rw [this, List.filterMap_eq_map']; simp
        have x4 := is_ascending_ok h4 (ws.map fstN) (by rw [List.length_map]; omega) M d (by omega)
        have r : binsB ns (.tup ws) = ascB (ws.map fstN) := by simp only [binsB, q2, qa, decide_true, Bool.true_and]
        rw [r]
        generalize ws.map fstN = l at e2 x4
        generalize ws.map (binB ns) = bs at e z
        simp only [F8_are_bins]
        simp [q2', e, e2, x4, -List.map_map]
        rw [z]; rfl
      · have z : (ws.map (binB ns)).all id = false := by rw [List.all_map]; simpa using qa
        have r : binsB ns (.tup ws) = false := by
          have : ws.all (binB ns) = false := by simpa using qa
          simp only [binsB, this, Bool.and_false, Bool.false_and]
        rw [r]
        generalize ws.map (binB ns) = bs at e z
        simp only [F8_are_bins]
        simp [q2', e, -List.map_map]
        rw [z]; rfl
    · have q2' : ¬ (ws.length : Int) ≤ 60 := by omega
      have q2'' : (60 : Int) < ws.length := by omega
      simp [F8_are_bins, q2'', binsB, q2]
  | loc _ => cases ht
  | frz _ => cases ht
  | _ => simp [F8_are_bins, binsB]
/-- data, four steps deep -/
structure Tidy (w : W) : Prop where
  t : w.tip = true
  ts : ∀ ws, w = .tup ws → ∀ x ∈ ws, x.tips = true
def faultW (a b : W) : W := if machsB a then (if binsB (match a with | .tup ws => ws.map fstN | _ => []) b then .non else .str "bins") else .str "machines"
theorem works_fault_ok (h0 : tab 0 = some F0_is_integer) (h1 : tab 1 = some F1_is_between) (h2 : tab 2 = some F2_is_row) (h3 : tab 3 = some F3_is_name) (h4 : tab 4 = some F4_is_ascending) (h5 : tab 5 = some F5_is_machine) (h6 : tab 6 = some F6_are_machines) (h7 : tab 7 = some F7_is_bin) (h8 : tab 8 = some F8_are_bins) (h9 : tab 9 = some F9_works_fault)
    {a b : W} (ha : Tidy a) (hb : Tidy b) (M : List W) (n : Nat) (hn : 5 ≤ n) : callF tab n 9 [.tup [a, b]] M = .ok (faultW a b) M := by
  obtain ⟨d, rfl⟩ : ∃ d, n = d + 1 := ⟨n - 1, by omega⟩
  rw [call_of h9 _ _ _ rfl]
  have x2 : callF tab d 2 [.tup [a, b], .int 2] M = .ok (.bl true) M := is_row_ok h2 (w := .tup [a, b]) rfl 2 M d (by omega)
  have x6 := are_machines_ok h0 h1 h2 h3 h4 h5 h6 ha.t ha.ts M d (by omega)
  by_cases q : machsB a = true
  · cases a with
    | tup ws =>
      have qa : ws.all machB = true := by
        simp only [machsB, Bool.and_eq_true] at q
        exact q.1.2
      have e2 : compL (turnL (callF tab d) (.ix (.var 1) (.int 0)) (.nm 1) .yes [1] [some (.tup [.tup ws, b]), none]) ws M = .ok ((ws.map fstN).map W.str) M := by
        have := compL_pure (f := turnL (callF tab d) (.ix (.var 1) (.int 0)) (.nm 1) .yes [1] [some (.tup [.tup ws, b]), none]) (M := M) (e := id) (g := fun w => some (.str (fstN w))) ws fun w hw => by
          obtain ⟨x, b, e1, e2⟩ := machB_name (List.all_eq_true.mp qa w hw)
          simp [turnL, e1, fstN]
        rw [List.map_id] at this
        rw [this, List.filterMap_eq_map']; simp
      have x8 := are_bins_ok h0 h1 h2 h3 h4 h7 h8 hb.t hb.ts (ws.map fstN) M d (by omega)
      have r : faultW (.tup ws) b = if binsB (ws.map fstN) b then .non else .str "bins" := by unfold faultW; rw [if_pos q]
      rw [r]
      generalize ws.map fstN = l at e2 x8
      by_cases q2 : binsB l b = true
      · simp [F9_works_fault, x2, x6, q, e2, x8, q2, -List.map_map]
      · have q2' : binsB l b = false := by simpa using q2
        simp [F9_works_fault, x2, x6, q, e2, x8, q2', -List.map_map]
    | _ => simp [machsB] at q
  · have q' : machsB a = false := by simpa using q
    simp [F9_works_fault, x2, x6, q', faultW]
theorem works_fault_form (h2 : tab 2 = some F2_is_row) (h9 : tab 9 = some F9_works_fault) {w : W} (h : w.tip = true) (hr : rowB 2 w = false) (M : List W) (n : Nat) (hn : 2 ≤ n) : callF tab n 9 [w] M = .ok (.str "form") M := by
  obtain ⟨d, rfl⟩ : ∃ d, n = d + 1 := ⟨n - 1, by omega⟩
  rw [call_of h9 _ _ _ rfl]
  have x2 := is_row_ok h2 h 2 M d (by omega)
  simp [F9_works_fault, x2, hr]
end
end Mi
end Sh8_

section Sh9_
set_option linter.all false
set_option Elab.async false
/-! Sh9: stocks told and changed. -/
namespace Mi
open PySem L2
def setL (k : Wo) (l : List Int) : Wo := ⟨k.ms, List.zipWith (fun (b : Bn) s => { b with stock := s }) k.bs l⟩
theorem setL_map (k : Wo) (f : Bn → Int) : setL k (k.bs.map f) = setStock k f := by
  unfold setL setStock
  congr 1
  generalize k.bs = l
  induction l with
  | nil => rfl
  | cons a l ih => simp [ih]
section
variable {tab : Nat → Option Fn}
theorem stocks_of_ok (h10 : tab 10 = some F10_stocks_of) (k : Wo) (M : List W) (n : Nat) (hn : 1 ≤ n) : callF tab n 10 [encK k] M = .ok (.tup (k.bs.map fun b => W.int b.stock)) M := by
  obtain ⟨d, rfl⟩ : ∃ d, n = d + 1 := ⟨n - 1, by omega⟩
  rw [call_of h10 _ _ _ rfl]
  have e : compL (turnL (callF tab d) (.ix (.var 1) (.int 3)) (.nm 1) .yes [1] [some (encK k), none]) (k.bs.map encB) M = .ok (k.bs.map fun b => W.int b.stock) M := by
    rw [compL_pure (g := fun b => some (.int b.stock)) k.bs fun b _ => by simp [turnL, encB]]
    rw [List.filterMap_eq_map']
  unfold encK at e
  simp [F10_stocks_of, encK, e]
theorem law_stocks_ok (h22 : tab 22 = some F22__law_stocks) (k : Wo) (M : List W) (n : Nat) (hn : 1 ≤ n) : callF tab n 22 [encK k] M = .ok (.tup (k.bs.map fun b => W.int b.stock)) M := by
  obtain ⟨d, rfl⟩ : ∃ d, n = d + 1 := ⟨n - 1, by omega⟩
  rw [call_of h22 _ _ _ rfl]
  have e : compL (turnL (callF tab d) (.ix (.var 1) (.int 3)) (.nm 1) .yes [1] [some (encK k), none]) (k.bs.map encB) M = .ok (k.bs.map fun b => W.int b.stock) M := by
    rw [compL_pure (g := fun b => some (.int b.stock)) k.bs fun b _ => by simp [turnL, encB]]
    rw [List.filterMap_eq_map']
  unfold encK at e
  simp [F22__law_stocks, encK, e]
structure WlInv (k : Wo) (l : List Int) (M0 : List W) (done : List Nat) (ρ : Env) (M : List W) : Prop where
  st : M = M0
  ex : ∃ a, ρ = [some (encK k), some (.tup (l.map .int)), some (.lst (((setL k l).bs.take done.length).map encB)), a]
theorem setL_get (k : Wo) (l : List Int) {i : Nat} (h : i < k.bs.length) (hl : i < l.length) : (setL k l).bs[i]? = some { k.bs[i] with stock := l[i] } := by
  unfold setL
  simp [List.getElem?_zipWith, h, hl]
theorem setL_len (k : Wo) (l : List Int) (hl : l.length = k.bs.length) : (setL k l).bs.length = k.bs.length := by
  unfold setL
  simp [hl]
theorem withL_ok (h21 : tab 21 = some F21__law_with) (k : Wo) (hk : k.bs.length ≤ 1000) (l : List Int) (hl : l.length = k.bs.length) (M : List W) (n : Nat) (hn : 1 ≤ n) : callF tab n 21 [encK k, .tup (l.map .int)] M = .ok (encK (setL k l)) M := by
  obtain ⟨d, rfl⟩ : ∃ d, n = d + 1 := ⟨n - 1, by omega⟩
  rw [call_of h21 _ _ _ rfl]
  have er := range_len k.bs.length (by omega)
  obtain ⟨ρ', M', e, I⟩ := forL_inv (f := bodyF (callF tab d) (.nm 3) [.app 2 (.bin .add (.bin .add (.sl (.ix (.ix (.var 0) (.int 1)) (.var 3)) .no (.v (.int 3))) (.tup [(.ix (.var 1) (.var 3))])) (.sl (.ix (.ix (.var 0) (.int 1)) (.var 3)) (.v (.int 4)) .no))]) (e := fun j : Nat => W.int j) (WlInv k l M) (List.range k.bs.length) (ρ := [some (encK k), some (.tup (l.map .int)), some (.lst []), none]) (M := M) ⟨rfl, none, rfl⟩ fun done x rest ρ M' hx I => by
    obtain ⟨rfl, a, rfl⟩ := I
    have hlen := congrArg List.length hx
    rw [List.length_range, List.length_append, List.length_cons] at hlen
    have hx2 : x = done.length := by
      have : (List.range k.bs.length)[done.length]? = some x := by rw [hx]; simp
      rw [List.getElem?_range (by omega)] at this
      exact (Option.some.inj this).symm
    subst hx2
    have hb : done.length < k.bs.length := by omega
    have hb2 : done.length < l.length := by omega
    have g1 : (k.bs.map encB)[done.length]? = some (encB k.bs[done.length]) := by simp [hb]
    have g2 : (l.map W.int)[done.length]? = some (.int l[done.length]) := by simp [hb2]
    have z : ((setL k l).bs.take done.length).length < 16777216 := by rw [List.length_take]; omega
    have c3 : cut [W.str k.bs[done.length].name, W.str k.bs[done.length].start, W.str k.bs[done.length].goal, W.int k.bs[done.length].stock, encO k.bs[done.length].room] none (some (3 : Int)) = [W.str k.bs[done.length].name, W.str k.bs[done.length].start, W.str k.bs[done.length].goal] := cut_to _ 3
    have c4 : cut [W.str k.bs[done.length].name, W.str k.bs[done.length].start, W.str k.bs[done.length].goal, W.int k.bs[done.length].stock, encO k.bs[done.length].room] (some (4 : Int)) none = [encO k.bs[done.length].room] := cut_from _ 4
    refine ⟨[some (encK k), some (.tup (l.map .int)), some (.lst (((setL k l).bs.take (done ++ [done.length]).length).map encB)), some (.int (done.length : Nat))], M', ?_, rfl, _, rfl⟩
    have ht : (setL k l).bs.take (done ++ [done.length]).length = (setL k l).bs.take done.length ++ [{ k.bs[done.length] with stock := l[done.length] }] := by
      have hg := setL_get k l hb hb2
      have hq := (List.getElem?_eq_some_iff.mp hg)
      obtain ⟨q1, q2⟩ := hq
      rw [List.length_append, List.length_singleton, List.take_succ_eq_append_getElem q1, q2]
    rw [ht]
    generalize (setL k l).bs.take done.length = l' at z
    simp [bodyF, encK, atI_nat, g1, g2, encB, c3, c4, sizeLine_eq, z]
  obtain ⟨rfl, a, rfl⟩ := I
  have el := setL_len k l hl
  rw [List.length_range, ← el, List.take_length] at e
  unfold encK at e
  rw [el] at e
  simp only [F21__law_with]
  have ems : (setL k l).ms = k.ms := rfl
  simp [encK, er, e, ems]
theorem zip_range_get {α : Type} (l : List α) {i : Nat} (h : i < l.length) : ((List.range l.length).zip l)[i]? = some (i, l[i]) := by
  rw [List.getElem?_eq_getElem (by simp; exact h)]
  simp
theorem enumL_map {α : Type} (e : α → W) (l : List α) : enumL 0 (l.map e) = ((List.range l.length).zip l).map fun p => .tup [.int (p.1 : Nat), e p.2] := by
  apply List.ext_getElem?
  intro i
  rw [enumL_get]
  simp only [List.getElem?_map, Nat.zero_add]
  by_cases h : i < l.length
  · rw [zip_range_get l h]
    simp [h]
  · have h2 : l.length ≤ i := by omega
    rw [List.getElem?_eq_none (by omega), List.getElem?_eq_none (by simp; omega)]; rfl
theorem with_stocks_ok (h11 : tab 11 = some F11_with_stocks) (k : Wo) (hk : k.bs.length ≤ 1000) (l : List Int) (hl : l.length = k.bs.length) (M : List W) (n : Nat) (hn : 1 ≤ n) : callF tab n 11 [encK k, .tup (l.map .int)] M = .ok (encK (setL k l)) M := by
  obtain ⟨d, rfl⟩ : ∃ d, n = d + 1 := ⟨n - 1, by omega⟩
  rw [call_of h11 _ _ _ rfl]
  have e : compL (turnL (callF tab d) (.bin .add (.bin .add (.sl (.var 4) .no (.v (.int 3))) (.tup [(.ix (.var 1) (.var 3))])) (.sl (.var 4) (.v (.int 4)) .no)) (.tp [(.nm 3), (.nm 4)]) .yes [3, 4] [some (encK k), some (.tup (l.map .int)), none, none, none]) (enumL 0 (k.bs.map encB)) M = .ok ((setL k l).bs.map encB) M := by
    rw [enumL_map]
    rw [compL_pure (g := fun p : Nat × Bn => some (encB { p.2 with stock := (l[p.1]?).getD 0 })) ((List.range k.bs.length).zip k.bs) fun p hp => ?_]
    · congr 1
      rw [List.filterMap_eq_map']
      unfold setL
      apply List.ext_getElem?
      intro i
      simp only [List.getElem?_map, List.getElem?_zipWith]
      by_cases h : i < k.bs.length
      · rw [zip_range_get k.bs h, List.getElem?_eq_getElem h, List.getElem?_eq_getElem (by omega)]
        simp [show i < l.length by omega]
      · rw [List.getElem?_eq_none (by simp; omega), List.getElem?_eq_none (by omega)]; rfl
    · obtain ⟨i, b⟩ := p
      obtain ⟨j, hj, ej⟩ := List.mem_iff_getElem.mp hp
      have hj' : j < k.bs.length := by simp at hj; exact hj
      simp at ej
      obtain ⟨rfl, rfl⟩ := ej
      have hl2 : j < l.length := by omega
      have c3 : cut [W.str k.bs[j].name, W.str k.bs[j].start, W.str k.bs[j].goal, W.int k.bs[j].stock, encO k.bs[j].room] none (some (3 : Int)) = [W.str k.bs[j].name, W.str k.bs[j].start, W.str k.bs[j].goal] := cut_to _ 3
      have c4 : cut [W.str k.bs[j].name, W.str k.bs[j].start, W.str k.bs[j].goal, W.int k.bs[j].stock, encO k.bs[j].room] (some (4 : Int)) none = [encO k.bs[j].room] := cut_from _ 4
      have g2 : (l.map W.int)[j]? = some (.int l[j]) := by simp [hl2]
      simp [turnL, encB, c3, c4, atI_nat, g2, hl2, sizeLine_eq]
  unfold encK at e
  have ems : (setL k l).ms = k.ms := rfl
  simp [F11_with_stocks, encK, e, ems]
end
end Mi
end Sh9_

section ShA_
set_option linter.all false
set_option Elab.async false
/-! ShA: bodies of the program's goings and of helpers that walk. -/
namespace Mi
open PySem L2
def F28_blocked : Fn := ⟨2, 3, [0, 0], .t 0,
  [.ret (.lc (.ix (.var 2) (.int 0)) (.nm 2) (.v (.call 27 [(.var 0)])) (.and (.cmp .eq (.ix (.var 2) (.int 2)) (.var 1)) (.cmp .eq (.ix (.var 2) (.int 3)) (.int 0))) [2])]⟩
def F29_stocks_after : Fn := ⟨2, 8, [0, 0], .t 0,
  [.set 2 (.ow 1) (.lst []),
  .forr (.tp [(.nm 3), (.nm 4), (.nm 5), (.nm 6), (.nm 7)]) (.v (.ix (.var 0) (.int 1))) [.app 2 (.bin .sub (.bin .add (.var 6) (.mt .get (.var 1) [(.var 4), (.int 0)])) (.mt .get (.var 1) [(.var 5), (.int 0)]))] [.pl, .pl, (.ow 1), .pl, .pl, .pl, .pl, .pl],
  .ret (.bi .tuple [(.var 2)])]⟩
def F30_play : Fn := ⟨2, 11, [0, 0], .t 0,
  [.set 2 .pl (.call 26 [(.var 0)]),
  .set 3 .pl (.call 27 [(.var 0)]),
  .set 4 (.ow 1) (.dct []),
  .forr (.tp [(.nm 5), (.nm 6)]) (.enum (.var 1)) [.ifs (.cmp .inn (.var 6) (.var 2)) [.forr (.tp [(.nm 7), (.nm 8), (.nm 9), (.nm 10)]) (.v (.var 3)) [.ifs (.and (.cmp .eq (.var 9) (.var 6)) (.cmp .eq (.bin .sub (.bin .add (.var 10) (.mt .get (.var 4) [(.var 8), (.int 0)])) (.mt .get (.var 4) [(.var 9), (.int 0)])) (.int 0))) [.ret (.tup [(.str "stopped"), (.var 5), (.var 7)])] []] [.pl, .pl, .pl, .pl, (.ow 1), .pl, .pl, .pl, .pl, .pl, .pl],
      .stx 4 (.var 6) (.bin .add (.mt .get (.var 4) [(.var 6), (.int 0)]) (.int 1))] []] [.pl, .pl, .pl, .pl, (.ow 1), .pl, .pl, .pl, .pl, .pl, .pl],
  .fz 4,
  .ret (.tup [(.str "done"), (.call 29 [(.var 0), (.var 4)])])]⟩
def F31_counts_of : Fn := ⟨2, 4, [0, 0], .t 0,
  [.ret (.bi .tuple [(.lc (.bi .len [(.lc (.var 2) (.nm 2) (.v (.var 1)) (.cmp .eq (.var 2) (.var 3)) [2])]) (.nm 3) (.v (.call 26 [(.var 0)])) .yes [3])])]⟩
def F34__law_ready : Fn := ⟨1, 4, [0], .t 0,
  [.set 1 .pl (.call 32 [(.var 0)]),
  .ret (.lc (.var 2) (.nm 2) (.v (.call 20 [(.var 0)])) (.v (.bi .all [(.lc (.cmp .gt (.ix (.var 3) (.int 3)) (.int 0)) (.nm 3) (.v (.var 1)) (.cmp .eq (.ix (.var 3) (.int 2)) (.var 2)) [3])])) [2])]⟩
def F35__law_walked : Fn := ⟨3, 8, [0, 0, 0], .t 0,
  [.set 3 (.ow 1) (.lst []),
  .set 4 .pl (.var 1),
  .forr (.nm 5) (.range [(.var 2)]) [.set 6 .pl (.call 34 [(.var 4)]),
    .ifs (.cmp .eq (.bi .len [(.var 6)]) (.int 0)) [.brk] [],
    .set 7 .pl (.call 15 [(.var 0), (.var 6)]),
    .app 3 (.var 7),
    .set 4 .pl (.call 21 [(.var 4), (.call 33 [(.var 4), (.dct [(.var 7), (.int 1)])])])] [.pl, .pl, .pl, (.ow 1), .pl, .pl, .pl, .pl],
  .ret (.bi .tuple [(.var 3)])]⟩
def F36__law_tally : Fn := ⟨2, 4, [0, 0], .t 0,
  [.ret (.bi .tuple [(.lc (.bi .len [(.lc (.var 2) (.nm 2) (.v (.var 1)) (.cmp .eq (.var 2) (.var 3)) [2])]) (.nm 3) (.v (.call 20 [(.var 0)])) .yes [3])])]⟩
def F37__law_played : Fn := ⟨2, 6, [0, 0], .t 0,
  [.set 2 .pl (.var 0),
  .forr (.nm 3) (.range [(.bi .len [(.var 1)])]) [.set 4 .pl (.lc (.ix (.var 5) (.int 0)) (.nm 5) (.v (.call 32 [(.var 2)])) (.and (.cmp .eq (.ix (.var 5) (.int 2)) (.ix (.var 1) (.var 3))) (.cmp .eq (.ix (.var 5) (.int 3)) (.int 0))) [5]),
    .ifs (.cmp .gt (.bi .len [(.var 4)]) (.int 0)) [.ret (.tup [(.str "stopped"), (.var 3), (.ix (.var 4) (.int 0))])] [],
    .set 2 .pl (.call 21 [(.var 2), (.call 33 [(.var 2), (.dct [(.ix (.var 1) (.var 3)), (.int 1)])])])] [.pl, .pl, .pl, .pl, .pl, .pl],
  .ret (.tup [(.str "done"), (.call 22 [(.var 2)])])]⟩
end Mi
end ShA_

section ShB_
set_option linter.all false
set_option Elab.async false
/-! K02: the law. -/
namespace Mi
open PySem L2
namespace K02
section
variable {tab : Nat → Option Fn}
theorem stocks_after_ok (h29 : tab 29 = some F29_stocks_after) (k : Wo) (hk : k.bs.length ≤ 1000) {kvs : List (Ky × W)} {c : Str → Int} (hc : Counts kvs c) (M : List W) (n : Nat) (hn : 1 ≤ n) : callF tab n 29 [encK k, .dct kvs] M = .ok (.tup (k.bs.map fun b => W.int (b.stock + c b.start - c b.goal))) M := by
  obtain ⟨d, rfl⟩ : ∃ d, n = d + 1 := ⟨n - 1, by omega⟩
  rw [call_of h29 _ _ _ rfl]
  obtain ⟨a, b, c1, d', e', e⟩ := sb_loop (callF tab d) k hk hc M
  unfold encK at e
  simp [F29_stocks_after, encK, e]
/-- how often x stands in a row -/
def cnt (r : List Str) (x : Str) : Int := (r.filter fun y => y == x).length
theorem cnt_snoc (r : List Str) (y x : Str) : cnt (r ++ [y]) x = cnt r x + if y = x then 1 else 0 := by
  unfold cnt
  rw [List.filter_append]
  by_cases h : y = x
  · simp [h]
  · simp [h]
/-- the ties that stop a going of m, by the counts c -/
def stopsAt (k : Wo) (c : Str → Int) (m : Str) (t : Ti) : Bool := decide (t.goal = m) && decide (t.count + c t.start - c t.goal = 0)
def tieW (t : Ti) : W := .tup [.str t.kind, .str t.name]
/-- what is played -/
def playW (k : Wo) : List Str → List Str → W
  | done, [] => .tup [.str "done", .tup (k.bs.map fun b => W.int (b.stock + cnt done b.start - cnt done b.goal))]
  | done, x :: r => match (tiesOf k).find? (stopsAt k (cnt done) x) with
    | some t => .tup [.str "stopped", .int done.length, tieW t]
    | none => playW k (done ++ [x]) r
theorem counts_nil : Counts [] (cnt []) := ⟨(fun _ h => nomatch h), fun x => rfl⟩
theorem counts_put {kvs : List (Ky × W)} {r : List Str} (h : Counts kvs (cnt r)) (y : Str) : Counts (putK kvs (.s y) (.int (cnt r y + 1))) (cnt (r ++ [y])) := by
  refine ⟨fun p hp => ?_, fun x => ?_⟩
  · unfold putK at hp
    split at hp
    · obtain ⟨q, hq, e⟩ := List.mem_map.mp hp
      subst e
      split <;> exact h.flat q hq
    · rcases List.mem_append.mp hp with hp | hp
      · exact h.flat p hp
      · rw [List.mem_singleton.mp hp]; rfl
  · rw [get_put, cnt_snoc]
    by_cases e : y = x
    · subst e; simp
    · have : ¬ Ky.s y = Ky.s x := fun z => e (by cases z; rfl)
      rw [if_neg this, if_neg e, h.get]; simp
theorem put_len (kvs : List (Ky × W)) (k : Ky) (v : W) : (putK kvs k v).length ≤ kvs.length + 1 := by
  unfold putK
  split
  · rw [List.length_map]; omega
  · rw [List.length_append]; exact Nat.le_refl _
/-! ### play -/
abbrev plT : Tg := .tp [(.nm 7), (.nm 8), (.nm 9), (.nm 10)]
abbrev plB : List S := [.ifs (.and (.cmp .eq (.var 9) (.var 6)) (.cmp .eq (.bin .sub (.bin .add (.var 10) (.mt .get (.var 4) [(.var 8), (.int 0)])) (.mt .get (.var 4) [(.var 9), (.int 0)])) (.int 0))) [.ret (.tup [(.str "stopped"), (.var 5), (.var 7)])] []]
theorem pl_inner (cl : Nat → List W → List W → R W) (M : List W) {kvs : List (Ky × W)} {c : Str → Int} (hc : Counts kvs c) (k : Wo) (w0 w1 w2 w3 : W) (i : Int) (x : Str) : ∀ (ts : List Ti) (a b e d : Option W),
    (ts.find? (stopsAt k c x) = none → ∃ a' b' e' d', forL (bodyF cl plT plB) (ts.map encT) [some w0, some w1, some w2, some w3, some (.dct kvs), some (.int i), some (.str x), a, b, e, d] M = .ok (.nx, [some w0, some w1, some w2, some w3, some (.dct kvs), some (.int i), some (.str x), a', b', e', d']) M) ∧
    ∀ t, ts.find? (stopsAt k c x) = some t → ∃ ρ', forL (bodyF cl plT plB) (ts.map encT) [some w0, some w1, some w2, some w3, some (.dct kvs), some (.int i), some (.str x), a, b, e, d] M = .ok (.rt (.tup [.str "stopped", .int i, tieW t]), ρ') M
  | [], a, b, e, d => ⟨fun _ => ⟨a, b, e, d, rfl⟩, fun t h => by cases h⟩
  | t :: ts, a, b, e, d => by
    have step : bodyF cl plT plB (encT t) [some w0, some w1, some w2, some w3, some (.dct kvs), some (.int i), some (.str x), a, b, e, d] M = if stopsAt k c x t then .ok (.rt (.tup [.str "stopped", .int i, tieW t]), [some w0, some w1, some w2, some w3, some (.dct kvs), some (.int i), some (.str x), some (tieW t), some (.str t.start), some (.str t.goal), some (.int t.count)]) M
        else .ok (.nx, [some w0, some w1, some w2, some w3, some (.dct kvs), some (.int i), some (.str x), some (tieW t), some (.str t.start), some (.str t.goal), some (.int t.count)]) M := by
      by_cases h1 : t.goal = x
      · by_cases h2 : t.count + c t.start - c t.goal = 0
        · have hs : stopsAt k c x t = true := by simp [stopsAt, h1, h2]; rw [← h1]; exact h2
          rw [if_pos hs]
          simp [bodyF, encT, tieW, h1, counts_get hc, -getW_dct]
          rw [h1] at h2
          simp [h2]
        · have hs : stopsAt k c x t = false := by simp [stopsAt, h2]
          rw [if_neg (by rw [hs]; decide)]
          rw [h1] at h2
          simp [bodyF, encT, tieW, h1, counts_get hc, h2, -getW_dct]
      · have hs : stopsAt k c x t = false := by simp [stopsAt, h1]
        rw [if_neg (by rw [hs]; decide)]
        simp [bodyF, encT, tieW, h1]
    obtain ⟨ih1, ih2⟩ := pl_inner cl M hc k w0 w1 w2 w3 i x ts (some (tieW t)) (some (.str t.start)) (some (.str t.goal)) (some (.int t.count))
    rw [List.map_cons, List.find?_cons]
    cases hs : stopsAt k c x t with
    | true =>
      rw [hs] at step
      refine ⟨(fun h => by cases h), fun t' h => ?_⟩
      cases h
      exact ⟨_, forL_rt step⟩
    | false =>
      rw [hs] at step
      rw [forL_nx step]
      exact ⟨ih1, ih2⟩
abbrev plO : List S := [.ifs (.cmp .inn (.var 6) (.var 2)) [.forr plT (.v (.var 3)) plB [.pl, .pl, .pl, .pl, (.ow 1), .pl, .pl, .pl, .pl, .pl, .pl],
      .stx 4 (.var 6) (.bin .add (.mt .get (.var 4) [(.var 6), (.int 0)]) (.int 1))] []]
theorem inn_strs {x : Str} {l : List Str} (h : x ∈ l) : inW (.str x) (.lst (l.map .str)) = some true := by
  show (if (W.str x).flat ∧ (l.map W.str).all W.flat then some ((l.map W.str).any fun y => weq y (.str x)) else _) = _
  rw [if_pos]
  · congr 1
    rw [List.any_map, List.any_eq_true]
    exact ⟨x, h, by simp [weq]⟩
  · refine ⟨rfl, ?_⟩
    rw [List.all_map, List.all_eq_true]
    exact fun y _ => rfl
theorem pl_outer (cl : Nat → List W → List W → R W) (M : List W) (k : Wo) (w0 w1 : W) (nl : List Str) : ∀ (r done : List Str) (kvs : List (Ky × W)) (a b e d f g : Option W), Counts kvs (cnt done) → kvs.length ≤ done.length → done.length + r.length ≤ 1000 → (∀ x ∈ r, x ∈ nl) →
    (∃ v ρ', forL (bodyF cl (.tp [(.nm 5), (.nm 6)]) plO) (enumL done.length (r.map .str)) [some w0, some w1, some (.lst (nl.map .str)), some (.lst ((tiesOf k).map encT)), some (.dct kvs), a, b, e, d, f, g] M = .ok (.rt v, ρ') M ∧ playW k done r = v) ∨
    ∃ kvs' a1 b1 e1 d1 f1 g1, forL (bodyF cl (.tp [(.nm 5), (.nm 6)]) plO) (enumL done.length (r.map .str)) [some w0, some w1, some (.lst (nl.map .str)), some (.lst ((tiesOf k).map encT)), some (.dct kvs), a, b, e, d, f, g] M = .ok (.nx, [some w0, some w1, some (.lst (nl.map .str)), some (.lst ((tiesOf k).map encT)), some (.dct kvs'), a1, b1, e1, d1, f1, g1]) M ∧ Counts kvs' (cnt (done ++ r)) ∧ playW k done r = playW k (done ++ r) []
  | [], done, kvs, a, b, e, d, f, g, hc, _, _, _ => .inr ⟨kvs, a, b, e, d, f, g, rfl, by rw [List.append_nil]; exact hc, by rw [List.append_nil]⟩
  | x :: r, done, kvs, a, b, e, d, f, g, hc, hk, hl, hn => by
    have hx := hn x List.mem_cons_self
    obtain ⟨i1, i2⟩ := pl_inner cl M hc k w0 w1 (.lst (nl.map .str)) (.lst ((tiesOf k).map encT)) done.length x (tiesOf k) e d f g
    have hcons : enumL done.length ((x :: r).map W.str) = .tup [.int (done.length : Nat), .str x] :: enumL (done.length + 1) (r.map .str) := rfl
    rw [hcons]
    cases hf : (tiesOf k).find? (stopsAt k (cnt done) x) with
    | some t =>
      obtain ⟨ρ', e1⟩ := i2 t hf
      have eb : bodyF cl (.tp [(.nm 5), (.nm 6)]) plO (.tup [.int (done.length : Nat), .str x]) [some w0, some w1, some (.lst (nl.map .str)), some (.lst ((tiesOf k).map encT)), some (.dct kvs), a, b, e, d, f, g] M = .ok (.rt (.tup [.str "stopped", .int done.length, tieW t]), ρ') M := by
        simp [bodyF, inn_strs hx]
        rw [e1]; rfl
      refine .inl ⟨_, ρ', forL_rt eb, ?_⟩
      unfold playW
      rw [hf]
    | none =>
      obtain ⟨a', b', e', d', e1⟩ := i1 hf
      have hz : kvs.length < 16777216 := by
        rw [List.length_cons] at hl
        omega
      have eb : bodyF cl (.tp [(.nm 5), (.nm 6)]) plO (.tup [.int (done.length : Nat), .str x]) [some w0, some w1, some (.lst (nl.map .str)), some (.lst ((tiesOf k).map encT)), some (.dct kvs), a, b, e, d, f, g] M = .ok (.nx, [some w0, some w1, some (.lst (nl.map .str)), some (.lst ((tiesOf k).map encT)), some (.dct (putK kvs (.s x) (.int (cnt done x + 1)))), some (.int done.length), some (.str x), a', b', e', d']) M := by
        have hcond : ((kvs.all fun p => p.1.flat) = true ∧ kvs.length < sizeLine) := ⟨by simpa using hc.all, by rw [sizeLine_eq]; exact hz⟩
        simp [bodyF, inn_strs hx]
        rw [e1]
        simp only [R.bind_ok]
        simp [counts_get hc, -getW_dct, -List.all_eq_true]
        rw [if_pos hcond]; rfl
      have h2 := counts_put hc x
      have l2 := put_len kvs (.s x) (.int (cnt done x + 1))
      have IH := pl_outer cl M k w0 w1 nl r (done ++ [x]) (putK kvs (.s x) (.int (cnt done x + 1))) (some (.int done.length)) (some (.str x)) a' b' e' d' h2 (by rw [List.length_append, List.length_singleton]; omega) (by rw [List.length_append, List.length_singleton]; rw [List.length_cons] at hl; omega) fun y hy => hn y (List.mem_cons_of_mem _ hy)
      have ep : playW k done (x :: r) = playW k (done ++ [x]) r := by
        conv => lhs; unfold playW
        rw [hf]
      rw [forL_nx eb, ep]
      rw [List.length_append, List.length_singleton, List.append_assoc] at IH
      exact IH
theorem play_ok (h26 : tab 26 = some F26_names_of) (h27 : tab 27 = some F27_ties_of) (h29 : tab 29 = some F29_stocks_after) (h30 : tab 30 = some F30_play) (k : Wo) (hk : k.bs.length ≤ 1000) {r : List Str} (hr : ∀ x ∈ r, x ∈ k.ms.map (·.name)) (hl : r.length ≤ 1000) (M : List W) (n : Nat) (hn : 2 ≤ n) :
    callF tab n 30 [encK k, .tup (r.map .str)] M = .ok (playW k [] r) M := by
  obtain ⟨d, rfl⟩ : ∃ d, n = d + 1 := ⟨n - 1, by omega⟩
  rw [call_of h30 _ _ _ rfl]
  have e1 := names_of_ok h26 k M d (by omega)
  have e2 := ties_of_ok h27 k hk M d (by omega)
  rcases pl_outer (callF tab d) M k (encK k) (.tup (r.map .str)) (k.ms.map (·.name)) r [] [] none none none none none none counts_nil (Nat.le_refl _) (by simpa using hl) hr with ⟨v, ρ', e3, e4⟩ | ⟨kvs, a, b, c, e, f, g, e3, hc, e4⟩
  · rw [e4]
    rw [List.length_nil] at e3
    simp [F30_play, e1, e2, dctOf, e3, -List.map_map]
  · rw [e4]
    rw [List.length_nil] at e3
    have e5 := stocks_after_ok h29 k hk hc M d (by omega)
    rw [List.nil_append] at e5
    simp [F30_play, e1, e2, dctOf, e3, e5, playW, -List.map_map]
end
end K02
end Mi
end ShB_

section ShC_
set_option linter.all false
set_option Elab.async false
/-! K02: what the law compares with. -/
namespace Mi
open PySem L2
namespace K02
section
variable {tab : Nat → Option Fn}
/-- the stops among given ties -/
def stopOf (x : Str) (t : Ti) : Option W := if t.goal = x ∧ t.count = 0 then some (tieW t) else none
theorem blocked_ok (h27 : tab 27 = some F27_ties_of) (h28 : tab 28 = some F28_blocked) (k : Wo) (hk : k.bs.length ≤ 1000) (x : Str) (M : List W) (n : Nat) (hn : 2 ≤ n) : callF tab n 28 [encK k, .str x] M = .ok (.lst ((tiesOf k).filterMap (stopOf x))) M := by
  obtain ⟨d, rfl⟩ : ∃ d, n = d + 1 := ⟨n - 1, by omega⟩
  rw [call_of h28 _ _ _ rfl]
  have e1 := ties_of_ok h27 k hk M d (by omega)
  have e2 : compL (turnL (callF tab d) (.ix (.var 2) (.int 0)) (.nm 2) (.and (.cmp .eq (.ix (.var 2) (.int 2)) (.var 1)) (.cmp .eq (.ix (.var 2) (.int 3)) (.int 0))) [2] [some (encK k), some (.str x), none]) ((tiesOf k).map encT) M = .ok ((tiesOf k).filterMap (stopOf x)) M :=
    compL_pure (tiesOf k) fun t _ => by
      by_cases h1 : t.goal = x
      · by_cases h2 : t.count = 0
        · simp [turnL, encT, stopOf, h1, h2, tieW]
        · simp [turnL, encT, stopOf, h1, h2, tieW]
      · simp [turnL, encT, stopOf, h1, tieW]
  simp [F28_blocked, e1, e2]
def tallyW (k : Wo) (r : List Str) : W := .tup (k.ms.map fun m => W.int (cnt r m.name))
theorem cnt_fm (r : List Str) (x : Str) : ((r.filterMap fun y => if y = x then some (W.str y) else none).length : Int) = cnt r x := by
  unfold cnt
  congr 1
  induction r with
  | nil => rfl
  | cons y r ih =>
    rw [List.filterMap_cons, List.filter_cons]
    by_cases h : y = x
    · simp [h]; simpa [h] using ih
    · simp [h]; simpa [h] using ih
theorem tally_in (cl : Nat → List W → List W → R W) (w : W) (r : List Str) (x : Str) (M : List W) : compL (turnL cl (.var 2) (.nm 2) (.cmp .eq (.var 2) (.var 3)) [2] [some w, some (.tup (r.map .str)), none, some (.str x)]) (r.map .str) M = .ok (r.filterMap fun y => if y = x then some (W.str y) else none) M :=
  compL_pure r fun y _ => by
    by_cases h : y = x
    · simp [turnL, h]
    · simp [turnL, h]
theorem tally_out (cl : Nat → List W → List W → R W) (k : Wo) (r : List Str) (M : List W) : compL (turnL cl (.bi .len [(.lc (.var 2) (.nm 2) (.v (.var 1)) (.cmp .eq (.var 2) (.var 3)) [2])]) (.nm 3) .yes [3] [some (encK k), some (.tup (r.map .str)), none, none]) ((k.ms.map (·.name)).map .str) M = .ok (k.ms.map fun m => W.int (cnt r m.name)) M := by
  rw [List.map_map, compL_pure (e := W.str ∘ fun m : Mac => m.name) (g := fun m : Mac => some (W.int (cnt r m.name))) k.ms fun m _ => by
    simp [turnL, tally_in, cnt_fm]]
  rw [List.filterMap_eq_map']
theorem counts_of_ok (h26 : tab 26 = some F26_names_of) (h31 : tab 31 = some F31_counts_of) (k : Wo) (r : List Str) (M : List W) (n : Nat) (hn : 2 ≤ n) : callF tab n 31 [encK k, .tup (r.map .str)] M = .ok (tallyW k r) M := by
  obtain ⟨d, rfl⟩ : ∃ d, n = d + 1 := ⟨n - 1, by omega⟩
  rw [call_of h31 _ _ _ rfl]
  have e1 := names_of_ok h26 k M d (by omega)
  have e2 := tally_out (callF tab d) k r M
  simp [F31_counts_of, e1, e2, tallyW, -List.map_map]
theorem tally_ok (h20 : tab 20 = some F20__law_name_list) (h36 : tab 36 = some F36__law_tally) (k : Wo) (r : List Str) (M : List W) (n : Nat) (hn : 2 ≤ n) : callF tab n 36 [encK k, .tup (r.map .str)] M = .ok (tallyW k r) M := by
  obtain ⟨d, rfl⟩ : ∃ d, n = d + 1 := ⟨n - 1, by omega⟩
  rw [call_of h36 _ _ _ rfl]
  have e1 := name_list_ok h20 k M d (by omega)
  have e2 := tally_out (callF tab d) k r M
  simp [F36__law_tally, e1, e2, tallyW, -List.map_map]
theorem stocks_ok (h22 : tab 22 = some F22__law_stocks) (k : Wo) (M : List W) (n : Nat) (hn : 1 ≤ n) : callF tab n 22 [encK k] M = .ok (.tup (k.bs.map fun b => W.int b.stock)) M := by
  obtain ⟨d, rfl⟩ : ∃ d, n = d + 1 := ⟨n - 1, by omega⟩
  rw [call_of h22 _ _ _ rfl]
  have e2 : compL (turnL (callF tab d) (.ix (.var 1) (.int 3)) (.nm 1) .yes [1] [some (encK k), none]) (k.bs.map encB) M = .ok (k.bs.map fun b => W.int b.stock) M := by
    rw [compL_pure (g := fun b => some (W.int b.stock)) k.bs fun b _ => by simp [turnL, encB]]
    rw [List.filterMap_eq_map']
  unfold encK at e2
  simp [F22__law_stocks, encK, e2]
/-! ### ready -/
def isReady (k : Wo) (x : Str) : Bool := (((tiesOf k).filterMap fun t => if t.goal = x then some (decide (t.count > 0)) else none)).all id
theorem ready_in (cl : Nat → List W → List W → R W) (w a : W) (k : Wo) (x : Str) (M : List W) : compL (turnL cl (.cmp .gt (.ix (.var 3) (.int 3)) (.int 0)) (.nm 3) (.cmp .eq (.ix (.var 3) (.int 2)) (.var 2)) [3] [some w, some a, some (.str x), none]) ((tiesOf k).map encT) M = .ok (((tiesOf k).filterMap fun t => if t.goal = x then some (decide (t.count > 0)) else none).map W.bl) M := by
  rw [compL_pure (g := fun t : Ti => if t.goal = x then some (W.bl (decide (t.count > 0))) else none) (tiesOf k) fun t _ => by
    by_cases h : t.goal = x
    · simp [turnL, encT, h]
    · simp [turnL, encT, h]]
  rw [List.map_filterMap]
  congr 2
  funext t
  split <;> rfl
theorem ready_ok (h20 : tab 20 = some F20__law_name_list) (h32 : tab 32 = some F32__law_ties) (h34 : tab 34 = some F34__law_ready) (k : Wo) (hk : k.bs.length ≤ 1000) (M : List W) (n : Nat) (hn : 2 ≤ n) : callF tab n 34 [encK k] M = .ok (.lst (((k.ms.map (·.name)).filter (isReady k)).map .str)) M := by
  obtain ⟨d, rfl⟩ : ∃ d, n = d + 1 := ⟨n - 1, by omega⟩
  rw [call_of h34 _ _ _ rfl]
  have e1 := name_list_ok h20 k M d (by omega)
  have e2 := law_ties_ok h32 k hk M d (by omega)
  have e3 : compL (turnL (callF tab d) (.var 2) (.nm 2) (.v (.bi .all [(.lc (.cmp .gt (.ix (.var 3) (.int 3)) (.int 0)) (.nm 3) (.v (.var 1)) (.cmp .eq (.ix (.var 3) (.int 2)) (.var 2)) [3])])) [2] [some (encK k), some (.lst ((tiesOf k).map encT)), none, none]) ((k.ms.map (·.name)).map .str) M = .ok (((k.ms.map (·.name)).filter (isReady k)).map .str) M := by
    rw [compL_pure (g := fun x => if isReady k x then some (W.str x) else none) (k.ms.map (·.name)) fun x _ => by
      have h := ready_in (callF tab d) (encK k) (.lst ((tiesOf k).map encT)) k x M
      have hr : isReady k x = (((tiesOf k).filterMap fun t => if t.goal = x then some (decide (t.count > 0)) else none)).all id := rfl
      simp only [hr]
      generalize (tiesOf k).filterMap (fun t => if t.goal = x then some (decide (t.count > 0)) else none) = l at h
      simp only [turnL, bindT_nm]
      simp [h, -List.all_eq_true]
      cases l.all id <;> rfl]
    congr 1
    induction k.ms.map (·.name) with
    | nil => rfl
    | cons x l ih =>
      rw [List.filterMap_cons, List.filter_cons]
      cases isReady k x with
      | true => simp only [if_true, List.map_cons]; rw [ih]
      | false => simpa using ih
  simp [F34__law_ready, e1, e2, e3, -List.map_map]
end
end K02
end Mi
end ShC_

section ShD_
set_option linter.all false
set_option Elab.async false
/-! K02: walks. -/
namespace Mi
open PySem L2
namespace K02
section
variable {tab : Nat → Option Fn}
theorem one_counts (x : Str) : Counts [(.s x, .int 1)] (fun y => if x = y then 1 else 0) := by
  refine ⟨fun p hp => by rw [List.mem_singleton.mp hp]; rfl, fun y => ?_⟩
  by_cases h : x = y
  · simp [getK, h]
  · simp [getK, h]
theorem dct_one (x : Str) (v : W) : dctOf [] [.str x, v] = some [(.s x, v)] := rfl
/-- one going of x -/
def goneOf (k : Wo) (x : Str) : Wo := setStock k fun b => b.stock + (if x = b.start then 1 else 0) - (if x = b.goal then 1 else 0)
theorem gone_ms (k : Wo) (x : Str) : (goneOf k x).ms = k.ms := rfl
theorem gone_len (k : Wo) (x : Str) : (goneOf k x).bs.length = k.bs.length := List.length_map _
theorem gone_ok (h33 : tab 33 = some F33__law_stocks_behind) (h21 : tab 21 = some F21__law_with) (k : Wo) (hk : k.bs.length ≤ 1000) (x : Str) (n : Nat) (hn : 1 ≤ n) (M : List W) :
    ∃ w, callF tab n 33 [encK k, .dct [(.s x, .int 1)]] M = .ok w M ∧ callF tab n 21 [encK k, w] M = .ok (encK (goneOf k x)) M :=
  ⟨_, stocks_behind_ok h33 k hk (one_counts x) M n hn, with_ok h21 k hk _ M n hn⟩
/-! ### played -/
def nowOf (k : Wo) (done : List Str) : Wo := setStock k fun b => b.stock + cnt done b.start - cnt done b.goal
theorem now_nil (k : Wo) : nowOf k [] = k := by
  unfold nowOf setStock
  have : (k.bs.map fun b : Bn => { b with stock := b.stock + cnt [] b.start - cnt [] b.goal }) = k.bs := by
    conv => rhs; rw [← List.map_id k.bs]
    refine List.map_congr_left fun b _ => ?_
    show ({ b with stock := b.stock + 0 - 0 } : Bn) = b
    rw [Int.add_zero, Int.sub_zero]
  rw [this]
theorem now_snoc (k : Wo) (done : List Str) (x : Str) : goneOf (nowOf k done) x = nowOf k (done ++ [x]) := by
  unfold goneOf nowOf setStock
  rw [List.map_map]
  congr 1
  refine List.map_congr_left fun b _ => ?_
  show ({ b with stock := (b.stock + cnt done b.start - cnt done b.goal) + (if x = b.start then 1 else 0) - (if x = b.goal then 1 else 0) } : Bn) = { b with stock := b.stock + cnt (done ++ [x]) b.start - cnt (done ++ [x]) b.goal }
  rw [cnt_snoc, cnt_snoc]
  have : (b.stock + cnt done b.start - cnt done b.goal) + (if x = b.start then 1 else 0) - (if x = b.goal then 1 else 0) = b.stock + (cnt done b.start + if x = b.start then 1 else 0) - (cnt done b.goal + if x = b.goal then 1 else 0) := by omega
  rw [this]
def tieNow (c : Str → Int) (t : Ti) : Ti := { t with count := t.count + c t.start - c t.goal }
theorem ties_now (k : Wo) (done : List Str) : tiesOf (nowOf k done) = (tiesOf k).map (tieNow (cnt done)) := by
  unfold tiesOf nowOf setStock
  rw [List.map_append, List.map_map, List.map_map, List.filterMap_map, List.map_filterMap]
  congr 2
  funext b
  show roomOf { b with stock := b.stock + cnt done b.start - cnt done b.goal } = (roomOf b).map _
  unfold roomOf
  cases b.room with
  | none => rfl
  | some r =>
    show some (⟨"room", b.name, b.goal, b.start, r - (b.stock + cnt done b.start - cnt done b.goal)⟩ : Ti) = some ⟨"room", b.name, b.goal, b.start, r - b.stock + cnt done b.goal - cnt done b.start⟩
    have : r - (b.stock + cnt done b.start - cnt done b.goal) = r - b.stock + cnt done b.goal - cnt done b.start := by omega
    rw [this]
/-! ### rows that can be done -/
/-- x can go when each machine y has gone c y times -/
def enab (k : Wo) (c : Str → Int) (x : Str) : Prop := ∀ t ∈ tiesOf k, t.goal = x → 0 < t.count + c t.start - c t.goal
/-- the row can be done, going by going -/
def Runs (k : Wo) (r : List Str) : Prop := ∀ p x s, r = p ++ x :: s → x ∈ k.ms.map (·.name) ∧ enab k (cnt p) x
theorem ready_iff (k : Wo) (x : Str) : isReady k x = true ↔ ∀ t ∈ tiesOf k, t.goal = x → 0 < t.count := by
  unfold isReady
  rw [List.all_eq_true]
  constructor
  · intro h t ht e
    have := h (decide (t.count > 0)) (List.mem_filterMap.mpr ⟨t, ht, if_pos e⟩)
    exact of_decide_eq_true this
  · intro h b hb
    obtain ⟨t, ht, e⟩ := List.mem_filterMap.mp hb
    split at e
    · rename_i hg
      cases e
      exact decide_eq_true (h t ht hg)
    · cases e
theorem ready_now (k : Wo) (done : List Str) (x : Str) : isReady (nowOf k done) x = true ↔ enab k (cnt done) x := by
  rw [ready_iff, ties_now]
  constructor
  · intro h t ht e
    have := h (tieNow (cnt done) t) (List.mem_map.mpr ⟨t, ht, rfl⟩) e
    exact this
  · intro h t' ht' e
    obtain ⟨t, ht, rfl⟩ := List.mem_map.mp ht'
    exact h t ht e
theorem Runs.nil (k : Wo) : Runs k [] := fun p x s h => by
  have := congrArg List.length h
  simp at this
theorem Runs.snoc {k : Wo} {r : List Str} {x : Str} (h : Runs k r) (hx : x ∈ k.ms.map (·.name)) (he : enab k (cnt r) x) : Runs k (r ++ [x]) := fun p y s e => by
  rcases List.append_eq_append_iff.mp e with ⟨a', e1, e2⟩ | ⟨c', e1, e2⟩
  · cases a' with
    | nil =>
      simp at e2
      obtain ⟨rfl, rfl⟩ := e2
      simp at e1
      subst e1
      exact ⟨hx, he⟩
    | cons z zs =>
      simp at e2
  · cases c' with
    | nil =>
      simp at e2
      obtain ⟨rfl, rfl⟩ := e2
      simp at e1
      subst e1
      exact ⟨hx, he⟩
    | cons z zs =>
      rw [List.cons_append] at e2
      injection e2 with e3 e4
      subst e3
      exact h p y zs e1
theorem Runs.mem {k : Wo} {r : List Str} (h : Runs k r) : ∀ x ∈ r, x ∈ k.ms.map (·.name) := fun x hx => by
  obtain ⟨p, s, e⟩ := List.append_of_mem hx
  exact (h p x s e).1
theorem Runs.pre {k : Wo} {p s : List Str} (h : Runs k (p ++ s)) : Runs k p := fun q x t e => h q x (t ++ s) (by rw [e]; simp)
theorem now_ms (k : Wo) (done : List Str) : (nowOf k done).ms = k.ms := rfl
theorem now_len (k : Wo) (done : List Str) : (nowOf k done).bs.length = k.bs.length := List.length_map _
abbrev wdB : List S := [.set 6 .pl (.call 34 [(.var 4)]),
    .ifs (.cmp .eq (.bi .len [(.var 6)]) (.int 0)) [.brk] [],
    .set 7 .pl (.call 15 [(.var 0), (.var 6)]),
    .app 3 (.var 7),
    .set 4 .pl (.call 21 [(.var 4), (.call 33 [(.var 4), (.dct [(.var 7), (.int 1)])])])]
structure WdInv (k : Wo) (m : Int) (done : List Nat) (ρ : Env) (M : List W) : Prop where
  box : IsBox M
  ex : ∃ (r : List Str) (now : Wo) (a b c : Option W), ρ = [some (.loc 0), some (encK k), some (.int m), some (.lst (r.map .str)), some (encK now), a, b, c] ∧ r.length = done.length ∧ Runs k r ∧ now = nowOf k r
structure WdEnd (k : Wo) (m : Nat) (ρ : Env) (M : List W) : Prop where
  box : IsBox M
  ex : ∃ (r : List Str), ρ[3]? = some (some (.lst (r.map .str))) ∧ r.length ≤ m ∧ Runs k r
theorem walked_ok (h14 : tab 14 = some F14__law_take) (h15 : tab 15 = some F15__law_pick) (h20 : tab 20 = some F20__law_name_list) (h32 : tab 32 = some F32__law_ties) (h33 : tab 33 = some F33__law_stocks_behind) (h21 : tab 21 = some F21__law_with) (h34 : tab 34 = some F34__law_ready) (h35 : tab 35 = some F35__law_walked) (k : Wo) (hk : k.bs.length ≤ 1000) {M : List W} (hb : IsBox M) {m : Nat} (hm : m ≤ 100) (n : Nat) (hn : 3 ≤ n) :
    ∃ (r : List Str) (M' : List W), callF tab n 35 [.loc 0, encK k, .int m] M = .ok (.tup (r.map .str)) M' ∧ IsBox M' ∧ r.length ≤ m ∧ Runs k r := by
  obtain ⟨d, rfl⟩ : ∃ d, n = d + 1 := ⟨n - 1, by omega⟩
  rw [call_of h35 _ _ _ rfl]
  have er := range_len m (by omega)
  rcases forL_stop (f := bodyF (callF tab d) (.nm 5) wdB) (e := fun j : Nat => W.int j) (WdInv k m) (WdEnd k m) (fun _ _ => False) (List.range m) (ρ := [some (.loc 0), some (encK k), some (.int m), some (.lst []), some (encK k), none, none, none]) (M := M) ⟨hb, [], k, none, none, none, rfl, rfl, Runs.nil k, (now_nil k).symm⟩ (fun done x rest ρ M hx I => by
    obtain ⟨bx, r, now, a, b, c, rfl, hr, hin, hnow⟩ := I
    have hms : now.ms = k.ms := by rw [hnow]; rfl
    have hbs : now.bs.length = k.bs.length := by rw [hnow]; exact now_len k r
    have hlen := congrArg List.length hx
    rw [List.length_range, List.length_append, List.length_cons] at hlen
    have e1 := ready_ok h20 h32 h34 now (by omega) M d (by omega)
    by_cases hz : (now.ms.map (·.name)).filter (isReady now) = []
    · refine .inr (.inl ⟨[some (.loc 0), some (encK k), some (.int m), some (.lst (r.map .str)), some (encK now), some (.int x), some (.lst []), c], M, ?_, bx, r, rfl, by omega, hin⟩)
      rw [hz] at e1
      simp [bodyF, e1]
    · obtain ⟨y, hy, M2, e2, b2⟩ := pick_of h14 h15 W.str bx hz d (by omega)
      obtain ⟨w, e3, e4⟩ := gone_ok h33 h21 now (by omega) y d (by omega) M2
      have hz' : ¬ (((now.ms.map (·.name)).filter (isReady now)).length : Int) = 0 := fun z => hz (List.length_eq_zero_iff.mp (by omega))
      have zz : r.length < 16777216 := by omega
      refine .inl ⟨[some (.loc 0), some (encK k), some (.int m), some (.lst ((r ++ [y]).map .str)), some (encK (goneOf now y)), some (.int x), some (.lst (((now.ms.map (·.name)).filter (isReady now)).map .str)), some (.str y)], M2, ?_, b2, r ++ [y], goneOf now y, _, _, _, rfl, ?_, ?_, ?_⟩
      · generalize (now.ms.map (·.name)).filter (isReady now) = l at *
        simp [bodyF, e1, e2, hz, hz', sizeLine_eq, zz, dct_one]
        simp [e3, e4]
      · rw [List.length_append, List.length_append, hr]; rfl
      · obtain ⟨y1, y2⟩ := List.mem_filter.mp hy
        rw [hms] at y1
        rw [hnow] at y2
        exact hin.snoc y1 ((ready_now k r y).mp y2)
      · rw [hnow, now_snoc]) (fun ρ M I => by
    obtain ⟨bx, r, now, a, b, c, rfl, hr, hin, hnow⟩ := I
    exact ⟨bx, r, rfl, by rw [hr, List.length_range]; exact Nat.le_refl _, hin⟩) with ⟨ρ', M', e, bx, r, h3, hl, hin⟩ | ⟨v, ρ', M', e, hf⟩
  · refine ⟨r, M', ?_, bx, hl, hin⟩
    simp [F35__law_walked, er, e, h3]
  · exact absurd hf id
theorem stops_now (k : Wo) (done : List Str) (x : Str) : (tiesOf (nowOf k done)).filterMap (stopOf x) = ((tiesOf k).filter (stopsAt k (cnt done) x)).map tieW := by
  rw [ties_now, List.filterMap_map]
  induction tiesOf k with
  | nil => rfl
  | cons t ts ih =>
    rw [List.filterMap_cons, List.filter_cons]
    by_cases h : t.goal = x ∧ t.count + cnt done t.start - cnt done t.goal = 0
    · have h1 : (stopOf x ∘ tieNow (cnt done)) t = some (tieW t) := if_pos h
      have h2 : stopsAt k (cnt done) x t = true := by unfold stopsAt; rw [decide_eq_true h.1, decide_eq_true h.2]; rfl
      simp only [h1, h2, if_true, List.map_cons]
      rw [ih]
    · have h1 : (stopOf x ∘ tieNow (cnt done)) t = none := if_neg h
      have h2 : ¬ stopsAt k (cnt done) x t = true := by
        unfold stopsAt
        rw [Bool.and_eq_true, decide_eq_true_iff, decide_eq_true_iff]
        exact h
      rw [if_neg h2]
      simp only [h1]
      exact ih
theorem find_filter {α : Type} (p : α → Bool) (l : List α) : l.find? p = (l.filter p).head? := by
  induction l with
  | nil => rfl
  | cons a l ih =>
    rw [List.find?_cons, List.filter_cons]
    cases p a with
    | true => rfl
    | false => exact ih
abbrev pdB : List S := [.set 4 .pl (.lc (.ix (.var 5) (.int 0)) (.nm 5) (.v (.call 32 [(.var 2)])) (.and (.cmp .eq (.ix (.var 5) (.int 2)) (.ix (.var 1) (.var 3))) (.cmp .eq (.ix (.var 5) (.int 3)) (.int 0))) [5]),
    .ifs (.cmp .gt (.bi .len [(.var 4)]) (.int 0)) [.ret (.tup [(.str "stopped"), (.var 3), (.ix (.var 4) (.int 0))])] [],
    .set 2 .pl (.call 21 [(.var 2), (.call 33 [(.var 2), (.dct [(.ix (.var 1) (.var 3)), (.int 1)])])])]
theorem pd_loop (h32 : tab 32 = some F32__law_ties) (h33 : tab 33 = some F33__law_stocks_behind) (h21 : tab 21 = some F21__law_with) (k : Wo) (hk : k.bs.length ≤ 1000) (all : List Str) (M : List W) (d : Nat) (hd : 1 ≤ d) : ∀ (r done : List Str) (a b c : Option W), all = done ++ r →
    (∃ v ρ', forL (bodyF (callF tab d) (.nm 3) pdB) ((List.range' done.length r.length).map fun j : Nat => W.int j) [some (encK k), some (.tup (all.map .str)), some (encK (nowOf k done)), a, b, c] M = .ok (.rt v, ρ') M ∧ playW k done r = v) ∨
    ∃ a1 b1 c1, forL (bodyF (callF tab d) (.nm 3) pdB) ((List.range' done.length r.length).map fun j : Nat => W.int j) [some (encK k), some (.tup (all.map .str)), some (encK (nowOf k done)), a, b, c] M = .ok (.nx, [some (encK k), some (.tup (all.map .str)), some (encK (nowOf k all)), a1, b1, c1]) M ∧ playW k done r = playW k all []
  | [], done, a, b, c, h => by
    rw [List.append_nil] at h
    exact .inr ⟨a, b, c, by rw [h]; rfl, by rw [h]⟩
  | x :: r, done, a, b, c, h => by
    have hrange : List.range' done.length (x :: r).length = done.length :: List.range' (done.length + 1) r.length := rfl
    rw [hrange, List.map_cons]
    have hx : (all.map W.str)[done.length]? = some (.str x) := by rw [h]; simp
    have e1 := law_ties_ok h32 (nowOf k done) (by show (k.bs.map _).length ≤ 1000; rw [List.length_map]; exact hk) M d hd
    have e2 : ∀ w3 : W, ∀ b, compL (turnL (callF tab d) (.ix (.var 5) (.int 0)) (.nm 5) (.and (.cmp .eq (.ix (.var 5) (.int 2)) (.ix (.var 1) (.var 3))) (.cmp .eq (.ix (.var 5) (.int 3)) (.int 0))) [5] [some (encK k), some (.tup (all.map .str)), some (encK (nowOf k done)), some (.int (done.length : Nat)), b, c]) ((tiesOf (nowOf k done)).map encT) M = .ok ((tiesOf (nowOf k done)).filterMap (stopOf x)) M := fun w3 b =>
      compL_pure (tiesOf (nowOf k done)) fun t _ => by
        by_cases h1 : t.goal = x
        · by_cases h2 : t.count = 0
          · simp [turnL, encT, stopOf, h1, h2, tieW, atI_nat, hx, -List.getElem?_map]
          · simp [turnL, encT, stopOf, h1, h2, tieW, atI_nat, hx, -List.getElem?_map]
        · simp [turnL, encT, stopOf, h1, tieW, atI_nat, hx, -List.getElem?_map]
    rw [stops_now] at e2
    cases hf : (tiesOf k).filter (stopsAt k (cnt done) x) with
    | cons t ts =>
      rw [hf] at e2
      have hlt : (0 : Int) < (ts.length : Int) + 1 := by omega
      have eb : bodyF (callF tab d) (.nm 3) pdB (.int (done.length : Nat)) [some (encK k), some (.tup (all.map .str)), some (encK (nowOf k done)), a, b, c] M = .ok (.rt (.tup [.str "stopped", .int done.length, tieW t]), [some (encK k), some (.tup (all.map .str)), some (encK (nowOf k done)), some (.int (done.length : Nat)), some (.lst (tieW t :: ts.map tieW)), c]) M := by
        have e2' := e2 .non b
        simp [bodyF, e1, e2', hlt]
      refine .inl ⟨_, _, forL_rt eb, ?_⟩
      unfold playW
      rw [find_filter, hf]
      rfl
    | nil =>
      rw [hf] at e2
      obtain ⟨w, e3, e4⟩ := gone_ok h33 h21 (nowOf k done) (by show (k.bs.map _).length ≤ 1000; rw [List.length_map]; exact hk) x d hd M
      rw [now_snoc] at e4
      have eb : bodyF (callF tab d) (.nm 3) pdB (.int (done.length : Nat)) [some (encK k), some (.tup (all.map .str)), some (encK (nowOf k done)), a, b, c] M = .ok (.nx, [some (encK k), some (.tup (all.map .str)), some (encK (nowOf k (done ++ [x]))), some (.int (done.length : Nat)), some (.lst []), c]) M := by
        have e2' := e2 .non b
        simp [bodyF, e1, e2', atI_nat, hx, dct_one, -List.getElem?_map]
        simp [e3, e4]
      rw [forL_nx eb]
      have IH := pd_loop h32 h33 h21 k hk all M d hd r (done ++ [x]) (some (.int (done.length : Nat))) (some (.lst [])) c (by rw [h]; simp)
      have ep : playW k done (x :: r) = playW k (done ++ [x]) r := by
        conv => lhs; unfold playW
        rw [find_filter, hf]
        rfl
      rw [ep]
      rw [List.length_append, List.length_singleton] at IH
      exact IH
theorem played_ok (h22 : tab 22 = some F22__law_stocks) (h32 : tab 32 = some F32__law_ties) (h33 : tab 33 = some F33__law_stocks_behind) (h21 : tab 21 = some F21__law_with) (h37 : tab 37 = some F37__law_played) (k : Wo) (hk : k.bs.length ≤ 1000) {r : List Str} (hl : r.length ≤ 1000) (M : List W) (n : Nat) (hn : 2 ≤ n) :
    callF tab n 37 [encK k, .tup (r.map .str)] M = .ok (playW k [] r) M := by
  obtain ⟨d, rfl⟩ : ∃ d, n = d + 1 := ⟨n - 1, by omega⟩
  rw [call_of h37 _ _ _ rfl]
  have er := range_len r.length (by omega)
  have h := pd_loop h32 h33 h21 k hk r M d (by omega) r [] none none none rfl
  rw [now_nil, List.length_nil, ← List.range_eq_range'] at h
  rcases h with ⟨v, ρ', e3, e4⟩ | ⟨a1, b1, c1, e3, e4⟩
  · rw [e4]
    simp [F37__law_played, er, e3]
  · rw [e4]
    have e5 := stocks_ok h22 (nowOf k r) M d (by omega)
    have e6 : ((nowOf k r).bs.map fun b => W.int b.stock) = k.bs.map fun b => W.int (b.stock + cnt r b.start - cnt r b.goal) := List.map_map ..
    rw [e6] at e5
    simp [F37__law_played, er, e3, e5, playW]
end
end K02
end Mi
end ShD_

section ShE_
set_option linter.all false
set_option Elab.async false
/-! ShE: rows that can be done; the works behind a row. -/
namespace Mi
open PySem L2
def F48__law_behind : Fn := ⟨2, 4, [0, 0], .t 0,
  [.set 2 .pl (.var 0),
  .forr (.nm 3) (.v (.var 1)) [.ifs (.cmp .nin (.var 3) (.call 34 [(.var 2)])) [.ret .non] [],
    .set 2 .pl (.call 21 [(.var 2), (.call 33 [(.var 2), (.dct [(.var 3), (.int 1)])])]),
    .wipe [3]] [.pl, .pl, .pl, .pl],
  .ret (.var 2)]⟩
namespace K02
/-! ### what can go -/
theorem cnt_nil (y : Str) : cnt [] y = 0 := rfl
theorem cnt_nonneg (r : List Str) (y : Str) : 0 ≤ cnt r y := Int.natCast_nonneg _
theorem cnt_append (r s : List Str) (y : Str) : cnt (r ++ s) y = cnt r y + cnt s y := by
  unfold cnt
  rw [List.filter_append, List.length_append]; omega
theorem cnt_cons (x : Str) (r : List Str) (y : Str) : cnt (x :: r) y = (if x = y then 1 else 0) + cnt r y := by
  have := cnt_append [x] r y
  rw [List.singleton_append] at this
  rw [this]
  congr 1
  unfold cnt
  by_cases h : x = y
  · simp [h]
  · simp [h]
theorem cnt_pos {r : List Str} {y : Str} (h : 0 < cnt r y) : y ∈ r := by
  unfold cnt at h
  have : r.filter (fun z => z == y) ≠ [] := fun z => by rw [z] at h; simp at h
  obtain ⟨z, hz⟩ := List.exists_mem_of_ne_nil _ this
  obtain ⟨z1, z2⟩ := List.mem_filter.mp hz
  have e : z = y := by simpa using z2
  exact e ▸ z1
theorem cnt_zero {r : List Str} {y : Str} (h : y ∉ r) : cnt r y = 0 := by
  have := cnt_nonneg r y
  by_cases z : 0 < cnt r y
  · exact absurd (cnt_pos z) h
  · omega
theorem enab_mono {k : Wo} {c c' : Str → Int} {x : Str} (h : enab k c x) (hx : c' x = c x) (hm : ∀ y, c y ≤ c' y) : enab k c' x := fun t ht e => by
  have h1 := h t ht e
  have h2 := hm t.start
  rw [e] at h1 ⊢
  rw [hx]
  omega
/-- some machine that has not gone as often as in a row that can be done can go -/
theorem some_go' {k : Wo} {s : List Str} (h : Runs k s) {c : Str → Int} : ∀ (q p : List Str), s = p ++ q → (∀ y, cnt p y ≤ c y) → (∃ y, c y < cnt s y) → ∃ x, c x < cnt s x ∧ x ∈ k.ms.map (·.name) ∧ enab k c x
  | [], p, e, hp, ⟨y, hy⟩ => by
    rw [List.append_nil] at e
    subst e
    have := hp y
    omega
  | x :: q, p, e, hp, hy => by
    by_cases z : cnt (p ++ [x]) x ≤ c x
    · refine some_go' h q (p ++ [x]) (by rw [e]; simp) (fun y => ?_) hy
      by_cases hxy : x = y
      · subst hxy; exact z
      · rw [cnt_snoc, if_neg hxy, Int.add_zero]; exact hp y
    · have h1 : cnt (p ++ [x]) x = cnt p x + 1 := by rw [cnt_snoc, if_pos rfl]
      have h2 := hp x
      have h3 : c x = cnt p x := by omega
      obtain ⟨k1, k2⟩ := h p x q e
      refine ⟨x, ?_, k1, enab_mono k2 h3 hp⟩
      have : cnt s x = cnt p x + cnt (x :: q) x := by rw [e, cnt_append]
      rw [cnt_cons, if_pos rfl] at this
      have := cnt_nonneg q x
      omega
theorem some_go {k : Wo} {s : List Str} (h : Runs k s) {c : Str → Int} (hc : ∀ y, 0 ≤ c y) (hy : ∃ y, c y < cnt s y) : ∃ x, c x < cnt s x ∧ x ∈ k.ms.map (·.name) ∧ enab k c x :=
  some_go' h s [] rfl (fun y => by rw [cnt_nil]; exact hc y) hy
/-! ### the works behind a row -/
section
variable {tab : Nat → Option Fn}
abbrev bhB : List S := [.ifs (.cmp .nin (.var 3) (.call 34 [(.var 2)])) [.ret .non] [],
    .set 2 .pl (.call 21 [(.var 2), (.call 33 [(.var 2), (.dct [(.var 3), (.int 1)])])]),
    .wipe [3]]
theorem bh_loop (h20 : tab 20 = some F20__law_name_list) (h32 : tab 32 = some F32__law_ties) (h33 : tab 33 = some F33__law_stocks_behind) (h21 : tab 21 = some F21__law_with) (h34 : tab 34 = some F34__law_ready) (k : Wo) (hk : k.bs.length ≤ 1000) (M : List W) (d : Nat) (hd : 2 ≤ d) (w0 w1 : W) :
    ∀ (q p : List Str), Runs k (p ++ q) → forL (bodyF (callF tab d) (.nm 3) bhB) (q.map W.str) [some w0, some w1, some (encK (nowOf k p)), none] M = .ok (.nx, [some w0, some w1, some (encK (nowOf k (p ++ q))), none]) M
  | [], p, _ => by rw [List.append_nil]; rfl
  | x :: q, p, h => by
    obtain ⟨k1, k2⟩ := h p x q rfl
    have e1 := ready_ok h20 h32 h34 (nowOf k p) (by rw [now_len]; exact hk) M d hd
    obtain ⟨w, e3, e4⟩ := gone_ok h33 h21 (nowOf k p) (by rw [now_len]; exact hk) x d (by omega) M
    rw [now_snoc] at e4
    have hin : x ∈ ((nowOf k p).ms.map (·.name)).filter (isReady (nowOf k p)) := List.mem_filter.mpr ⟨k1, (ready_now k p x).mpr k2⟩
    have ei : inW (.str x) (.lst ((((nowOf k p).ms.map (·.name)).filter (isReady (nowOf k p))).map .str)) = some true := by rw [in_strs, decide_eq_true hin]
    rw [List.map_cons]
    generalize ((nowOf k p).ms.map (·.name)).filter (isReady (nowOf k p)) = l at e1 ei
    have st : bodyF (callF tab d) (.nm 3) bhB (.str x) [some w0, some w1, some (encK (nowOf k p)), none] M = .ok (.nx, [some w0, some w1, some (encK (nowOf k (p ++ [x]))), none]) M := by
      simp [bodyF, e1, ei, dct_one, e3, e4]
    rw [forL_nx st]
    have := bh_loop h20 h32 h33 h21 h34 k hk M d hd w0 w1 q (p ++ [x]) (by rw [List.append_assoc]; exact h)
    rw [List.append_assoc] at this
    exact this
theorem behind_ok (h20 : tab 20 = some F20__law_name_list) (h32 : tab 32 = some F32__law_ties) (h33 : tab 33 = some F33__law_stocks_behind) (h21 : tab 21 = some F21__law_with) (h34 : tab 34 = some F34__law_ready) (h48 : tab 48 = some F48__law_behind) (k : Wo) (hk : k.bs.length ≤ 1000) {r : List Str} (hr : Runs k r) (M : List W) (n : Nat) (hn : 3 ≤ n) :
    callF tab n 48 [encK k, .tup (r.map .str)] M = .ok (encK (nowOf k r)) M := by
  obtain ⟨d, rfl⟩ : ∃ d, n = d + 1 := ⟨n - 1, by omega⟩
  rw [call_of h48 _ _ _ rfl]
  have e := bh_loop h20 h32 h33 h21 h34 k hk M d (by omega) (encK k) (.tup (r.map .str)) r [] hr
  rw [now_nil, List.nil_append] at e
  simp [F48__law_behind, e]
end
end K02
end Mi
end ShE_

section ShF_
set_option linter.all false
set_option Elab.async false
set_option maxRecDepth 100000
/-! ShF: the least row for numbers of goings (row_for). -/
namespace Mi
open PySem L2
def F39_row_for : Fn := ⟨2, 14, [0, 0], .t 0,
  [.ifs (.cmp .gt (.bi .sum [(.var 1)]) (.gint "MAX_GOINGS" 2000)) [.raise 1] [],
  .set 2 .pl (.call 26 [(.var 0)]),
  .set 3 .pl (.call 27 [(.var 0)]),
  .set 4 (.ow 1) (.dc (.var 6) (.ix (.var 1) (.var 5)) (.tp [(.nm 5), (.nm 6)]) (.enum (.var 2)) .yes [5, 6]),
  .set 7 (.ow 1) (.dc (.ix (.var 8) (.int 0)) (.ix (.var 8) (.int 3)) (.nm 8) (.v (.var 3)) .yes [8]),
  .set 9 (.ow 1) (.lst []),
  .whil (.v (.bi .any [(.lc (.cmp .gt (.ix (.var 4) (.var 6)) (.int 0)) (.nm 6) (.v (.var 2)) .yes [6])])) [.set 10 .pl (.lc (.var 6) (.nm 6) (.v (.var 2)) (.and (.cmp .gt (.ix (.var 4) (.var 6)) (.int 0)) (.not (.v (.call 40 [(.var 3), (.var 7), (.var 6)])))) [6]),
    .ifs (.not (.v (.var 10))) [.ret .non] [],
    .augx 4 .sub (.ix (.var 10) (.int 0)) (.int 1),
    .app 9 (.ix (.var 10) (.int 0)),
    .forr (.tp [(.nm 8), (.nm 11), (.nm 12), (.nm 13)]) (.v (.var 3)) [.augx 7 .add (.var 8) (.bin .sub (.ite (.cmp .eq (.var 11) (.ix (.var 10) (.int 0))) (.int 1) (.int 0)) (.ite (.cmp .eq (.var 12) (.ix (.var 10) (.int 0))) (.int 1) (.int 0))),
      .wipe [8, 11, 12, 13]] [.pl, .pl, .pl, .pl, (.ow 1), .pl, .pl, (.ow 1), .pl, (.ow 1), .pl, .pl, .pl, .pl],
    .wipe [8, 10, 11, 12, 13]] [.pl, .pl, .pl, .pl, (.ow 1), .pl, .pl, (.ow 1), .pl, (.ow 1), .pl, .pl, .pl, .pl],
  .ret (.bi .tuple [(.var 9)])]⟩
def F40_lacking : Fn := ⟨3, 7, [0, 1, 0], .t 0,
  [.ret (.lc (.var 3) (.tp [(.nm 3), (.nm 4), (.nm 5), (.nm 6)]) (.v (.var 0)) (.and (.cmp .eq (.var 5) (.var 2)) (.cmp .eq (.ix (.var 1) (.var 3)) (.int 0))) [3, 4, 5, 6])]⟩
/-! ### dicts that are functions -/
def fD {α : Type} (l : List α) (key : α → Ky) (v : α → W) : List (Ky × W) := l.map fun a => (key a, v a)
theorem fD_len {α : Type} (l : List α) (key : α → Ky) (v : α → W) : (fD l key v).length = l.length := List.length_map _
theorem fD_all {α : Type} {l : List α} {key : α → Ky} {v : α → W} {b : Bool} (h : ∀ a ∈ l, (key a).flat = b) : ((fD l key v).all fun p => p.1.flat == b) = true := by
  rw [List.all_eq_true]
  intro p hp
  obtain ⟨a, ha, rfl⟩ := List.mem_map.mp hp
  simp [h a ha]
theorem fD_get {α : Type} {l : List α} {key : α → Ky} {v : α → W} (nd : (l.map key).Nodup) {a : α} (ha : a ∈ l) : getK (fD l key v) (key a) = some (v a) := by
  induction l with
  | nil => cases ha
  | cons b l ih =>
    rw [List.map_cons, List.nodup_cons] at nd
    unfold fD getK
    rw [List.map_cons, List.find?_cons]
    rcases List.mem_cons.mp ha with rfl | ha
    · simp
    · have : key b ≠ key a := fun z => nd.1 (z ▸ List.mem_map.mpr ⟨a, ha, rfl⟩)
      simp only [this, decide_false]
      exact ih nd.2 ha
theorem fD_put {α : Type} {l : List α} {key : α → Ky} {v : α → W} {a : α} (ha : a ∈ l) (w : W) : putK (fD l key v) (key a) w = fD l key fun b => if key b = key a then w else v b := by
  have hany : ((fD l key v).any fun p => decide (p.1 = key a)) = true := List.any_eq_true.mpr ⟨(key a, v a), List.mem_map.mpr ⟨a, ha, rfl⟩, by simp⟩
  unfold putK
  rw [if_pos hany]
  unfold fD
  rw [List.map_map]
  refine List.map_congr_left fun b _ => ?_
  show (if key b = key a then (key b, w) else (key b, v b)) = (key b, if key b = key a then w else v b)
  split <;> rfl
theorem fold_put : ∀ (l acc : List (Ky × W)), (l.map (·.1)).Nodup → (∀ p ∈ acc, p.1 ∉ l.map (·.1)) → l.foldl (fun a p => putK a p.1 p.2) acc = acc ++ l
  | [], acc, _, _ => (List.append_nil acc).symm
  | p :: l, acc, nd, h => by
    rw [List.map_cons, List.nodup_cons] at nd
    have e : putK acc p.1 p.2 = acc ++ [p] := by
      unfold putK
      rw [if_neg]
      intro z
      obtain ⟨q, hq, e⟩ := List.any_eq_true.mp z
      exact h q hq (by rw [List.map_cons, of_decide_eq_true e]; exact List.mem_cons_self)
    rw [List.foldl_cons, e, fold_put l (acc ++ [p]) nd.2 fun q hq => ?_]
    · simp
    · rcases List.mem_append.mp hq with hq | hq
      · exact fun z => h q hq (List.mem_cons_of_mem _ z)
      · rw [List.mem_singleton.mp hq]; exact nd.1
/-- a dict comprehension of different keys -/
theorem compD_fD {α β : Type} {f : W → List W → R (Option (Ky × W))} {M : List W} {e : β → W} {l : List β} {g : β → α} {key : α → Ky} {v : α → W} (h : ∀ x ∈ l, f (e x) M = .ok (some (key (g x), v (g x))) M) {b : Bool} (hf : ∀ x ∈ l, (key (g x)).flat = b) (nd : ((l.map g).map key).Nodup) :
    compD f (l.map e) [] M = .ok (fD (l.map g) key v) M := by
  have gen : ∀ (xs : List β) (acc : List (Ky × W)), (∀ x ∈ xs, f (e x) M = .ok (some (key (g x), v (g x))) M) → (∀ x ∈ xs, (key (g x)).flat = b) → (∀ p ∈ acc, p.1.flat = b) → compD f (xs.map e) acc M = .ok ((xs.map fun x => (key (g x), v (g x))).foldl (fun a p => putK a p.1 p.2) acc) M := by
    intro xs
    induction xs with
    | nil => exact fun acc _ _ _ => rfl
    | cons x xs ih =>
      intro acc h hf ha
      rw [List.map_cons]
      unfold compD
      rw [h x List.mem_cons_self, R.bind_ok]
      simp only
      have hk := hf x List.mem_cons_self
      rw [if_pos (List.all_eq_true.mpr fun p hp => by simp [ha p hp, hk]), List.map_cons, List.foldl_cons]
      refine ih _ (fun y hy => h y (List.mem_cons_of_mem _ hy)) (fun y hy => hf y (List.mem_cons_of_mem _ hy)) fun p hp => ?_
      unfold putK at hp
      split at hp
      · obtain ⟨q, hq, e⟩ := List.mem_map.mp hp
        have := ha q hq
        split at e <;> (subst e; exact this)
      · rcases List.mem_append.mp hp with hp | hp
        · exact ha p hp
        · rw [List.mem_singleton.mp hp]; exact hk
  have nd2 : ((l.map fun x => (key (g x), v (g x))).map (·.1)).Nodup := by
    rw [List.map_map]
    rw [List.map_map] at nd
    exact nd
  have e2 := fold_put (l.map fun x => (key (g x), v (g x))) [] nd2 (by intro p hp; cases hp)
  rw [gen l [] h hf (by intro p hp; cases hp), e2]
  unfold fD
  rw [List.nil_append, List.map_map]; rfl
namespace K02
/-! ### the greedy row -/
def tkey (t : Ti) : Ky := .t [.inr t.kind, .inr t.name]
def hval (c : Str → Int) (t : Ti) : W := .int (t.count + c t.start - c t.goal)
def enabB (k : Wo) (c : Str → Int) (x : Str) : Bool := (tiesOf k).all fun t => !(decide (t.goal = x) && decide (t.count + c t.start - c t.goal = 0))
def goList (k : Wo) (cs c : Str → Int) : List Str := (k.ms.map (·.name)).filter fun x => decide (0 < cs x - c x) && enabB k c x
def greedy (k : Wo) (cs : Str → Int) : Nat → List Str → Option (List Str)
  | 0, row => some row
  | m + 1, row => match goList k cs (cnt row) with
    | [] => none
    | x :: _ => greedy k cs m (row ++ [x])
def rest (k : Wo) (cs : Str → Int) (row : List Str) : Int := ((k.ms.map (·.name)).map fun x => cs x - cnt row x).sum
end K02
end Mi
end ShF_

section ShG_
set_option linter.all false
set_option Elab.async false
set_option maxRecDepth 100000
/-! ShG: what row_for computes. -/
namespace Mi
open PySem L2
namespace K02
structure Plain (k : Wo) : Prop where
  nd : (k.ms.map fun m : Mac => m.name).Nodup
  bnd : (k.bs.map fun b : Bn => b.name).Nodup
  few : k.bs.length ≤ 1000
  mfew : k.ms.length ≤ 1000
  nn : ∀ t ∈ tiesOf k, 0 ≤ t.count
theorem tkeys_nodup {k : Wo} (h : (k.bs.map fun b : Bn => b.name).Nodup) : ((tiesOf k).map tkey).Nodup := by
  unfold tiesOf
  rw [List.map_append, List.map_map]
  refine List.nodup_append.mpr ⟨?_, ?_, ?_⟩
  · have : (tkey ∘ partOf) = (fun x : Str => Ky.t [.inr "part", .inr x]) ∘ fun b : Bn => b.name := rfl
    rw [this, ← List.map_map]
    exact List.Pairwise.map _ (fun a b hab e => hab (by injection e with e; injection e with _ e; injection e with e _; injection e)) h
  · rw [List.map_filterMap]
    have e : (fun b : Bn => (roomOf b).map tkey) = fun b => if b.room.isSome then some (Ky.t [.inr "room", .inr b.name]) else none := by
      funext b
      unfold roomOf
      cases b.room <;> rfl
    rw [e]
    have sub : ∀ l : List Bn, (l.map fun b : Bn => b.name).Nodup → (l.filterMap fun b => if b.room.isSome then some (Ky.t [.inr "room", .inr b.name]) else none).Nodup := by
      intro l
      induction l with
      | nil => intro _; exact List.nodup_nil
      | cons b l ih =>
        intro h
        rw [List.map_cons, List.nodup_cons] at h
        rw [List.filterMap_cons]
        split
        · exact ih h.2
        · rename_i y hy
          split at hy
          · cases hy
            refine List.nodup_cons.mpr ⟨fun z => ?_, ih h.2⟩
            obtain ⟨b', hb', e'⟩ := List.mem_filterMap.mp z
            split at e'
            · injection e' with e'
              injection e' with e'
              injection e' with _ e'
              injection e' with e' _
              injection e' with e'
              exact h.1 (e' ▸ List.mem_map.mpr ⟨b', hb', rfl⟩)
            · cases e'
          · cases hy
    exact sub k.bs h
  · intro a ha b hb e
    obtain ⟨x, _, rfl⟩ := List.mem_map.mp ha
    obtain ⟨t, ht, rfl⟩ := List.mem_map.mp hb
    obtain ⟨y, _, hy⟩ := List.mem_filterMap.mp ht
    unfold roomOf at hy
    obtain ⟨r, _, rfl⟩ := Option.map_eq_some_iff.mp hy
    have e : Ky.t [.inr "part", .inr x.name] = Ky.t [.inr "room", .inr y.name] := e
    injection e with e
    injection e with e _
    injection e with e
    exact absurd e (by decide +kernel)
@[simp] theorem key_tie (a b : Str) : W.key? (.tup [.str a, .str b]) = some (.t [.inr a, .inr b]) := rfl
def skey (x : Str) : Ky := .s x
theorem skeys_nodup {l : List Str} (h : l.Nodup) : (l.map skey).Nodup := List.Pairwise.map _ (fun a b hab e => hab (by injection e)) h
def lval (cs c : Str → Int) (x : Str) : W := .int (cs x - c x)
section
variable {k : Wo} (P : Plain k)
include P
theorem held_get (c : Str → Int) {t : Ti} (ht : t ∈ tiesOf k) : ixW (.dct (fD (tiesOf k) tkey (hval c))) (tieW t) = some (hval c t) := by
  show (match W.key? (tieW t) with
    | some k' => if ((fD (tiesOf k) tkey (hval c)).all fun p => p.1.flat == k'.flat) then getK (fD (tiesOf k) tkey (hval c)) k' else none
    | none => none) = _
  have e : W.key? (tieW t) = some (tkey t) := rfl
  rw [e]
  have ha := fD_all (l := tiesOf k) (key := tkey) (v := hval c) (b := false) fun a _ => rfl
  exact (if_pos ha).trans (fD_get (tkeys_nodup P.bnd) ht)
theorem left_get (cs c : Str → Int) {x : Str} (hx : x ∈ k.ms.map fun m : Mac => m.name) : ixW (.dct (fD (k.ms.map fun m : Mac => m.name) skey (lval cs c))) (.str x) = some (lval cs c x) := by
  show (match W.key? (.str x) with
    | some k' => if ((fD (k.ms.map fun m : Mac => m.name) skey (lval cs c)).all fun p => p.1.flat == k'.flat) then getK (fD (k.ms.map fun m : Mac => m.name) skey (lval cs c)) k' else none
    | none => none) = _
  have e : W.key? (.str x) = some (skey x) := rfl
  rw [e]
  have ha := fD_all (l := k.ms.map fun m : Mac => m.name) (key := skey) (v := lval cs c) (b := true) fun a _ => rfl
  exact (if_pos ha).trans (fD_get (skeys_nodup P.nd) hx)
theorem left_set (cs c : Str → Int) {x : Str} (hx : x ∈ k.ms.map fun m : Mac => m.name) (w : W) : setW (.dct (fD (k.ms.map fun m : Mac => m.name) skey (lval cs c))) (.str x) w = some (.dct (fD (k.ms.map fun m : Mac => m.name) skey fun y => if skey y = skey x then w else lval cs c y)) := by
  show (match W.key? (.str x) with
    | some k' => if ((fD (k.ms.map fun m : Mac => m.name) skey (lval cs c)).all fun p => p.1.flat == k'.flat) ∧ (fD (k.ms.map fun m : Mac => m.name) skey (lval cs c)).length < sizeLine then some (W.dct (putK (fD (k.ms.map fun m : Mac => m.name) skey (lval cs c)) k' w)) else none
    | none => none) = _
  have e : W.key? (.str x) = some (skey x) := rfl
  rw [e]
  have ha := fD_all (l := k.ms.map fun m : Mac => m.name) (key := skey) (v := lval cs c) (b := true) fun a _ => rfl
  have hz : (fD (k.ms.map fun m : Mac => m.name) skey (lval cs c)).length < sizeLine := by rw [fD_len, List.length_map, sizeLine_eq]; have := P.mfew; omega
  exact (if_pos ⟨ha, hz⟩).trans (by rw [fD_put hx])
end
section
variable {tab : Nat → Option Fn} {k : Wo} (P : Plain k)
include P
def lackL (k : Wo) (c : Str → Int) (x : Str) : List Ti := (tiesOf k).filter fun t => decide (t.goal = x) && decide (t.count + c t.start - c t.goal = 0)
theorem lacking_ok (h40 : tab 40 = some F40_lacking) (c : Str → Int) (x : Str) (M : List W) (n : Nat) (hn : 1 ≤ n) : callF tab n 40 [.lst ((tiesOf k).map encT), .dct (fD (tiesOf k) tkey (hval c)), .str x] M = .ok (.lst ((lackL k c x).map tieW)) M := by
  obtain ⟨d, rfl⟩ : ∃ d, n = d + 1 := ⟨n - 1, by omega⟩
  have hg : ∀ t ∈ tiesOf k, ixW (.dct (fD (tiesOf k) tkey (hval c))) (tieW t) = some (hval c t) := fun t ht => held_get P c ht
  have e : compL (turnL (callF tab d) (.var 3) (.tp [(.nm 3), (.nm 4), (.nm 5), (.nm 6)]) (.and (.cmp .eq (.var 5) (.var 2)) (.cmp .eq (.ix (.var 1) (.var 3)) (.int 0))) [3, 4, 5, 6] [some (.lst ((tiesOf k).map encT)), some (.dct (fD (tiesOf k) tkey (hval c))), some (.str x), none, none, none, none]) ((tiesOf k).map encT) M = .ok ((lackL k c x).map tieW) M := by
    rw [compL_pure (g := fun t : Ti => if t.goal = x ∧ t.count + c t.start - c t.goal = 0 then some (tieW t) else none) (tiesOf k) fun t ht => ?_]
    · congr 1
      unfold lackL
      induction tiesOf k with
      | nil => rfl
      | cons t ts ih =>
        rw [List.filterMap_cons, List.filter_cons]
        by_cases h : t.goal = x ∧ t.count + c t.start - c t.goal = 0
        · have e2 : (decide (t.goal = x) && decide (t.count + c t.start - c t.goal = 0)) = true := by rw [decide_eq_true h.1, decide_eq_true h.2]; rfl
          rw [if_pos h, if_pos e2, List.map_cons, ih]
        · have e2 : ¬ (decide (t.goal = x) && decide (t.count + c t.start - c t.goal = 0)) = true := by simpa using h
          rw [if_neg h, if_neg e2, ih]
    · have g := hg t ht
      unfold tieW at g ⊢
      generalize fD (tiesOf k) tkey (hval c) = D at g
      by_cases h1 : t.goal = x
      · by_cases h2 : t.count + c t.start - c t.goal = 0
        · simp [turnL, encT, h1, g, hval, -ixW_dct]
          rw [h1] at h2
          simp [h2]
        · simp [turnL, encT, h1, g, hval, -ixW_dct]
          rw [h1] at h2
          simp [h2]
      · simp [turnL, encT, h1]
  rw [call_of h40 _ _ _ rfl]
  generalize fD (tiesOf k) tkey (hval c) = D at e
  generalize (lackL k c x).map tieW = L at e
  simp [F40_lacking, e, -List.map_map]
theorem lack_isEmpty (c : Str → Int) (x : Str) : (lackL k c x).isEmpty = enabB k c x := by
  unfold lackL enabB
  induction tiesOf k with
  | nil => rfl
  | cons t ts ih =>
    rw [List.filter_cons, List.all_cons]
    by_cases h : (decide (t.goal = x) && decide (t.count + c t.start - c t.goal = 0)) = true
    · rw [if_pos h, h]; rfl
    · have h' : (decide (t.goal = x) && decide (t.count + c t.start - c t.goal = 0)) = false := by simpa using h
      rw [if_neg h, h', ih]; rfl
end
end K02
end Mi
end ShG_

section ShH_
set_option linter.all false
set_option Elab.async false
set_option maxRecDepth 100000
/-! ShH: row_for. -/
namespace Mi
open PySem L2
namespace K02
abbrev Wo.nm (k : Wo) : List Str := k.ms.map fun m : Mac => m.name
section
variable {tab : Nat → Option Fn} {k : Wo} (P : Plain k)
include P
/-- the held parts while one going is booked -/
def mixV (c c' : Str → Int) (p : List Ti) (t : Ti) : W := if tkey t ∈ p.map tkey then hval c' t else hval c t
theorem mix_get (c c' : Str → Int) (p : List Ti) {t : Ti} (ht : t ∈ tiesOf k) : ixW (.dct (fD (tiesOf k) tkey (mixV c c' p))) (tieW t) = some (mixV c c' p t) := by
  show (match W.key? (tieW t) with
    | some k' => if ((fD (tiesOf k) tkey (mixV c c' p)).all fun p => p.1.flat == k'.flat) then getK (fD (tiesOf k) tkey (mixV c c' p)) k' else none
    | none => none) = _
  have e : W.key? (tieW t) = some (tkey t) := rfl
  rw [e]
  have ha := fD_all (l := tiesOf k) (key := tkey) (v := mixV c c' p) (b := false) fun a _ => rfl
  exact (if_pos ha).trans (fD_get (tkeys_nodup P.bnd) ht)
theorem mix_set (c c' : Str → Int) (p : List Ti) {t : Ti} (ht : t ∈ tiesOf k) : setW (.dct (fD (tiesOf k) tkey (mixV c c' p))) (tieW t) (hval c' t) = some (.dct (fD (tiesOf k) tkey (mixV c c' (p ++ [t])))) := by
  show (match W.key? (tieW t) with
    | some k' => if ((fD (tiesOf k) tkey (mixV c c' p)).all fun p => p.1.flat == k'.flat) ∧ (fD (tiesOf k) tkey (mixV c c' p)).length < sizeLine then some (W.dct (putK (fD (tiesOf k) tkey (mixV c c' p)) k' (hval c' t))) else none
    | none => none) = _
  have e : W.key? (tieW t) = some (tkey t) := rfl
  rw [e]
  have ha := fD_all (l := tiesOf k) (key := tkey) (v := mixV c c' p) (b := false) fun a _ => rfl
  have hz : (fD (tiesOf k) tkey (mixV c c' p)).length < sizeLine := by
    rw [fD_len, sizeLine_eq]
    have := ties_len k
    have := P.few
    omega
  refine (if_pos ⟨ha, hz⟩).trans ?_
  rw [fD_put ht]
  congr 2
  unfold fD
  refine List.map_congr_left fun b hb => ?_
  congr 1
  unfold mixV
  rw [List.map_append, List.map_cons, List.map_nil]
  by_cases q : tkey b = tkey t
  · have : b = t := by
      have nd := tkeys_nodup P.bnd
      obtain ⟨i, hi, ei⟩ := List.mem_iff_getElem.mp hb
      obtain ⟨j, hj, ej⟩ := List.mem_iff_getElem.mp ht
      have : i = j := (List.getElem_inj nd (i := i) (j := j) (h₀ := by simpa using hi) (h₁ := by simpa using hj)).mp (by simp [ei, ej, q])
      subst this
      rw [← ei, ← ej]
    subst this
    simp
  · by_cases q2 : tkey b ∈ p.map tkey
    · simp [q, q2]
    · have : tkey b ∉ p.map tkey ++ [tkey t] := fun z => (List.mem_append.mp z).elim q2 fun z => q (List.mem_singleton.mp z)
      show (if tkey b = tkey t then hval c' t else if tkey b ∈ p.map tkey then hval c' b else hval c b) = _
      rw [if_neg q, if_neg q2, if_neg this]
abbrev inB : List S := [.augx 7 .add (.var 8) (.bin .sub (.ite (.cmp .eq (.var 11) (.ix (.var 10) (.int 0))) (.int 1) (.int 0)) (.ite (.cmp .eq (.var 12) (.ix (.var 10) (.int 0))) (.int 1) (.int 0))),
      .wipe [8, 11, 12, 13]]
theorem in_loop (cl : Nat → List W → List W → R W) (x : Str) (xs : List W) (w0 w1 w2 w3 w4 w9 : Option W) (row : List Str) (M : List W) : ∀ (q p : List Ti), tiesOf k = p ++ q →
    forL (bodyF cl (.tp [(.nm 8), (.nm 11), (.nm 12), (.nm 13)]) inB) (q.map encT) [w0, w1, w2, w3, w4, none, none, some (.dct (fD (tiesOf k) tkey (mixV (cnt row) (cnt (row ++ [x])) p))), none, w9, some (.lst (.str x :: xs)), none, none, none] M = .ok (.nx, [w0, w1, w2, w3, w4, none, none, some (.dct (fD (tiesOf k) tkey (mixV (cnt row) (cnt (row ++ [x])) (p ++ q)))), none, w9, some (.lst (.str x :: xs)), none, none, none]) M
  | [], p, e => by rw [List.append_nil]; rfl
  | t :: q, p, e => by
    have ht : t ∈ tiesOf k := by rw [e]; simp
    have g := mix_get P (cnt row) (cnt (row ++ [x])) p ht
    have s := mix_set P (cnt row) (cnt (row ++ [x])) p ht
    have hp : tkey t ∉ p.map tkey := fun z => by
      have nd := tkeys_nodup P.bnd
      rw [e, List.map_append, List.map_cons] at nd
      exact (List.nodup_append.mp nd).2.2 _ z _ List.mem_cons_self rfl
    have hv : mixV (cnt row) (cnt (row ++ [x])) p t = hval (cnt row) t := if_neg hp
    rw [hv] at g
    rw [List.map_cons]
    have hd : hval (cnt (row ++ [x])) t = .int (t.count + cnt row t.start - cnt row t.goal + ((if t.start = x then 1 else 0) - (if t.goal = x then 1 else 0))) := by
      unfold hval
      rw [cnt_snoc, cnt_snoc]
      congr 1
      have e1 : (if x = t.start then (1 : Int) else 0) = if t.start = x then 1 else 0 := by
        by_cases h : t.start = x
        · rw [if_pos h, if_pos h.symm]
        · rw [if_neg h, if_neg (Ne.symm h)]
      have e2 : (if x = t.goal then (1 : Int) else 0) = if t.goal = x then 1 else 0 := by
        by_cases h : t.goal = x
        · rw [if_pos h, if_pos h.symm]
        · rw [if_neg h, if_neg (Ne.symm h)]
      rw [e1, e2]; omega
    have st : bodyF cl (.tp [(.nm 8), (.nm 11), (.nm 12), (.nm 13)]) inB (encT t) [w0, w1, w2, w3, w4, none, none, some (.dct (fD (tiesOf k) tkey (mixV (cnt row) (cnt (row ++ [x])) p))), none, w9, some (.lst (.str x :: xs)), none, none, none] M = .ok (.nx, [w0, w1, w2, w3, w4, none, none, some (.dct (fD (tiesOf k) tkey (mixV (cnt row) (cnt (row ++ [x])) (p ++ [t])))), none, w9, some (.lst (.str x :: xs)), none, none, none]) M := by
      rw [hd] at s
      unfold tieW at g s
      generalize fD (tiesOf k) tkey (mixV (cnt row) (cnt (row ++ [x])) p) = D at g s
      generalize fD (tiesOf k) tkey (mixV (cnt row) (cnt (row ++ [x])) (p ++ [t])) = D2 at s
      unfold hval at g
      by_cases h1 : t.start = x <;> by_cases h2 : t.goal = x <;> simp [h1, h2, -ixW_dct, -setW_dct] at s g <;> simp [bodyF, encT, W.box, g, s, h1, h2, -ixW_dct, -setW_dct]
    rw [forL_nx st]
    have := in_loop cl x xs w0 w1 w2 w3 w4 w9 row M q (p ++ [t]) (by rw [e]; simp)
    rw [List.append_assoc] at this
    exact this
end
end K02
end Mi
end ShH_

section ShI_
set_option linter.all false
set_option Elab.async false
set_option maxRecDepth 100000
/-! ShI: row_for is the greedy row. -/
namespace Mi
open PySem L2
namespace K02
theorem sum_zero {l : List Str} {f : Str → Int} (h : ∀ x ∈ l, 0 ≤ f x) (hs : (l.map f).sum = 0) : ∀ x ∈ l, f x = 0 := by
  induction l with
  | nil => intro x hx; cases hx
  | cons a l ih =>
    rw [List.map_cons, List.sum_cons] at hs
    have h1 := h a List.mem_cons_self
    have h2 : 0 ≤ (l.map f).sum := by
      clear ih hs
      induction l with
      | nil => simp
      | cons b l ih =>
        rw [List.map_cons, List.sum_cons]
        have := h b (List.mem_cons_of_mem _ List.mem_cons_self)
        have := ih fun x hx => h x (by rcases List.mem_cons.mp hx with rfl | hx
                                       · exact List.mem_cons_self
                                       · exact List.mem_cons_of_mem _ (List.mem_cons_of_mem _ hx))
        omega
    intro x hx
    rcases List.mem_cons.mp hx with rfl | hx
    · omega
    · exact ih (fun y hy => h y (List.mem_cons_of_mem _ hy)) (by omega) x hx
theorem sum_pos {l : List Str} {f : Str → Int} (hs : 0 < (l.map f).sum) : ∃ x ∈ l, 0 < f x := by
  induction l with
  | nil => simp at hs
  | cons a l ih =>
    by_cases h : 0 < f a
    · exact ⟨a, List.mem_cons_self, h⟩
    · rw [List.map_cons, List.sum_cons] at hs
      obtain ⟨x, hx, h2⟩ := ih (by omega)
      exact ⟨x, List.mem_cons_of_mem _ hx, h2⟩
theorem sum_step {l : List Str} {f g : Str → Int} {x : Str} (nd : l.Nodup) (hx : x ∈ l) (h1 : g x = f x - 1) (h2 : ∀ y, y ≠ x → g y = f y) : (l.map g).sum = (l.map f).sum - 1 := by
  have same : ∀ l : List Str, x ∉ l → (l.map g).sum = (l.map f).sum := fun l h => by
    congr 1
    exact List.map_congr_left fun y hy => h2 y fun z => h (z ▸ hy)
  induction l with
  | nil => cases hx
  | cons a l ih =>
    rw [List.nodup_cons] at nd
    rw [List.map_cons, List.sum_cons, List.map_cons, List.sum_cons]
    rcases List.mem_cons.mp hx with rfl | hx
    · rw [h1, same l nd.1]; omega
    · have : a ≠ x := fun z => nd.1 (z ▸ hx)
      rw [h2 a this, ih nd.2 hx]; omega
theorem rest_step {k : Wo} (nd : (k.ms.map fun m : Mac => m.name).Nodup) (cs : Str → Int) (row : List Str) {x : Str} (hx : x ∈ k.ms.map fun m : Mac => m.name) : rest k cs (row ++ [x]) = rest k cs row - 1 := by
  unfold rest
  refine sum_step nd hx ?_ fun y hy => ?_
  · rw [cnt_snoc, if_pos rfl]; omega
  · rw [cnt_snoc, if_neg (Ne.symm hy), Int.add_zero]
abbrev rho (w0 w1 : Option W) (k : Wo) (cs : Str → Int) (row : List Str) : Env := [w0, w1, some (.lst ((k.ms.map fun m : Mac => m.name).map .str)), some (.lst ((tiesOf k).map encT)), some (.dct (fD (k.ms.map fun m : Mac => m.name) skey (lval cs (cnt row)))), none, none, some (.dct (fD (tiesOf k) tkey (hval (cnt row)))), none, some (.lst (row.map .str)), none, none, none, none]
abbrev rfT : T := .v (.bi .any [(.lc (.cmp .gt (.ix (.var 4) (.var 6)) (.int 0)) (.nm 6) (.v (.var 2)) .yes [6])])
abbrev rfB : List S := [.set 10 .pl (.lc (.var 6) (.nm 6) (.v (.var 2)) (.and (.cmp .gt (.ix (.var 4) (.var 6)) (.int 0)) (.not (.v (.call 40 [(.var 3), (.var 7), (.var 6)])))) [6]),
    .ifs (.not (.v (.var 10))) [.ret .non] [],
    .augx 4 .sub (.ix (.var 10) (.int 0)) (.int 1),
    .app 9 (.ix (.var 10) (.int 0)),
    .forr (.tp [(.nm 8), (.nm 11), (.nm 12), (.nm 13)]) (.v (.var 3)) inB [.pl, .pl, .pl, .pl, (.ow 1), .pl, .pl, (.ow 1), .pl, (.ow 1), .pl, .pl, .pl, .pl],
    .wipe [8, 10, 11, 12, 13]]
section
variable {tab : Nat → Option Fn} {k : Wo} (P : Plain k)
include P
theorem rf_test (cl : Nat → List W → List W → R W) (w0 w1 : Option W) (cs : Str → Int) (row : List Str) (M : List W) : evT cl rfT (rho w0 w1 k cs row) M = .ok ((k.ms.map fun m : Mac => m.name).any fun x => decide (0 < cs x - cnt row x)) M := by
  have e : compL (turnL cl (.cmp .gt (.ix (.var 4) (.var 6)) (.int 0)) (.nm 6) .yes [6] (rho w0 w1 k cs row)) ((k.ms.map fun m : Mac => m.name).map .str) M = .ok (((k.ms.map fun m : Mac => m.name).map fun x => decide (0 < cs x - cnt row x)).map .bl) M := by
    rw [compL_pure (g := fun x => some (.bl (decide (0 < cs x - cnt row x)))) (k.ms.map fun m : Mac => m.name) fun x hx => ?_]
    · rw [List.filterMap_eq_map']
      congr 1
      generalize (k.ms.map fun m : Mac => m.name) = l
      rw [List.map_map]; rfl
    · have g := left_get P cs (cnt row) hx
      simp only [rho]
      generalize fD (k.ms.map fun m : Mac => m.name) skey (lval cs (cnt row)) = D at g
      unfold lval at g
      simp [turnL, g, -ixW_dct, -List.map_map]
  have z : (((k.ms.map fun m : Mac => m.name).map fun x => decide (0 < cs x - cnt row x)).any id) = (k.ms.map fun m : Mac => m.name).any fun x => decide (0 < cs x - cnt row x) := by rw [List.any_map]; rfl
  rw [← z]
  generalize ((k.ms.map fun m : Mac => m.name).map fun x => decide (0 < cs x - cnt row x)) = bs at e
  simp only [rho] at e ⊢
  generalize (k.ms.map fun m : Mac => m.name).map W.str = ns at e
  generalize fD (k.ms.map fun m : Mac => m.name) skey (lval cs (cnt row)) = D at e
  simp [e, -List.any_eq_true]
theorem rf_ready (h40 : tab 40 = some F40_lacking) (d : Nat) (hd : 1 ≤ d) (w0 w1 : Option W) (cs : Str → Int) (row : List Str) (M : List W) : compL (turnL (callF tab d) (.var 6) (.nm 6) (.and (.cmp .gt (.ix (.var 4) (.var 6)) (.int 0)) (.not (.v (.call 40 [(.var 3), (.var 7), (.var 6)])))) [6] (rho w0 w1 k cs row)) ((k.ms.map fun m : Mac => m.name).map .str) M = .ok ((goList k cs (cnt row)).map .str) M := by
  rw [compL_pure (g := fun x => if 0 < cs x - cnt row x ∧ enabB k (cnt row) x = true then some (.str x) else none) (k.ms.map fun m : Mac => m.name) fun x hx => ?_]
  · congr 1
    unfold goList
    show List.filterMap _ (k.ms.map fun m : Mac => m.name) = _
    induction (k.ms.map fun m : Mac => m.name) with
    | nil => rfl
    | cons y l ih =>
      rw [List.filterMap_cons, List.filter_cons]
      by_cases h : 0 < cs y - cnt row y ∧ enabB k (cnt row) y = true
      · have e2 : (decide (0 < cs y - cnt row y) && enabB k (cnt row) y) = true := by rw [decide_eq_true h.1, h.2]; rfl
        rw [if_pos h, if_pos e2, List.map_cons, ih]
      · have e2 : ¬ (decide (0 < cs y - cnt row y) && enabB k (cnt row) y) = true := by simpa using h
        rw [if_neg h, if_neg e2, ih]
  · have g := left_get P cs (cnt row) hx
    have l := lacking_ok P h40 (cnt row) x M d hd
    have le := lack_isEmpty P (cnt row) x
    have te : truW (.lst ((lackL k (cnt row) x).map tieW)) = some (!(lackL k (cnt row) x).isEmpty) := by
      rw [truW_lst]
      congr 2
      cases lackL k (cnt row) x <;> rfl
    rw [le] at te
    simp only [rho]
    generalize fD (k.ms.map fun m : Mac => m.name) skey (lval cs (cnt row)) = D at g
    generalize fD (tiesOf k) tkey (hval (cnt row)) = D2 at l
    generalize (lackL k (cnt row) x).map tieW = L at l te
    unfold lval at g
    by_cases h1 : 0 < cs x - cnt row x
    · have h1' : cnt row x < cs x := by omega
      cases h2 : enabB k (cnt row) x with
      | true =>
        rw [h2] at te
        simp [turnL, g, l, te, h1, h1', -ixW_dct, -truW_lst, -List.map_map]
      | false =>
        rw [h2] at te
        simp [turnL, g, l, te, h1, h1', -ixW_dct, -truW_lst, -List.map_map]
    · have h1' : ¬ cnt row x < cs x := by omega
      simp [turnL, g, h1, h1', -ixW_dct, -List.map_map]
end
end K02
end Mi
end ShI_

section ShJ_
set_option linter.all false
set_option Elab.async false
set_option maxRecDepth 100000
/-! ShJ: row_for is the greedy row; what the greedy row is. -/
namespace Mi
open PySem L2
namespace K02
section
variable {tab : Nat → Option Fn} {k : Wo} (P : Plain k)
include P
theorem rest_zero {cs : Str → Int} {row : List Str} (h : ∀ x ∈ k.ms.map fun m : Mac => m.name, cnt row x ≤ cs x) (h0 : rest k cs row = 0) : ((k.ms.map fun m : Mac => m.name).any fun x => decide (0 < cs x - cnt row x)) = false := by
  have := sum_zero (fun x hx => by have := h x hx; omega) h0
  rw [List.any_eq_false]
  intro x hx
  have := this x hx
  simpa using (show ¬ 0 < cs x - cnt row x by omega)
theorem rest_pos {cs : Str → Int} {row : List Str} (h0 : 0 < rest k cs row) : ((k.ms.map fun m : Mac => m.name).any fun x => decide (0 < cs x - cnt row x)) = true := by
  obtain ⟨x, hx, h⟩ := sum_pos h0
  exact List.any_eq_true.mpr ⟨x, hx, decide_eq_true h⟩
/-- one turn -/
theorem rf_turn (h40 : tab 40 = some F40_lacking) (d : Nat) (hd : 1 ≤ d) (w0 w1 : Option W) (cs : Str → Int) (row : List Str) (hl : row.length < 16777216) (M : List W) {x : Str} {r : List Str} (hg : goList k cs (cnt row) = x :: r) :
    execs (callF tab d) rfB (rho w0 w1 k cs row) M = .ok (.nx, rho w0 w1 k cs (row ++ [x])) M := by
  have hx : x ∈ k.ms.map fun m : Mac => m.name := by
    have : x ∈ goList k cs (cnt row) := by rw [hg]; exact List.mem_cons_self
    exact (List.mem_filter.mp this).1
  have e1 := rf_ready P h40 d hd w0 w1 cs row M
  rw [hg, List.map_cons] at e1
  have g := left_get P cs (cnt row) hx
  have s := left_set P cs (cnt row) hx (.int (cs x - cnt row x - 1))
  have el : (fD (k.ms.map fun m : Mac => m.name) skey fun y => if skey y = skey x then W.int (cs x - cnt row x - 1) else lval cs (cnt row) y) = fD (k.ms.map fun m : Mac => m.name) skey (lval cs (cnt (row ++ [x]))) := by
    unfold fD
    refine List.map_congr_left fun y _ => ?_
    congr 1
    show (if skey y = skey x then W.int (cs x - cnt row x - 1) else W.int (cs y - cnt row y)) = W.int (cs y - cnt (row ++ [x]) y)
    rw [cnt_snoc]
    by_cases h : y = x
    · subst h
      rw [if_pos rfl, if_pos rfl]
      congr 1; omega
    · have hk : ¬ skey y = skey x := fun z => h (by unfold skey at z; injection z)
      rw [if_neg hk, if_neg (Ne.symm h), Int.add_zero]
  rw [el] at s
  have lp := in_loop P (callF tab d) x (r.map W.str) w0 w1 (some (.lst ((k.ms.map fun m : Mac => m.name).map .str))) (some (.lst ((tiesOf k).map encT))) (some (.dct (fD (k.ms.map fun m : Mac => m.name) skey (lval cs (cnt (row ++ [x])))))) (some (.lst ((row ++ [x]).map .str))) row M (tiesOf k) [] rfl
  have m0 : fD (tiesOf k) tkey (mixV (cnt row) (cnt (row ++ [x])) []) = fD (tiesOf k) tkey (hval (cnt row)) := rfl
  have m1 : fD (tiesOf k) tkey (mixV (cnt row) (cnt (row ++ [x])) ([] ++ tiesOf k)) = fD (tiesOf k) tkey (hval (cnt (row ++ [x]))) := by
    unfold fD
    refine List.map_congr_left fun t ht => ?_
    congr 1
    unfold mixV
    rw [List.nil_append, if_pos (List.mem_map.mpr ⟨t, ht, rfl⟩)]
  rw [m0, m1] at lp
  have em : (row ++ [x]).map W.str = row.map W.str ++ [.str x] := by simp
  rw [em] at lp
  simp only [rho] at e1 ⊢
  rw [em]
  generalize fD (k.ms.map fun m : Mac => m.name) skey (lval cs (cnt (row ++ [x]))) = L2 at s lp
  generalize fD (k.ms.map fun m : Mac => m.name) skey (lval cs (cnt row)) = L1 at g s e1
  generalize fD (tiesOf k) tkey (hval (cnt row)) = D1 at e1 lp
  generalize fD (tiesOf k) tkey (hval (cnt (row ++ [x]))) = D2 at lp
  generalize (k.ms.map fun m : Mac => m.name).map W.str = ns at e1 lp
  generalize (tiesOf k).map encT = ts at e1 lp
  unfold lval at g
  have hz : (row.map W.str).length < 16777216 := by rw [List.length_map]; exact hl
  generalize row.map W.str = rw' at e1 lp hz
  have au : augW .sub (.int (cs x - cnt row x)) (.int 1) = some (.int (cs x - cnt row x - 1)) := rfl
  generalize r.map W.str = r' at e1 lp
  have ef : exec (callF tab d) (.forr (.tp [(.nm 8), (.nm 11), (.nm 12), (.nm 13)]) (.v (.var 3)) inB [.pl, .pl, .pl, .pl, (.ow 1), .pl, .pl, (.ow 1), .pl, (.ow 1), .pl, .pl, .pl, .pl]) [w0, w1, some (.lst ns), some (.lst ts), some (.dct L2), none, none, some (.dct D1), none, some (.lst (rw' ++ [.str x])), some (.lst (.str x :: r')), none, none, none] M = .ok (.nx, [w0, w1, some (.lst ns), some (.lst ts), some (.dct L2), none, none, some (.dct D2), none, some (.lst (rw' ++ [.str x])), some (.lst (.str x :: r')), none, none, none]) M := by
    rw [ex_for]
    simp only [evI_v, ev_var, List.getElem?_cons_succ, List.getElem?_cons_zero, R.bind_ok, items_lst, R.of_some]
    exact lp
  simp only [exs_cons, ex_set, ev_lc', evI_v, ev_var, List.getElem?_cons_succ, List.getElem?_cons_zero, R.bind_ok, items_lst, R.of_some, e1]
  simp [W.box, g, au, s, hz, sizeLine_eq, ef, -ixW_dct, -setW_dct, -ex_for]
/-- the loop -/
theorem rf_loop (h40 : tab 40 = some F40_lacking) (d : Nat) (hd : 1 ≤ d) (w0 w1 : Option W) (cs : Str → Int) (M : List W) : ∀ (m : Nat) (row : List Str), rest k cs row = m → (∀ x ∈ k.ms.map fun m : Mac => m.name, cnt row x ≤ cs x) → row.length + m ≤ 2000 →
    match greedy k cs m row with
    | some r => whileL (evT (callF tab d) rfT) (fun ρ M => execs (callF tab d) rfB ρ M) (rho w0 w1 k cs row) M = .ok (.nx, rho w0 w1 k cs r) M
    | none => ∃ ρ', whileL (evT (callF tab d) rfT) (fun ρ M => execs (callF tab d) rfB ρ M) (rho w0 w1 k cs row) M = .ok (.rt .non, ρ') M
  | 0, row, h0, hc, hl => by
    unfold greedy
    have t := rf_test P (callF tab d) w0 w1 cs row M
    rw [rest_zero P hc h0] at t
    exact while_stop t
  | m + 1, row, h0, hc, hl => by
    have t := rf_test P (callF tab d) w0 w1 cs row M
    rw [rest_pos P (by rw [h0]; omega)] at t
    unfold greedy
    cases hg : goList k cs (cnt row) with
    | nil =>
      have e1 := rf_ready P h40 d hd w0 w1 cs row M
      rw [hg, List.map_nil] at e1
      have st : ∃ ρ', execs (callF tab d) rfB (rho w0 w1 k cs row) M = .ok (.rt .non, ρ') M := by
        simp only [rho] at e1 ⊢
        generalize (k.ms.map fun m : Mac => m.name).map W.str = ns at e1
        refine ⟨[w0, w1, some (.lst ns), some (.lst ((tiesOf k).map encT)), some (.dct (fD (k.ms.map fun m : Mac => m.name) skey (lval cs (cnt row)))), none, none, some (.dct (fD (tiesOf k) tkey (hval (cnt row)))), none, some (.lst (row.map .str)), some (.lst []), none, none, none], ?_⟩
        simp only [exs_cons, ex_set, ev_lc', evI_v, ev_var, List.getElem?_cons_succ, List.getElem?_cons_zero, R.bind_ok, items_lst, R.of_some, e1]
        simp
      obtain ⟨ρ', st⟩ := st
      exact ⟨ρ', while_rt t st⟩
    | cons x r =>
      have hx' : x ∈ goList k cs (cnt row) := by rw [hg]; exact List.mem_cons_self
      obtain ⟨hx, hx2⟩ := List.mem_filter.mp hx'
      simp only [Bool.and_eq_true, decide_eq_true_eq] at hx2
      have st := rf_turn P h40 d hd w0 w1 cs row (by omega) M hg
      have hs := rest_step P.nd cs row hx
      have ih := rf_loop h40 d hd w0 w1 cs M m (row ++ [x]) (by rw [hs, h0]; omega) (fun y hy => by
        rw [cnt_snoc]
        by_cases h : x = y
        · subst h; rw [if_pos rfl]; omega
        · rw [if_neg h, Int.add_zero]; exact hc y hy) (by rw [List.length_append, List.length_singleton]; omega)
      simp only
      cases hgr : greedy k cs m (row ++ [x]) with
      | none =>
        rw [hgr] at ih
        obtain ⟨ρ', e⟩ := ih
        exact ⟨ρ', by rw [while_nx t st]; exact e⟩
      | some r' =>
        rw [hgr] at ih
        show whileL _ _ _ _ = _
        rw [while_nx t st]; exact ih
end
end K02
end Mi
end ShJ_

section ShK_
set_option linter.all false
set_option Elab.async false
set_option maxRecDepth 100000
/-! ShK: row_for called; the greedy row can be done, and is found where any is. -/
namespace Mi
open PySem L2
namespace K02
/-- parts are never less than none -/
theorem tok_nn {k : Wo} (hn : ∀ t ∈ tiesOf k, 0 ≤ t.count) : ∀ {row : List Str}, Runs k row → ∀ t ∈ tiesOf k, 0 ≤ t.count + cnt row t.start - cnt row t.goal := by
  have gen : ∀ (n : Nat) (row : List Str), row.length = n → Runs k row → ∀ t ∈ tiesOf k, 0 ≤ t.count + cnt row t.start - cnt row t.goal := by
    intro n
    induction n with
    | zero =>
      intro row hl _ t ht
      have : row = [] := List.length_eq_zero_iff.mp hl
      subst this
      have := hn t ht
      rw [cnt_nil, cnt_nil]; omega
    | succ n ih =>
      intro row hl hr t ht
      obtain ⟨p, x, rfl⟩ : ∃ p x, row = p ++ [x] := ⟨row.dropLast, row.getLast (by intro q; rw [q] at hl; cases hl), (List.dropLast_concat_getLast _).symm⟩
      have hp := ih p (by simpa using hl) hr.pre t ht
      have he := (hr p x [] rfl).2 t ht
      rw [cnt_snoc, cnt_snoc]
      by_cases h : x = t.goal
      · have := he h.symm
        rw [if_pos h]
        split <;> omega
      · rw [if_neg h]
        split <;> omega
  intro row hr
  exact gen _ row rfl hr
theorem enabB_iff {k : Wo} (hn : ∀ t ∈ tiesOf k, 0 ≤ t.count) {row : List Str} (hr : Runs k row) (x : Str) : enabB k (cnt row) x = true ↔ enab k (cnt row) x := by
  unfold enabB
  rw [List.all_eq_true]
  constructor
  · intro h t ht e
    have h1 := tok_nn hn hr t ht
    have h2 := h t ht
    rw [decide_eq_true e, Bool.true_and, Bool.not_eq_true', decide_eq_false_iff_not] at h2
    omega
  · intro h t ht
    by_cases e : t.goal = x
    · have := h t ht e
      rw [decide_eq_true e, Bool.true_and, Bool.not_eq_true', decide_eq_false_iff_not]
      omega
    · rw [decide_eq_false e, Bool.false_and]; rfl
theorem greedy_run {k : Wo} (P : Plain k) {cs : Str → Int} : ∀ (m : Nat) (row r : List Str), rest k cs row = m → (∀ x ∈ k.ms.map fun m : Mac => m.name, cnt row x ≤ cs x) → Runs k row → greedy k cs m row = some r → Runs k r ∧ ∀ x ∈ k.ms.map fun m : Mac => m.name, cnt r x = cs x
  | 0, row, r, h0, hc, hr, e => by
    unfold greedy at e
    cases e
    refine ⟨hr, fun x hx => ?_⟩
    have := sum_zero (fun x hx => by have := hc x hx; omega) h0 x hx
    omega
  | m + 1, row, r, h0, hc, hr, e => by
    unfold greedy at e
    cases hg : goList k cs (cnt row) with
    | nil => rw [hg] at e; cases e
    | cons x l =>
      rw [hg] at e
      have hx' : x ∈ goList k cs (cnt row) := by rw [hg]; exact List.mem_cons_self
      obtain ⟨hx, hx2⟩ := List.mem_filter.mp hx'
      simp only [Bool.and_eq_true, decide_eq_true_eq] at hx2
      exact greedy_run P m (row ++ [x]) r (by rw [rest_step P.nd cs row hx, h0]; omega) (fun y hy => by
        rw [cnt_snoc]
        by_cases h : x = y
        · subst h; rw [if_pos rfl]; omega
        · rw [if_neg h, Int.add_zero]; exact hc y hy) (hr.snoc hx ((enabB_iff P.nn hr x).mp hx2.2)) e
/-- something that lacks can go, as long as something lacks -/
def Live (k : Wo) (cs : Str → Int) : Prop := ∀ row, Runs k row → (∀ x ∈ k.ms.map fun m : Mac => m.name, cnt row x ≤ cs x) → (∃ x ∈ k.ms.map fun m : Mac => m.name, cnt row x < cs x) → ∃ x ∈ k.ms.map fun m : Mac => m.name, cnt row x < cs x ∧ enab k (cnt row) x
theorem greedy_live {k : Wo} (P : Plain k) {cs : Str → Int} (L : Live k cs) : ∀ (m : Nat) (row : List Str), rest k cs row = m → (∀ x ∈ k.ms.map fun m : Mac => m.name, cnt row x ≤ cs x) → Runs k row → greedy k cs m row ≠ none
  | 0, row, h0, hc, hr => by unfold greedy; simp
  | m + 1, row, h0, hc, hr => by
    unfold greedy
    obtain ⟨y, hy, hy2⟩ := sum_pos (show 0 < ((k.ms.map fun m : Mac => m.name).map fun x => cs x - cnt row x).sum by show 0 < rest k cs row; rw [h0]; omega)
    obtain ⟨x0, hx0, hx1, hx2⟩ := L row hr hc ⟨y, hy, by omega⟩
    have hin : x0 ∈ goList k cs (cnt row) := List.mem_filter.mpr ⟨hx0, by rw [(enabB_iff P.nn hr x0).mpr hx2, Bool.and_true, decide_eq_true_eq]; omega⟩
    cases hg : goList k cs (cnt row) with
    | nil => rw [hg] at hin; cases hin
    | cons x l =>
      have hx' : x ∈ goList k cs (cnt row) := by rw [hg]; exact List.mem_cons_self
      obtain ⟨hx, hx3⟩ := List.mem_filter.mp hx'
      simp only [Bool.and_eq_true, decide_eq_true_eq] at hx3
      exact greedy_live P L m (row ++ [x]) (by rw [rest_step P.nd cs row hx, h0]; omega) (fun y hy => by
        rw [cnt_snoc]
        by_cases h : x = y
        · subst h; rw [if_pos rfl]; omega
        · rw [if_neg h, Int.add_zero]; exact hc y hy) (hr.snoc hx ((enabB_iff P.nn hr x).mp hx3.2))
/-- the answer of row_for -/
def rowFor (k : Wo) (cs : Str → Int) : Option (List Str) := greedy k cs ((k.ms.map fun m : Mac => m.name).map cs).sum.toNat []
def rowW : Option (List Str) → W
  | some r => .tup (r.map .str)
  | none => .non
section
variable {tab : Nat → Option Fn} {k : Wo} (P : Plain k)
include P
theorem sum_nn {l : List Str} {f : Str → Int} (h : ∀ x ∈ l, 0 ≤ f x) : 0 ≤ (l.map f).sum := by
  clear P
  induction l with
  | nil => simp
  | cons a l ih =>
    rw [List.map_cons, List.sum_cons]
    have := h a List.mem_cons_self
    have := ih fun x hx => h x (List.mem_cons_of_mem _ hx)
    omega
theorem row_for_ok (h26 : tab 26 = some F26_names_of) (h27 : tab 27 = some F27_ties_of) (h39 : tab 39 = some F39_row_for) (h40 : tab 40 = some F40_lacking) (cs : Str → Int) (h0 : ∀ x ∈ k.ms.map fun m : Mac => m.name, 0 ≤ cs x) (hs : ((k.ms.map fun m : Mac => m.name).map cs).sum ≤ 2000) (M : List W) (n : Nat) (hn : 3 ≤ n) :
    callF tab n 39 [encK k, .tup (k.ms.map fun m => W.int (cs m.name))] M = .ok (rowW (rowFor k cs)) M := by
  obtain ⟨d, rfl⟩ : ∃ d, n = d + 1 := ⟨n - 1, by omega⟩
  rw [call_of h39 _ _ _ rfl]
  have hnn := sum_nn P h0
  have e1 := names_of_ok h26 k M d (by omega)
  have e2 := ties_of_ok h27 k P.few M d (by omega)
  have es : (k.ms.map fun m => W.int (cs m.name)) = ((k.ms.map fun m : Mac => m.name).map cs).map W.int := by rw [List.map_map, List.map_map]; rfl
  -- the two dicts
  have d1 : compD (turnD (callF tab d) (.var 6) (.ix (.var 1) (.var 5)) (.tp [(.nm 5), (.nm 6)]) .yes [5, 6] [some (encK k), some (.tup (k.ms.map fun m => W.int (cs m.name))), some (.lst ((k.ms.map fun m : Mac => m.name).map .str)), some (.lst ((tiesOf k).map encT)), none, none, none, none, none, none, none, none, none, none]) (enumL 0 ((k.ms.map fun m : Mac => m.name).map .str)) [] M = .ok (fD (k.ms.map fun m : Mac => m.name) skey (lval cs (cnt []))) M := by
    rw [enumL_map]
    have nm : ((List.range (k.ms.map fun m : Mac => m.name).length).zip (k.ms.map fun m : Mac => m.name)).map (fun p => p.2) = k.ms.map fun m : Mac => m.name := by
      rw [List.map_snd_zip]; simp
    have := compD_fD (f := turnD (callF tab d) (.var 6) (.ix (.var 1) (.var 5)) (.tp [(.nm 5), (.nm 6)]) .yes [5, 6] [some (encK k), some (.tup (k.ms.map fun m => W.int (cs m.name))), some (.lst ((k.ms.map fun m : Mac => m.name).map .str)), some (.lst ((tiesOf k).map encT)), none, none, none, none, none, none, none, none, none, none]) (M := M) (e := fun p : Nat × Str => W.tup [.int (p.1 : Nat), .str p.2]) (l := (List.range (k.ms.map fun m : Mac => m.name).length).zip (k.ms.map fun m : Mac => m.name)) (g := fun p => p.2) (key := skey) (v := lval cs (cnt [])) (b := true) (fun p hp => by
      obtain ⟨i, x⟩ := p
      obtain ⟨j, hj, ej⟩ := List.mem_iff_getElem.mp hp
      have hj' : j < k.ms.length := by simpa using hj
      simp at ej
      obtain ⟨rfl, rfl⟩ := ej
      have g : atI (k.ms.map fun m => W.int (cs m.name)) (j : Nat) = some (.int (cs k.ms[j].name)) := by rw [atI_nat]; simp [hj']
      generalize (k.ms.map fun m => W.int (cs m.name)) = l at g
      simp [turnD, g, skey, lval, cnt_nil]) (fun p _ => rfl) (by rw [nm]; exact skeys_nodup P.nd)
    rw [nm] at this
    exact this
  have d2 : compD (turnD (callF tab d) (.ix (.var 8) (.int 0)) (.ix (.var 8) (.int 3)) (.nm 8) .yes [8] [some (encK k), some (.tup (k.ms.map fun m => W.int (cs m.name))), some (.lst ((k.ms.map fun m : Mac => m.name).map .str)), some (.lst ((tiesOf k).map encT)), some (.dct (fD (k.ms.map fun m : Mac => m.name) skey (lval cs (cnt [])))), none, none, none, none, none, none, none, none, none]) ((tiesOf k).map encT) [] M = .ok (fD (tiesOf k) tkey (hval (cnt []))) M := by
    have := compD_fD (f := turnD (callF tab d) (.ix (.var 8) (.int 0)) (.ix (.var 8) (.int 3)) (.nm 8) .yes [8] [some (encK k), some (.tup (k.ms.map fun m => W.int (cs m.name))), some (.lst ((k.ms.map fun m : Mac => m.name).map .str)), some (.lst ((tiesOf k).map encT)), some (.dct (fD (k.ms.map fun m : Mac => m.name) skey (lval cs (cnt [])))), none, none, none, none, none, none, none, none, none]) (M := M) (e := encT) (l := tiesOf k) (g := id) (key := tkey) (v := hval (cnt [])) (b := false) (fun t ht => by
      simp [turnD, encT, tkey, hval, cnt_nil]) (fun p _ => rfl) (by rw [List.map_id]; exact tkeys_nodup P.bnd)
    rw [List.map_id] at this
    exact this
  have hr0 : rest k cs [] = ((k.ms.map fun m : Mac => m.name).map cs).sum.toNat := by
    unfold rest
    have : ((k.ms.map fun m : Mac => m.name).map fun x => cs x - cnt [] x) = (k.ms.map fun m : Mac => m.name).map cs := List.map_congr_left fun x _ => by rw [cnt_nil, Int.sub_zero]
    rw [this]; omega
  have lp := rf_loop P h40 d (by omega) (some (encK k)) (some (.tup (k.ms.map fun m => W.int (cs m.name)))) cs M ((k.ms.map fun m : Mac => m.name).map cs).sum.toNat [] hr0 (fun x hx => by rw [cnt_nil]; exact h0 x hx) (by simp only [List.length_nil]; omega)
  have hsum : sumW [.tup (k.ms.map fun m => W.int (cs m.name))] = some (.int ((k.ms.map fun m : Mac => m.name).map cs).sum) := by rw [es]; exact sumW_intsT _
  have hgt : ¬ (2000 : Int) < ((k.ms.map fun m : Mac => m.name).map cs).sum := by omega
  unfold rowFor
  generalize ((k.ms.map fun m : Mac => m.name).map cs).sum = S at hsum hgt lp
  simp only [rho, List.map_nil] at lp
  generalize hns : ((k.ms.map fun m : Mac => m.name).map W.str) = ns at d1 d2 lp
  have e1' : callF tab d 26 [encK k] M = .ok (.lst ns) M := by rw [← hns]; exact e1
  generalize (tiesOf k).map encT = ts at e2 d1 d2 lp
  generalize fD (k.ms.map fun m : Mac => m.name) skey (lval cs (cnt [])) = D1 at d1 d2 lp
  generalize fD (tiesOf k) tkey (hval (cnt [])) = D2 at d2 lp
  generalize (k.ms.map fun m => W.int (cs m.name)) = cw at hsum d1 d2 lp
  cases hg : greedy k cs S.toNat [] with
  | none =>
    rw [hg] at lp
    obtain ⟨ρ', lp⟩ := lp
    have ew : exec (callF tab d) (.whil rfT rfB [.pl, .pl, .pl, .pl, (.ow 1), .pl, .pl, (.ow 1), .pl, (.ow 1), .pl, .pl, .pl, .pl]) [some (encK k), some (.tup cw), some (.lst ns), some (.lst ts), some (.dct D1), none, none, some (.dct D2), none, some (.lst []), none, none, none, none] M = .ok (.rt .non, ρ') M := lp
    simp only [F39_row_for]
    simp [hsum, hgt, e1', e2, d1, d2, ew, rowW]
  | some r =>
    rw [hg] at lp
    have ew : exec (callF tab d) (.whil rfT rfB [.pl, .pl, .pl, .pl, (.ow 1), .pl, .pl, (.ow 1), .pl, (.ow 1), .pl, .pl, .pl, .pl]) [some (encK k), some (.tup cw), some (.lst ns), some (.lst ts), some (.dct D1), none, none, some (.dct D2), none, some (.lst []), none, none, none, none] M = _ := lp
    simp only [F39_row_for]
    simp [hsum, hgt, e1', e2, d1, d2, ew, rowW]
end
end K02
end Mi
end ShK_

section K05a_
set_option linter.all false
set_option Elab.async false
set_option maxRecDepth 100000
set_option maxHeartbeats 0
namespace Mi
open PySem PySem.Spec PyProof.Rows L2
def F51_behind : Fn := ⟨2, 2, [0, 0], .t 0,
  [.ret (.call 11 [(.var 0), (.ix (.call 30 [(.var 0), (.var 1)]) (.int 1))])]⟩
def F52_common_end : Fn := ⟨3, 8, [0, 0, 0], .t 0,
  [.setT (.tp [(.nm 3), (.nm 4)]) (.tup [(.call 31 [(.var 0), (.var 1)]), (.call 31 [(.var 0), (.var 2)])]),
  .set 5 .pl (.bi .tuple [(.lc (.bi .max [(.int 0), (.bin .sub (.ix (.var 4) (.var 6)) (.ix (.var 3) (.var 6)))]) (.nm 6) (.range [(.bi .len [(.var 3)])]) .yes [6])]),
  .set 7 .pl (.bi .tuple [(.lc (.bi .max [(.int 0), (.bin .sub (.ix (.var 3) (.var 6)) (.ix (.var 4) (.var 6)))]) (.nm 6) (.range [(.bi .len [(.var 3)])]) .yes [6])]),
  .ret (.tup [(.call 39 [(.call 51 [(.var 0), (.var 1)]), (.var 5)]), (.call 39 [(.call 51 [(.var 0), (.var 2)]), (.var 7)])])]⟩
def F53_common_part : Fn := ⟨3, 6, [0, 0, 0], .t 0,
  [.setT (.tp [(.nm 3), (.nm 4)]) (.tup [(.call 31 [(.var 0), (.var 1)]), (.call 31 [(.var 0), (.var 2)])]),
  .ret (.call 39 [(.var 0), (.bi .tuple [(.lc (.bi .min [(.ix (.var 3) (.var 5)), (.ix (.var 4) (.var 5))]) (.nm 5) (.range [(.bi .len [(.var 3)])]) .yes [5])])])]⟩
def F54_law : Fn := ⟨1, 13, [0], .t 0,
  [.set 1 .pl (.share (.call 13 [(.var 0)])),
  .set 2 .pl (.call 19 [(.var 1), (.int 6), (.int 8), (.int 4)]),
  .set 3 .pl (.call 35 [(.var 1), (.var 2), (.call 14 [(.var 1), (.int 16)])]),
  .set 4 .pl (.call 35 [(.var 1), (.var 2), (.call 14 [(.var 1), (.int 16)])]),
  .set 5 .pl (.call 36 [(.var 2), (.var 3)]),
  .set 6 .pl (.call 36 [(.var 2), (.var 4)]),
  .set 7 .pl (.call 52 [(.var 2), (.var 3), (.var 4)]),
  .ifs (.or (.not (.v (.isi .tuple (.var 7)))) (.cmp .ne (.bi .len [(.var 7)]) (.int 2))) [.ret (.bl false)] [],
  .set 8 .pl (.bi .tuple [(.lc (.bi .max [(.ix (.var 5) (.var 9)), (.ix (.var 6) (.var 9))]) (.nm 9) (.range [(.bi .len [(.var 5)])]) .yes [9])]),
  .forr (.tp [(.nm 10), (.nm 11)]) (.v (.lst [(.tup [(.var 3), (.ix (.var 7) (.int 0))]), (.tup [(.var 4), (.ix (.var 7) (.int 1))])])) [.ifs (.or (.not (.v (.isi .tuple (.var 11)))) (.or (.cmp .is (.call 48 [(.var 2), (.bin .add (.var 10) (.var 11))]) .non) (.cmp .ne (.call 36 [(.var 2), (.bin .add (.var 10) (.var 11))]) (.var 8)))) [.ret (.bl false)] [],
    .ifs (.cmp .ne (.call 39 [(.call 48 [(.var 2), (.var 10)]), (.call 36 [(.var 2), (.var 11)])]) (.var 11)) [.ret (.bl false)] [],
    .wipe [10, 11]] [.pl, .pl, .pl, .pl, .pl, .pl, .pl, .pl, .pl, .pl, .pl, .pl, .pl],
  .set 12 .pl (.call 53 [(.var 2), (.var 3), (.var 4)]),
  .ifs (.cmp .ne (.call 36 [(.var 2), (.var 12)]) (.bi .tuple [(.lc (.bi .min [(.ix (.var 5) (.var 9)), (.ix (.var 6) (.var 9))]) (.nm 9) (.range [(.bi .len [(.var 5)])]) .yes [9])])) [.ret (.bl false)] [],
  .ret (.and (.cmp .isn (.call 48 [(.var 2), (.var 12)]) .non) (.cmp .eq (.call 39 [(.var 2), (.call 36 [(.var 2), (.var 12)])]) (.var 12)))]⟩
namespace K05
def top (i : Nat) : Stmt := PySem.Challenge.pw_binworks_k05_rows_that_meet_again.main.body.getD i (.Pass ⟨0, 0, 0, 0⟩)
def d26 : Df := ⟨26, "names_of", defArgs (top 4), defBody (top 4), defScope (top 4), ["works"], ["works", "machine"], F26_names_of⟩
def d27 : Df := ⟨27, "ties_of", defArgs (top 5), defBody (top 5), defScope (top 5), ["works"], ["works", "parts", "name", "start", "goal", "stock", "room", "rooms"], F27_ties_of⟩
def d11 : Df := ⟨11, "with_stocks", defArgs (top 6), defBody (top 6), defScope (top 6), ["works", "stocks"], ["works", "stocks", "bins", "at", "row"], F11_with_stocks⟩
def d29 : Df := ⟨29, "stocks_after", defArgs (top 9), defBody (top 9), defScope (top 9), ["works", "counts"], ["works", "counts", "found", "name", "start", "goal", "stock", "room"], F29_stocks_after⟩
def d30 : Df := ⟨30, "play", defArgs (top 10), defBody (top 10), defScope (top 10), ["works", "row"], ["works", "row", "names", "ties", "counts", "index", "machine", "tie", "start", "goal", "count"], F30_play⟩
def d31 : Df := ⟨31, "counts_of", defArgs (top 11), defBody (top 11), defScope (top 11), ["works", "row"], ["works", "row", "machine", "name"], F31_counts_of⟩
def d39 : Df := ⟨39, "row_for", defArgs (top 12), defBody (top 12), defScope (top 12), ["works", "counts"], ["works", "counts", "names", "ties", "left", "at", "name", "held", "tie", "row", "ready", "start", "goal", "count"], F39_row_for⟩
def d40 : Df := ⟨40, "lacking", defArgs (top 13), defBody (top 13), defScope (top 13), ["ties", "held", "name"], ["ties", "held", "name", "tie", "start", "goal", "count"], F40_lacking⟩
def d51 : Df := ⟨51, "behind", defArgs (top 15), defBody (top 15), defScope (top 15), ["works", "row"], ["works", "row"], F51_behind⟩
def d52 : Df := ⟨52, "common_end", defArgs (top 16), defBody (top 16), defScope (top 16), ["works", "one", "two"], ["works", "one", "two", "first", "second", "more", "at", "less"], F52_common_end⟩
def d53 : Df := ⟨53, "common_part", defArgs (top 17), defBody (top 17), defScope (top 17), ["works", "one", "two"], ["works", "one", "two", "first", "second", "at"], F53_common_part⟩
def d12 : Df := ⟨12, "_law_digits", defArgs (top 19), defBody (top 19), defScope (top 19), ["cell", "count"], ["cell", "count", "number", "row", "k", "mixed"], F12__law_digits⟩
def d13 : Df := ⟨13, "_law_box", defArgs (top 20), defBody (top 20), defScope (top 20), ["script"], ["script", "row", "cell"], F13__law_box⟩
def d14 : Df := ⟨14, "_law_take", defArgs (top 21), defBody (top 21), defScope (top 21), ["box", "many"], ["box", "many", "at", "number"], F14__law_take⟩
def d15 : Df := ⟨15, "_law_pick", defArgs (top 22), defBody (top 22), defScope (top 22), ["box", "row"], ["box", "row"], F15__law_pick⟩
def d16 : Df := ⟨16, "_law_word", defArgs (top 23), defBody (top 23), defScope (top 23), ["box", "size"], ["box", "size", "k"], F16__law_word⟩
def d17 : Df := ⟨17, "_law_names", defArgs (top 24), defBody (top 24), defScope (top 24), ["box", "many"], ["box", "many", "words", "at", "base", "place", "first", "unlike", "names", "k", "letter", "tail"], F17__law_names⟩
def d18 : Df := ⟨18, "_law_machines", defArgs (top 25), defBody (top 25), defScope (top 25), ["box", "many"], ["box", "many", "rows", "name"], F18__law_machines⟩
def d19 : Df := ⟨19, "_law_works", defArgs (top 26), defBody (top 26), defScope (top 26), ["box", "most", "bins", "great"], ["box", "most", "bins", "great", "machines", "names", "machine", "rows", "name", "stock", "room"], F19__law_works⟩
def d32 : Df := ⟨32, "_law_ties", defArgs (top 27), defBody (top 27), defScope (top 27), ["works"], ["works", "parts", "rooms", "name", "start", "goal", "stock", "room"], F32__law_ties⟩
def d20 : Df := ⟨20, "_law_name_list", defArgs (top 28), defBody (top 28), defScope (top 28), ["works"], ["works", "machine"], F20__law_name_list⟩
def d33 : Df := ⟨33, "_law_stocks_behind", defArgs (top 29), defBody (top 29), defScope (top 29), ["works", "counts"], ["works", "counts", "found", "name", "start", "goal", "stock", "room"], F33__law_stocks_behind⟩
def d21 : Df := ⟨21, "_law_with", defArgs (top 30), defBody (top 30), defScope (top 30), ["works", "stocks"], ["works", "stocks", "rows", "k"], F21__law_with⟩
def d34 : Df := ⟨34, "_law_ready", defArgs (top 31), defBody (top 31), defScope (top 31), ["works"], ["works", "ties", "name", "tie"], F34__law_ready⟩
def d35 : Df := ⟨35, "_law_walked", defArgs (top 32), defBody (top 32), defScope (top 32), ["box", "works", "many"], ["box", "works", "many", "row", "now", "k", "ready", "name"], F35__law_walked⟩
def d48 : Df := ⟨48, "_law_behind", defArgs (top 33), defBody (top 33), defScope (top 33), ["works", "row"], ["works", "row", "now", "name"], F48__law_behind⟩
def d36 : Df := ⟨36, "_law_tally", defArgs (top 34), defBody (top 34), defScope (top 34), ["works", "row"], ["works", "row", "one", "name"], F36__law_tally⟩
def d54 : Df := ⟨54, "law", defArgs (top 35), defBody (top 35), defScope (top 35), ["script"], ["script", "box", "works", "one", "two", "first", "second", "told", "due", "k", "begin", "more", "part"], F54_law⟩
def ds : List Df := [d26, d27, d11, d29, d30, d31, d39, d40, d51, d52, d53, d12, d13, d14, d15, d16, d17, d18, d19, d32, d20, d33, d21, d34, d35, d48, d36, d54]
def gs : Gs := ⟨[("MAX_GOINGS", 2000)], [], [0, 1]⟩
end K05
end Mi
end K05a_

section K05l_
set_option linter.all false
set_option Elab.async false
set_option maxRecDepth 100000
/-! K05: rows that meet again. -/
namespace Mi
open PySem L2
namespace K05
open K02
theorem plain_of {k : Wo} (h : Fair k) (hm : k.ms.length ≤ 1000) (hb : k.bs.length ≤ 1000) : Plain k := ⟨h.names, h.bnames, hb, hm, fun t ht => by
  unfold tiesOf at ht
  rcases List.mem_append.mp ht with ht | ht
  · obtain ⟨b, hb, rfl⟩ := List.mem_map.mp ht
    exact h.stocks b hb
  · obtain ⟨b, hb, e⟩ := List.mem_filterMap.mp ht
    unfold roomOf at e
    obtain ⟨r, er, rfl⟩ := Option.map_eq_some_iff.mp e
    have := (h.rooms b hb r er).1
    show 0 ≤ r - b.stock
    omega⟩
theorem plain_now {k : Wo} (P : Plain k) {r : List Str} (h : Runs k r) : Plain (nowOf k r) := ⟨P.nd, by
  have : (nowOf k r).bs.map (fun b : Bn => b.name) = k.bs.map fun b : Bn => b.name := by
    unfold nowOf setStock
    rw [List.map_map]; rfl
  rw [this]; exact P.bnd, by rw [now_len]; exact P.few, P.mfew, fun t ht => by
  rw [ties_now] at ht
  obtain ⟨t', ht', rfl⟩ := List.mem_map.mp ht
  exact tok_nn P.nn h t' ht'⟩
theorem enab_now {k : Wo} {one : List Str} {c : Str → Int} {x : Str} : enab (nowOf k one) c x ↔ enab k (fun y => cnt one y + c y) x := by
  unfold enab
  rw [ties_now]
  constructor
  · intro h t ht e
    have := h (tieNow (cnt one) t) (List.mem_map.mpr ⟨t, ht, rfl⟩) e
    have e2 : (tieNow (cnt one) t).count + c (tieNow (cnt one) t).start - c (tieNow (cnt one) t).goal = t.count + cnt one t.start - cnt one t.goal + c t.start - c t.goal := rfl
    rw [e2] at this
    show 0 < t.count + (cnt one t.start + c t.start) - (cnt one t.goal + c t.goal)
    omega
  · intro h t' ht' e
    obtain ⟨t, ht, rfl⟩ := List.mem_map.mp ht'
    have := h t ht e
    show 0 < t.count + cnt one t.start - cnt one t.goal + c t.start - c t.goal
    simp only at this
    omega
theorem runs_app {k : Wo} {one : List Str} (h1 : Runs k one) : ∀ {row : List Str}, Runs (nowOf k one) row → Runs k (one ++ row) := by
  have gen : ∀ (n : Nat) (row : List Str), row.length = n → Runs (nowOf k one) row → Runs k (one ++ row) := by
    intro n
    induction n with
    | zero =>
      intro row hl _
      have : row = [] := List.length_eq_zero_iff.mp hl
      subst this
      rw [List.append_nil]; exact h1
    | succ n ih =>
      intro row hl hr
      obtain ⟨p, x, rfl⟩ : ∃ p x, row = p ++ [x] := ⟨row.dropLast, row.getLast (by intro q; rw [q] at hl; cases hl), (List.dropLast_concat_getLast _).symm⟩
      have hp := ih p (by simpa using hl) hr.pre
      obtain ⟨k1, k2⟩ := hr p x [] rfl
      rw [← List.append_assoc]
      refine hp.snoc k1 ?_
      have := enab_now.mp k2
      have e : cnt (one ++ p) = fun y => cnt one y + cnt p y := by funext y; exact cnt_append one p y
      rw [e]; exact this
  intro row hr
  exact gen _ row rfl hr
/-- what is lacking of another row can go on -/
theorem live_more {k : Wo} {one two : List Str} (h1 : Runs k one) (h2 : Runs k two) : Live (nowOf k one) fun x => if cnt two x - cnt one x > 0 then cnt two x - cnt one x else 0 := fun row hr hc ⟨y, hy, hlt⟩ => by
  obtain ⟨x, hx1, hx2, hx3⟩ := some_go h2 (c := fun y => cnt one y + cnt row y) (fun y => by have := cnt_nonneg one y; have := cnt_nonneg row y; omega) ⟨y, by
    have := cnt_nonneg row y
    dsimp only at hlt
    split at hlt <;> omega⟩
  refine ⟨x, hx2, ?_, enab_now.mpr hx3⟩
  have := cnt_nonneg row x
  dsimp only
  split <;> omega
/-- of two rows -/
theorem live_min {k : Wo} {one two : List Str} (h1 : Runs k one) (h2 : Runs k two) : Live k fun x => if cnt two x < cnt one x then cnt two x else cnt one x := fun row hr hc ⟨y, hy, hlt⟩ => by
  have hc' : ∀ z, cnt row z ≤ cnt one z ∧ cnt row z ≤ cnt two z := fun z => by
    by_cases hz : z ∈ k.ms.map fun m : Mac => m.name
    · have := hc z hz
      dsimp only at this
      split at this <;> omega
    · rw [cnt_zero fun q => hz (hr.mem z q)]
      exact ⟨cnt_nonneg _ _, cnt_nonneg _ _⟩
  have hy' : cnt row y < cnt one y ∧ cnt row y < cnt two y := by dsimp only at hlt; split at hlt <;> omega
  -- a walk along the first row
  have walk : ∀ (q p : List Str), one = p ++ q → (∀ z, cnt row z < cnt two z → cnt p z ≤ cnt row z) → ∃ x, cnt row x < cnt one x ∧ cnt row x < cnt two x ∧ x ∈ (k.ms.map fun m : Mac => m.name) ∧ enab k (cnt row) x := by
    intro q
    induction q with
    | nil =>
      intro p e hp
      rw [List.append_nil] at e
      subst e
      have := hp y hy'.2
      omega
    | cons x q ih =>
      intro p e hp
      by_cases hgo : cnt row x < cnt two x ∧ cnt row x < cnt (p ++ [x]) x
      · obtain ⟨k1, k2⟩ := h1 p x q e
        have hx1 : cnt (p ++ [x]) x = cnt p x + 1 := by rw [cnt_snoc, if_pos rfl]
        have hx2 := hp x hgo.1
        have hx3 : cnt row x = cnt p x := by omega
        have hx4 : cnt one x = cnt p x + cnt (x :: q) x := by rw [e, cnt_append]
        rw [cnt_cons, if_pos rfl] at hx4
        have hx5 := cnt_nonneg q x
        refine ⟨x, by omega, hgo.1, k1, fun t ht et => ?_⟩
        have a1 := k2 t ht et
        rw [et] at a1 ⊢
        by_cases hs : cnt row t.start < cnt two t.start
        · have := hp t.start hs
          omega
        · -- the second row shows it
          have hs' : cnt row t.start = cnt two t.start := by have := (hc' t.start).2; omega
          -- the place of x in the second row
          have place : ∀ (q2 p2 : List Str), two = p2 ++ q2 → cnt p2 x ≤ cnt row x → ∃ p3 s, two = p3 ++ x :: s ∧ cnt p3 x = cnt row x := by
            intro q2
            induction q2 with
            | nil =>
              intro p2 e2 h
              rw [List.append_nil] at e2
              subst e2
              have := hgo.1
              omega
            | cons z q2 ih2 =>
              intro p2 e2 h
              by_cases hz : z = x ∧ cnt p2 x = cnt row x
              · exact ⟨p2, q2, by rw [e2, hz.1], hz.2⟩
              · refine ih2 (p2 ++ [z]) (by rw [e2]; simp) ?_
                rw [cnt_snoc]
                split
                · rename_i hzx
                  have : cnt p2 x ≠ cnt row x := fun w => hz ⟨hzx, w⟩
                  omega
                · omega
          obtain ⟨p3, s, e3, h3⟩ := place two [] rfl (by rw [cnt_nil]; exact cnt_nonneg _ _)
          have b1 := (h2 p3 x s e3).2 t ht et
          rw [et] at b1
          have b2 : cnt two t.start = cnt p3 t.start + cnt (x :: s) t.start := by rw [e3, cnt_append]
          have b3 := cnt_nonneg (x :: s) t.start
          omega
      · refine ih (p ++ [x]) (by rw [e]; simp) fun z hz => ?_
        rw [cnt_snoc]
        by_cases hxz : x = z
        · subst hxz
          rw [if_pos rfl]
          have hx1 : cnt (p ++ [x]) x = cnt p x + 1 := by rw [cnt_snoc, if_pos rfl]
          have := fun w => hgo ⟨hz, w⟩
          omega
        · rw [if_neg hxz, Int.add_zero]; exact hp z hz
  obtain ⟨x, a1, a2, a3, a4⟩ := walk one [] rfl fun z _ => by rw [cnt_nil]; exact cnt_nonneg _ _
  exact ⟨x, a3, by dsimp only; split <;> omega, a4⟩
theorem cnt_le (r : List Str) (x : Str) : cnt r x ≤ r.length := by
  unfold cnt
  have := List.length_filter_le (fun y => y == x) r
  omega
theorem sum_bound {l : List Str} {f : Str → Int} {b : Int} (h : ∀ x ∈ l, f x ≤ b) : (l.map f).sum ≤ l.length * b := by
  induction l with
  | nil => simp
  | cons a l ih =>
    rw [List.map_cons, List.sum_cons, List.length_cons]
    have := h a List.mem_cons_self
    have := ih fun x hx => h x (List.mem_cons_of_mem _ hx)
    have e : ((l.length + 1 : Nat) : Int) * b = l.length * b + b := by rw [Int.natCast_add, Int.add_mul]; simp
    rw [e]; omega
/-- the greedy row from here -/
theorem rowFor_ok {k : Wo} (P : Plain k) {cs : Str → Int} (h0 : ∀ x ∈ k.ms.map fun m : Mac => m.name, 0 ≤ cs x) (L : Live k cs) : ∃ r, rowFor k cs = some r ∧ Runs k r ∧ ∀ x ∈ k.ms.map fun m : Mac => m.name, cnt r x = cs x := by
  have hnn := sum_nn P h0
  have hr0 : K02.rest k cs [] = ((k.ms.map fun m : Mac => m.name).map cs).sum.toNat := by
    unfold K02.rest
    have : ((k.ms.map fun m : Mac => m.name).map fun x => cs x - cnt [] x) = (k.ms.map fun m : Mac => m.name).map cs := List.map_congr_left fun x _ => by rw [cnt_nil, Int.sub_zero]
    rw [this]; omega
  have hle : ∀ x ∈ k.ms.map fun m : Mac => m.name, cnt [] x ≤ cs x := fun x hx => by rw [cnt_nil]; exact h0 x hx
  cases h : rowFor k cs with
  | none => exact absurd h (greedy_live P L _ [] hr0 hle (Runs.nil k))
  | some r => exact ⟨r, rfl, greedy_run P _ [] r hr0 hle (Runs.nil k) h⟩
end K05
end Mi
end K05l_

section K05m_
set_option linter.all false
set_option Elab.async false
set_option maxRecDepth 100000
/-! K05: what the program's functions tell. -/
namespace Mi
open PySem L2
namespace K05
open K02
theorem comp_ix {α : Type} {f : W → List W → R (Option W)} {M : List W} (l : List α) (F : α → W) (h : ∀ (i : Nat) (hi : i < l.length), f (.int (i : Nat)) M = .ok (some (F l[i])) M) : compL f ((List.range l.length).map fun j : Nat => W.int j) M = .ok (l.map F) M := by
  rw [compL_pure (g := fun i => some ((l[i]?.map F).getD .non)) (List.range l.length) fun i hi => ?_]
  · congr 1
    rw [List.filterMap_eq_map']
    refine List.ext_getElem (by simp) fun i h1 h2 => ?_
    have h3 : i < l.length := by simpa using h2
    simp [h3]
  · have hi' := List.mem_range.mp hi
    rw [h i hi', List.getElem?_eq_getElem hi']; rfl
theorem play_done {k : Wo} {r : List Str} (h : Runs k r) : ∀ (q p : List Str), r = p ++ q → playW k p q = .tup [.str "done", .tup (k.bs.map fun b => W.int (b.stock + cnt r b.start - cnt r b.goal))]
  | [], p, e => by
    rw [List.append_nil] at e
    subst e
    unfold playW; rfl
  | x :: q, p, e => by
    obtain ⟨_, k2⟩ := h p x q e
    have hf : (tiesOf k).find? (stopsAt k (cnt p) x) = none := by
      rw [List.find?_eq_none]
      intro t ht z
      unfold stopsAt at z
      simp only [Bool.and_eq_true, decide_eq_true_eq] at z
      have := k2 t ht z.1
      omega
    unfold playW
    rw [hf]
    exact play_done h q (p ++ [x]) (by rw [e]; simp)
section
variable {tab : Nat → Option Fn}
theorem beh_ok (h26 : tab 26 = some F26_names_of) (h27 : tab 27 = some F27_ties_of) (h29 : tab 29 = some F29_stocks_after) (h30 : tab 30 = some F30_play) (h11 : tab 11 = some F11_with_stocks) (h51 : tab 51 = some F51_behind) (k : Wo) (hk : k.bs.length ≤ 1000) {r : List Str} (hr : Runs k r) (hl : r.length ≤ 1000) (M : List W) (n : Nat) (hn : 3 ≤ n) : callF tab n 51 [encK k, .tup (r.map .str)] M = .ok (encK (nowOf k r)) M := by
  obtain ⟨d, rfl⟩ : ∃ d, n = d + 1 := ⟨n - 1, by omega⟩
  have e1 := play_ok h26 h27 h29 h30 k hk hr.mem hl M d (by omega)
  rw [play_done hr r [] rfl] at e1
  have e2 := with_stocks_ok h11 k hk (k.bs.map fun b => b.stock + cnt r b.start - cnt r b.goal) (by rw [List.length_map]) M d (by omega)
  rw [setL_map, List.map_map] at e2
  have e3 : (k.bs.map (W.int ∘ fun b => b.stock + cnt r b.start - cnt r b.goal)) = k.bs.map fun b => W.int (b.stock + cnt r b.start - cnt r b.goal) := rfl
  rw [e3] at e2
  rw [call_of h51 _ _ _ rfl]
  have e4 : setStock k (fun b => b.stock + cnt r b.start - cnt r b.goal) = nowOf k r := rfl
  rw [e4] at e2
  generalize (k.bs.map fun b => W.int (b.stock + cnt r b.start - cnt r b.goal)) = l at e1 e2
  simp [F51_behind, e1, e2]
def moreF (one two : List Str) : Str → Int := fun x => if cnt two x - cnt one x > 0 then cnt two x - cnt one x else 0
def lessF (one two : List Str) : Str → Int := fun x => if cnt two x < cnt one x then cnt two x else cnt one x
theorem tally_at (k : Wo) (r : List Str) {i : Nat} (hi : i < k.ms.length) : atI (k.ms.map fun m => W.int (cnt r m.name)) (i : Nat) = some (.int (cnt r k.ms[i].name)) := by rw [atI_nat]; simp [hi]
theorem more_nn (one two : List Str) (x : Str) : 0 ≤ moreF one two x := by unfold moreF; split <;> omega
theorem more_le (one two : List Str) (x : Str) : moreF one two x ≤ two.length := by
  unfold moreF
  have := cnt_le two x
  have := cnt_nonneg one x
  split <;> omega
theorem less_nn (one two : List Str) (x : Str) : 0 ≤ lessF one two x := by
  unfold lessF
  have := cnt_nonneg one x
  have := cnt_nonneg two x
  split <;> omega
theorem less_le (one two : List Str) (x : Str) : lessF one two x ≤ one.length := by
  unfold lessF
  have := cnt_le one x
  split <;> omega
theorem sum_few {k : Wo} {f : Str → Int} (hm : k.ms.length ≤ 26) (h : ∀ x, f x ≤ 40) : ((k.ms.map fun m : Mac => m.name).map f).sum ≤ 2000 := by
  have := sum_bound (l := k.ms.map fun m : Mac => m.name) (f := f) (b := 40) fun x _ => h x
  rw [List.length_map] at this
  omega
structure TabC (tab : Nat → Option Fn) : Prop where
  h26 : tab 26 = some F26_names_of
  h27 : tab 27 = some F27_ties_of
  h11 : tab 11 = some F11_with_stocks
  h29 : tab 29 = some F29_stocks_after
  h30 : tab 30 = some F30_play
  h31 : tab 31 = some F31_counts_of
  h39 : tab 39 = some F39_row_for
  h40 : tab 40 = some F40_lacking
  h51 : tab 51 = some F51_behind
  h52 : tab 52 = some F52_common_end
  h53 : tab 53 = some F53_common_part
theorem common_end_ok (T : TabC tab) {k : Wo} (P : Plain k) (hm : k.ms.length ≤ 26) {one two : List Str} (h1 : Runs k one) (h2 : Runs k two) (hl1 : one.length ≤ 40) (hl2 : two.length ≤ 40) (M : List W) (n : Nat) (hn : 5 ≤ n) :
    callF tab n 52 [encK k, .tup (one.map .str), .tup (two.map .str)] M = .ok (.tup [rowW (rowFor (nowOf k one) (moreF one two)), rowW (rowFor (nowOf k two) (moreF two one))]) M := by
  obtain ⟨d, rfl⟩ : ∃ d, n = d + 1 := ⟨n - 1, by omega⟩
  have e1 := counts_of_ok T.h26 T.h31 k one M d (by omega)
  have e2 := counts_of_ok T.h26 T.h31 k two M d (by omega)
  have e3 := beh_ok T.h26 T.h27 T.h29 T.h30 T.h11 T.h51 k P.few h1 (by omega) M d (by omega)
  have e4 := beh_ok T.h26 T.h27 T.h29 T.h30 T.h11 T.h51 k P.few h2 (by omega) M d (by omega)
  have e5 := row_for_ok (plain_now P h1) T.h26 T.h27 T.h39 T.h40 (moreF one two) (fun x _ => more_nn one two x) (sum_few hm fun x => by have := more_le one two x; omega) M d (by omega)
  have e6 := row_for_ok (plain_now P h2) T.h26 T.h27 T.h39 T.h40 (moreF two one) (fun x _ => more_nn two one x) (sum_few hm fun x => by have := more_le two one x; omega) M d (by omega)
  have er := range_len k.ms.length (by omega)
  have c1 : ∀ (w1 w2 w5 : Option W) , compL (turnL (callF tab d) (.bi .max [(.int 0), (.bin .sub (.ix (.var 4) (.var 6)) (.ix (.var 3) (.var 6)))]) (.nm 6) .yes [6] [some (encK k), w1, w2, some (tallyW k one), some (tallyW k two), w5, none, none]) ((List.range k.ms.length).map fun j : Nat => W.int j) M = .ok (k.ms.map fun m => W.int (moreF one two m.name)) M := fun w1 w2 w5 =>
    comp_ix k.ms (fun m => W.int (moreF one two m.name)) fun i hi => by
      have g1 := tally_at k one hi
      have g2 := tally_at k two hi
      unfold tallyW
      generalize (k.ms.map fun m => W.int (cnt one m.name)) = l1 at g1
      generalize (k.ms.map fun m => W.int (cnt two m.name)) = l2 at g2
      simp [turnL, g1, g2, moreF]
  have c2 : ∀ (w1 w2 w5 : Option W) , compL (turnL (callF tab d) (.bi .max [(.int 0), (.bin .sub (.ix (.var 3) (.var 6)) (.ix (.var 4) (.var 6)))]) (.nm 6) .yes [6] [some (encK k), w1, w2, some (tallyW k one), some (tallyW k two), w5, none, none]) ((List.range k.ms.length).map fun j : Nat => W.int j) M = .ok (k.ms.map fun m => W.int (moreF two one m.name)) M := fun w1 w2 w5 =>
    comp_ix k.ms (fun m => W.int (moreF two one m.name)) fun i hi => by
      have g1 := tally_at k one hi
      have g2 := tally_at k two hi
      unfold tallyW
      generalize (k.ms.map fun m => W.int (cnt one m.name)) = l1 at g1
      generalize (k.ms.map fun m => W.int (cnt two m.name)) = l2 at g2
      simp [turnL, g1, g2, moreF]
  have ms1 : (nowOf k one).ms = k.ms := rfl
  have ms2 : (nowOf k two).ms = k.ms := rfl
  rw [ms1] at e5
  rw [ms2] at e6
  have hlen : lenW [tallyW k one] = some (.int k.ms.length) := by unfold tallyW; simp
  rw [call_of T.h52 _ _ _ rfl]
  generalize tallyW k one = t1 at e1 c1 c2 hlen
  generalize tallyW k two = t2 at e2 c1 c2
  generalize (k.ms.map fun m => W.int (moreF one two m.name)) = m1 at c1 e5
  generalize (k.ms.map fun m => W.int (moreF two one m.name)) = m2 at c2 e6
  simp [F52_common_end, e1, e2, hlen, er, c1, c2, e3, e4, e5, e6]
theorem common_part_ok (T : TabC tab) {k : Wo} (P : Plain k) (hm : k.ms.length ≤ 26) {one two : List Str} (h1 : Runs k one) (h2 : Runs k two) (hl1 : one.length ≤ 40) (hl2 : two.length ≤ 40) (M : List W) (n : Nat) (hn : 5 ≤ n) :
    callF tab n 53 [encK k, .tup (one.map .str), .tup (two.map .str)] M = .ok (rowW (rowFor k (lessF one two))) M := by
  obtain ⟨d, rfl⟩ : ∃ d, n = d + 1 := ⟨n - 1, by omega⟩
  have e1 := counts_of_ok T.h26 T.h31 k one M d (by omega)
  have e2 := counts_of_ok T.h26 T.h31 k two M d (by omega)
  have e5 := row_for_ok P T.h26 T.h27 T.h39 T.h40 (lessF one two) (fun x _ => less_nn one two x) (sum_few hm fun x => by have := less_le one two x; omega) M d (by omega)
  have er := range_len k.ms.length (by omega)
  have c1 : ∀ (w1 w2 : Option W) , compL (turnL (callF tab d) (.bi .min [(.ix (.var 3) (.var 5)), (.ix (.var 4) (.var 5))]) (.nm 5) .yes [5] [some (encK k), w1, w2, some (tallyW k one), some (tallyW k two), none]) ((List.range k.ms.length).map fun j : Nat => W.int j) M = .ok (k.ms.map fun m => W.int (lessF one two m.name)) M := fun w1 w2 =>
    comp_ix k.ms (fun m => W.int (lessF one two m.name)) fun i hi => by
      have g1 := tally_at k one hi
      have g2 := tally_at k two hi
      unfold tallyW
      generalize (k.ms.map fun m => W.int (cnt one m.name)) = l1 at g1
      generalize (k.ms.map fun m => W.int (cnt two m.name)) = l2 at g2
      simp [turnL, g1, g2, lessF]
  have hlen : lenW [tallyW k one] = some (.int k.ms.length) := by unfold tallyW; simp
  rw [call_of T.h53 _ _ _ rfl]
  generalize tallyW k one = t1 at e1 c1 hlen
  generalize tallyW k two = t2 at e2 c1
  generalize (k.ms.map fun m => W.int (lessF one two m.name)) = m1 at c1 e5
  simp [F53_common_part, e1, e2, hlen, er, c1, e5]
end
end K05
end Mi
end K05m_

section K05o_
set_option linter.all false
set_option Elab.async false
set_option maxRecDepth 100000
/-! K05: the law. -/
namespace Mi
open PySem L2
namespace K05
open K02
structure Tab (tab : Nat → Option Fn) : Prop where
  c : TabC tab
  h12 : tab 12 = some F12__law_digits
  h13 : tab 13 = some F13__law_box
  h14 : tab 14 = some F14__law_take
  h15 : tab 15 = some F15__law_pick
  h16 : tab 16 = some F16__law_word
  h17 : tab 17 = some F17__law_names
  h18 : tab 18 = some F18__law_machines
  h19 : tab 19 = some F19__law_works
  h32 : tab 32 = some F32__law_ties
  h20 : tab 20 = some F20__law_name_list
  h33 : tab 33 = some F33__law_stocks_behind
  h21 : tab 21 = some F21__law_with
  h34 : tab 34 = some F34__law_ready
  h35 : tab 35 = some F35__law_walked
  h48 : tab 48 = some F48__law_behind
  h36 : tab 36 = some F36__law_tally
  h54 : tab 54 = some F54_law
abbrev lb : List S := [.ifs (.or (.not (.v (.isi .tuple (.var 11)))) (.or (.cmp .is (.call 48 [(.var 2), (.bin .add (.var 10) (.var 11))]) .non) (.cmp .ne (.call 36 [(.var 2), (.bin .add (.var 10) (.var 11))]) (.var 8)))) [.ret (.bl false)] [],
    .ifs (.cmp .ne (.call 39 [(.call 48 [(.var 2), (.var 10)]), (.call 36 [(.var 2), (.var 11)])]) (.var 11)) [.ret (.bl false)] [],
    .wipe [10, 11]]
theorem eq_strs (l : List Str) : eqW (.tup (l.map .str)) (.tup (l.map .str)) = some true := by
  apply eqW_self
  have := depthL_map (e := W.str) (d := 0) l fun x _ => by simp
  rw [depth_tup]; omega
theorem eq_tally (k : Wo) (r : List Str) : eqW (tallyW k r) (tallyW k r) = some true := by
  apply eqW_self
  have := depthL_map (e := fun m : Mac => W.int (cnt r m.name)) (d := 0) k.ms fun x _ => by simp
  unfold tallyW
  rw [depth_tup]; omega
theorem greedy_len {k : Wo} {cs : Str → Int} : ∀ (m : Nat) (row r : List Str), greedy k cs m row = some r → r.length = row.length + m
  | 0, row, r, e => by
    unfold greedy at e
    cases e; rfl
  | m + 1, row, r, e => by
    unfold greedy at e
    cases h : goList k cs (cnt row) with
    | nil => rw [h] at e; cases e
    | cons x l =>
      rw [h] at e
      have := greedy_len m _ r e
      rw [this, List.length_append, List.length_singleton]; omega
section
variable {tab : Nat → Option Fn}
theorem turn_ok (T : Tab tab) {k : Wo} (P : Plain k) (hm : k.ms.length ≤ 26) {b m : List Str} (hb : Runs k b) (hbl : b.length ≤ 40) {f : Str → Int} (hf : ∀ x, 0 ≤ f x ∧ f x ≤ 40) (hr : rowFor (nowOf k b) f = some m) (hR : Runs (nowOf k b) m) (hc : ∀ x ∈ k.ms.map fun m : Mac => m.name, cnt m x = f x) (due : W) (hd : tallyW k (b ++ m) = due) (w0 w1 w3 w4 w5 w6 w7 : Option W) (M : List W) (d : Nat) (hn : 8 ≤ d) :
    bodyF (callF tab d) (.tp [(.nm 10), (.nm 11)]) lb (.tup [.tup (b.map .str), .tup (m.map .str)]) [w0, w1, some (encK k), w3, w4, w5, w6, w7, some due, none, none, none, none] M = .ok (.nx, [w0, w1, some (encK k), w3, w4, w5, w6, w7, some due, none, none, none, none]) M := by
  have hb2 := runs_app hb hR
  have e1 := K02.behind_ok T.h20 T.h32 T.h33 T.h21 T.h34 T.h48 k P.few hb2 M d (by omega)
  have e2 := tally_ok T.h20 T.h36 k (b ++ m) M d (by omega)
  have e3 := K02.behind_ok T.h20 T.h32 T.h33 T.h21 T.h34 T.h48 k P.few hb M d (by omega)
  have e4 := tally_ok T.h20 T.h36 k m M d (by omega)
  have e5 := row_for_ok (plain_now P hb) T.c.h26 T.c.h27 T.c.h39 T.c.h40 f (fun x _ => (hf x).1) (sum_few (k := nowOf k b) hm fun x => (hf x).2) M d (by omega)
  have ml := greedy_len _ _ _ hr
  have ms : (nowOf k b).ms = k.ms := rfl
  have hsf := sum_few (k := nowOf k b) hm fun x => (hf x).2
  have hsz : b.length + m.length ≤ sizeLine := by
    rw [sizeLine_eq, ml, List.length_nil]; omega
  have t1 : tallyW k m = .tup (k.ms.map fun m : Mac => W.int (f m.name)) := by
    unfold tallyW
    congr 1
    exact List.map_congr_left fun x hx => by rw [hc _ (List.mem_map.mpr ⟨x, hx, rfl⟩)]
  rw [ms, ← t1, hr] at e5
  have e6 := eq_tally k (b ++ m)
  have e7 := eq_strs m
  have i1 : isW (encK (nowOf k (b ++ m))) .non = some false := rfl
  rw [List.map_append] at e1 e2
  rw [hd] at e2 e6
  have r0 : rowW (some m) = .tup (m.map .str) := rfl
  rw [r0] at e5
  generalize tallyW k m = tm at e4 e5
  generalize encK (nowOf k (b ++ m)) = kk at e1 i1
  generalize encK (nowOf k b) = kb at e3 e5
  simp [bodyF, hsz, e1, e2, e3, e4, e5, e6, e7, i1]
def maxF (one two : List Str) : Str → Int := fun x => if cnt two x > cnt one x then cnt two x else cnt one x
theorem law_gen (T : Tab tab) {ns : List Int} (hns : ns.length ≤ 63) (n : Nat) (hn : 12 ≤ n) : ∃ M, callF tab n 54 [.frz ns] [] = .ok (.bl true) M := by
  obtain ⟨d, rfl⟩ : ∃ d, n = d + 1 := ⟨n - 1, by omega⟩
  obtain ⟨row, x1, r0, r1⟩ := box_ok T.h12 T.h13 hns [] d (by omega)
  have b1 : IsBox [boxW row 0] := ⟨row, 0, rfl, r0, r1, by omega⟩
  obtain ⟨k, M2, x2, b2, hF, hm, hb⟩ := works_ok T.h14 T.h15 T.h16 T.h17 T.h18 T.h19 b1 (most := 6) (bins := 8) (great := 4) (by omega) (by omega) (by omega) d (by omega)
  have hk : k.bs.length ≤ 1000 := by omega
  have P := plain_of hF (by omega) hk
  obtain ⟨m1, M3, x3, b3, p1, p1'⟩ := take_ok T.h14 b2 (many := 16) (by decide) d (by omega)
  obtain ⟨m, rfl⟩ := Int.eq_ofNat_of_zero_le p1
  obtain ⟨one, M4, x4, b4, hl1, hr1⟩ := walked_ok T.h14 T.h15 T.h20 T.h32 T.h33 T.h21 T.h34 T.h35 k hk b3 (m := m) (by omega) d (by omega)
  obtain ⟨m2, M5, x5, b5, p2, p2'⟩ := take_ok T.h14 b4 (many := 16) (by decide) d (by omega)
  obtain ⟨m', rfl⟩ := Int.eq_ofNat_of_zero_le p2
  obtain ⟨two, M6, x6, b6, hl2, hr2⟩ := walked_ok T.h14 T.h15 T.h20 T.h32 T.h33 T.h21 T.h34 T.h35 k hk b5 (m := m') (by omega) d (by omega)
  have x7 := tally_ok T.h20 T.h36 k one M6 d (by omega)
  have x8 := tally_ok T.h20 T.h36 k two M6 d (by omega)
  have x9 := common_end_ok T.c P (by omega) hr1 hr2 (by omega) (by omega) M6 d (by omega)
  obtain ⟨a, ha, hRa, hca⟩ := rowFor_ok (plain_now P hr1) (cs := moreF one two) (fun x _ => more_nn one two x) (live_more hr1 hr2)
  obtain ⟨b, hb', hRb, hcb⟩ := rowFor_ok (plain_now P hr2) (cs := moreF two one) (fun x _ => more_nn two one x) (live_more hr2 hr1)
  rw [ha, hb'] at x9
  have ra : ∀ r : List Str, rowW (some r) = .tup (r.map .str) := fun _ => rfl
  rw [ra, ra] at x9
  have ta : tallyW k (one ++ a) = .tup (k.ms.map fun m : Mac => W.int (maxF one two m.name)) := by
    unfold tallyW
    congr 1
    refine List.map_congr_left fun x hx => ?_
    rw [cnt_append, hca _ (List.mem_map.mpr ⟨x, hx, rfl⟩)]
    congr 1
    unfold moreF maxF
    split <;> split <;> omega
  have tb : tallyW k (two ++ b) = .tup (k.ms.map fun m : Mac => W.int (maxF one two m.name)) := by
    unfold tallyW
    congr 1
    refine List.map_congr_left fun x hx => ?_
    rw [cnt_append, hcb _ (List.mem_map.mpr ⟨x, hx, rfl⟩)]
    congr 1
    unfold moreF maxF
    split <;> split <;> omega
  have hmf : ∀ (u v : List Str), u.length ≤ 40 → v.length ≤ 40 → ∀ x, 0 ≤ moreF u v x ∧ moreF u v x ≤ 40 := fun u v _ _ x => ⟨more_nn u v x, by have := more_le u v x; omega⟩
  have y1 := fun due h w7 => turn_ok T P (by omega) hr1 (by omega) (hmf one two (by omega) (by omega)) ha hRa hca due h (some (.frz ns)) (some (.loc 0)) (some (.tup (one.map .str))) (some (.tup (two.map .str))) (some (tallyW k one)) (some (tallyW k two)) w7 M6 d (by omega)
  have y2 := fun due h w7 => turn_ok T P (by omega) hr2 (by omega) (hmf two one (by omega) (by omega)) hb' hRb hcb due h (some (.frz ns)) (some (.loc 0)) (some (.tup (one.map .str))) (some (.tup (two.map .str))) (some (tallyW k one)) (some (tallyW k two)) w7 M6 d (by omega)
  have y1 := fun w7 => y1 _ ta w7
  have y2 := fun w7 => y2 _ tb w7
  obtain ⟨p, hp, hRp, hcp⟩ := rowFor_ok P (cs := lessF one two) (fun x _ => less_nn one two x) (live_min hr1 hr2)
  have z1 := common_part_ok T.c P (by omega) hr1 hr2 (by omega) (by omega) M6 d (by omega)
  rw [hp, ra] at z1
  have z2 := tally_ok T.h20 T.h36 k p M6 d (by omega)
  have z3 := K02.behind_ok T.h20 T.h32 T.h33 T.h21 T.h34 T.h48 k hk hRp M6 d (by omega)
  have z4 := row_for_ok P T.c.h26 T.c.h27 T.c.h39 T.c.h40 (lessF one two) (fun x _ => less_nn one two x) (sum_few (by omega) fun x => by have := less_le one two x; omega) M6 d (by omega)
  have tp : tallyW k p = .tup (k.ms.map fun m : Mac => W.int (lessF one two m.name)) := by
    unfold tallyW
    congr 1
    exact List.map_congr_left fun x hx => by rw [hcp _ (List.mem_map.mpr ⟨x, hx, rfl⟩)]
  rw [hp, ra, ← tp] at z4
  have z5 := eq_tally k p
  have z6 := eq_strs p
  have z7 : isW (encK (nowOf k p)) .non = some false := rfl
  have er := range_len k.ms.length (by omega)
  have hlen : lenW [tallyW k one] = some (.int k.ms.length) := by unfold tallyW; simp
  have c1 : ∀ (w2 w7 : Option W), compL (turnL (callF tab d) (.bi .max [(.ix (.var 5) (.var 9)), (.ix (.var 6) (.var 9))]) (.nm 9) .yes [9] [some (.frz ns), some (.loc 0), w2, some (.tup (one.map .str)), some (.tup (two.map .str)), some (tallyW k one), some (tallyW k two), w7, none, none, none, none, none]) ((List.range k.ms.length).map fun j : Nat => W.int j) M6 = .ok (k.ms.map fun m => W.int (maxF one two m.name)) M6 := fun w2 w7 =>
    comp_ix k.ms (fun m => W.int (maxF one two m.name)) fun i hi => by
      have g1 := tally_at k one hi
      have g2 := tally_at k two hi
      unfold tallyW
      generalize (k.ms.map fun m => W.int (cnt one m.name)) = l1 at g1
      generalize (k.ms.map fun m => W.int (cnt two m.name)) = l2 at g2
      simp [turnL, g1, g2, maxF]
  have c2 : ∀ (w2 w7 w8 w12 : Option W), compL (turnL (callF tab d) (.bi .min [(.ix (.var 5) (.var 9)), (.ix (.var 6) (.var 9))]) (.nm 9) .yes [9] [some (.frz ns), some (.loc 0), w2, some (.tup (one.map .str)), some (.tup (two.map .str)), some (tallyW k one), some (tallyW k two), w7, w8, none, none, none, w12]) ((List.range k.ms.length).map fun j : Nat => W.int j) M6 = .ok (k.ms.map fun m => W.int (lessF one two m.name)) M6 := fun w2 w7 w8 w12 =>
    comp_ix k.ms (fun m => W.int (lessF one two m.name)) fun i hi => by
      have g1 := tally_at k one hi
      have g2 := tally_at k two hi
      unfold tallyW
      generalize (k.ms.map fun m => W.int (cnt one m.name)) = l1 at g1
      generalize (k.ms.map fun m => W.int (cnt two m.name)) = l2 at g2
      simp [turnL, g1, g2, lessF]
  rw [tp] at z5 z4 z2
  generalize tallyW k one = t1 at x7 y1 y2 hlen c1 c2
  generalize tallyW k two = t2 at x8 y1 y2 c1 c2
  generalize (k.ms.map fun m => W.int (maxF one two m.name)) = lm at c1 y1 y2
  generalize (k.ms.map fun m => W.int (lessF one two m.name)) = ll at c2 z2 z4 z5
  generalize encK (nowOf k p) = kp at z3 z7
  have x2' : callF tab d 19 [.loc 0, .int 6, .int 8, .int 4] [boxW row 0] = .ok (encK k) M2 := x2
  unfold boxW at x1 x2'
  generalize encK k = ek at x2' x4 x6 x7 x8 x9 y1 y2 z1 z2 z3 z4
  have lp : ∀ w7, forL (bodyF (callF tab d) (.tp [(.nm 10), (.nm 11)]) lb) [.tup [.tup (one.map .str), .tup (a.map .str)], .tup [.tup (two.map .str), .tup (b.map .str)]] [some (.frz ns), some (.loc 0), some ek, some (.tup (one.map .str)), some (.tup (two.map .str)), some t1, some t2, w7, some (.tup lm), none, none, none, none] M6 = .ok (.nx, [some (.frz ns), some (.loc 0), some ek, some (.tup (one.map .str)), some (.tup (two.map .str)), some t1, some t2, w7, some (.tup lm), none, none, none, none]) M6 := fun w7 => by
    rw [forL_nx (y1 w7), forL_nx (y2 w7)]; rfl
  clear y1 y2
  refine ⟨M6, ?_⟩
  rw [call_of T.h54 _ _ _ rfl]
  simp only [F54_law]
  simp [x1, x2', x3, x4, x5, x6, x7, x8, x9, hlen, er, c1, c2, lp, z1, z2, z3, z4, z5, z6, z7]
end
theorem law_ok : ∀ ns : List Int, ns.length ≤ 63 → ∃ M, callF (tabF ds) (20 + 1) d54.id [.frz ns] [] = .ok (.bl true) M := fun ns h =>
  law_gen ⟨⟨rfl, rfl, rfl, rfl, rfl, rfl, rfl, rfl, rfl, rfl, rfl⟩, rfl, rfl, rfl, rfl, rfl, rfl, rfl, rfl, rfl, rfl, rfl, rfl, rfl, rfl, rfl, rfl, rfl⟩ h 21 (by omega)
end K05
end Mi
end K05o_

section K05b_
set_option linter.all false
set_option Elab.async false
set_option maxRecDepth 100000
set_option maxHeartbeats 0
namespace Mi
open PySem PySem.Spec PyProof.Rows L2
namespace K05
theorem good : ds.all (Df.good gs ds) = true := by decide +kernel
theorem b26 : Bd d26 := fun _ _ _ _ _ _ us hl => match us, hl with | [_], _ => rfl
theorem b27 : Bd d27 := fun _ _ _ _ _ _ us hl => match us, hl with | [_], _ => rfl
theorem b11 : Bd d11 := fun _ _ _ _ _ _ us hl => match us, hl with | [_, _], _ => rfl
theorem b29 : Bd d29 := fun _ _ _ _ _ _ us hl => match us, hl with | [_, _], _ => rfl
theorem b30 : Bd d30 := fun _ _ _ _ _ _ us hl => match us, hl with | [_, _], _ => rfl
theorem b31 : Bd d31 := fun _ _ _ _ _ _ us hl => match us, hl with | [_, _], _ => rfl
theorem b39 : Bd d39 := fun _ _ _ _ _ _ us hl => match us, hl with | [_, _], _ => rfl
theorem b40 : Bd d40 := fun _ _ _ _ _ _ us hl => match us, hl with | [_, _, _], _ => rfl
theorem b51 : Bd d51 := fun _ _ _ _ _ _ us hl => match us, hl with | [_, _], _ => rfl
theorem b52 : Bd d52 := fun _ _ _ _ _ _ us hl => match us, hl with | [_, _, _], _ => rfl
theorem b53 : Bd d53 := fun _ _ _ _ _ _ us hl => match us, hl with | [_, _, _], _ => rfl
theorem b12 : Bd d12 := fun _ _ _ _ _ _ us hl => match us, hl with | [_, _], _ => rfl
theorem b13 : Bd d13 := fun _ _ _ _ _ _ us hl => match us, hl with | [_], _ => rfl
theorem b14 : Bd d14 := fun _ _ _ _ _ _ us hl => match us, hl with | [_, _], _ => rfl
theorem b15 : Bd d15 := fun _ _ _ _ _ _ us hl => match us, hl with | [_, _], _ => rfl
theorem b16 : Bd d16 := fun _ _ _ _ _ _ us hl => match us, hl with | [_, _], _ => rfl
theorem b17 : Bd d17 := fun _ _ _ _ _ _ us hl => match us, hl with | [_, _], _ => rfl
theorem b18 : Bd d18 := fun _ _ _ _ _ _ us hl => match us, hl with | [_, _], _ => rfl
theorem b19 : Bd d19 := fun _ _ _ _ _ _ us hl => match us, hl with | [_, _, _, _], _ => rfl
theorem b32 : Bd d32 := fun _ _ _ _ _ _ us hl => match us, hl with | [_], _ => rfl
theorem b20 : Bd d20 := fun _ _ _ _ _ _ us hl => match us, hl with | [_], _ => rfl
theorem b33 : Bd d33 := fun _ _ _ _ _ _ us hl => match us, hl with | [_, _], _ => rfl
theorem b21 : Bd d21 := fun _ _ _ _ _ _ us hl => match us, hl with | [_, _], _ => rfl
theorem b34 : Bd d34 := fun _ _ _ _ _ _ us hl => match us, hl with | [_], _ => rfl
theorem b35 : Bd d35 := fun _ _ _ _ _ _ us hl => match us, hl with | [_, _, _], _ => rfl
theorem b48 : Bd d48 := fun _ _ _ _ _ _ us hl => match us, hl with | [_, _], _ => rfl
theorem b36 : Bd d36 := fun _ _ _ _ _ _ us hl => match us, hl with | [_, _], _ => rfl
theorem b54 : Bd d54 := fun _ _ _ _ _ _ us hl => match us, hl with | [_], _ => rfl
theorem bds : Al Bd ds := .cons b26 (.cons b27 (.cons b11 (.cons b29 (.cons b30 (.cons b31 (.cons b39 (.cons b40 (.cons b51 (.cons b52 (.cons b53 (.cons b12 (.cons b13 (.cons b14 (.cons b15 (.cons b16 (.cons b17 (.cons b18 (.cons b19 (.cons b32 (.cons b20 (.cons b33 (.cons b21 (.cons b34 (.cons b35 (.cons b48 (.cons b36 (.cons b54 .nil)))))))))))))))))))))))))))
def fn : List He.DefD := ds.map dfd
def fa : List He.Fa := ds.map (fun d => .glo d.name) ++ blts.map .free
abbrev R : PySem.W.OpenRow := PySem.W.OpenLaw.row PySem.Challenge.rw_binworks_k05_rows_that_meet_again
abbrev hk : PySem.W.Hook := He.hookX 4 fa fn [] [] (gsB gs)
def ob (s : PySem.W.SharedT) : He.AlX := He.obsX 4 fa fn [] [] (gsB gs) (HandSHeadRun.getT s)
theorem ob_eq (s : PySem.W.SharedT) : ob s = hk.obs s.abs := He.obsX_eq (HandSHeadRun.getT_eq s)
def loose0 : List PySem.Str := ["names_of", "ties_of", "with_stocks", "stocks_after", "play", "counts_of", "row_for", "lacking", "behind", "common_end", "common_part", "_law_digits", "_law_box", "_law_take", "_law_pick", "_law_word", "_law_names", "_law_machines", "_law_works", "_law_ties", "_law_name_list", "_law_stocks_behind", "_law_with", "_law_ready", "_law_walked", "_law_behind", "_law_tally", "WorksError", "TooLarge", "MAX_GOINGS"]
def loose : List PySem.Str := loose0
theorem run (w : World) : HandSHeadRun.RunEq R (PySem.W.view R.prog [35]) hk ob 8000 loose w := by
  intro os
  kernel_rfl
end K05
end Mi
end K05b_

section K05e_
set_option linter.all false
set_option Elab.async false
set_option maxRecDepth 100000
set_option maxHeartbeats 0
open PySem PySem.W PySem.Calls PyProof.Rows
theorem PySem.Challenge.cw_binworks_k05_rows_that_meet_again_holds : PySem.Challenge.rw_binworks_k05_rows_that_meet_again.Holds := by
  w_on; o_law
  refine HandSHeadRun.head_any (r := OpenLaw.row PySem.Challenge.rw_binworks_k05_rows_that_meet_again) (q := view (OpenLaw.row PySem.Challenge.rw_binworks_k05_rows_that_meet_again).prog [35]) (H := Mi.K05.hk) (ob := Mi.K05.ob) (M := 8000) (loose := Mi.K05.loose) (d := HandSHeadRun.topDef (OpenLaw.row PySem.Challenge.rw_binworks_k05_rows_that_meet_again).prog 35) (kwd := []) Mi.K05.ob_eq
    (by kernel_rfl) (fun s => by kernel_rfl) Mi.K05.run (by kernel_rfl) (by kernel_rfl) (by kernel_rfl) (by rfl) (by first | assumption | decide +kernel) (by decide +kernel) ⟨rfl, rfl, rfl, rfl, rfl, by decide +kernel⟩ ?hw ?hc
  case hw => w_witness2
  case hc =>
    exact Mi.end_ok (l := PySem.Challenge.rw_binworks_k05_rows_that_meet_again) (n := 63) (k := 20) (m := 4) (ds := Mi.K05.ds) (d := Mi.K05.d54) rfl (by decide) (by kernel_rfl) ⟨rfl, by decide, by decide⟩ Mi.K05.good (by decide +kernel) Mi.K05.bds (fun d h => List.mem_map.mpr ⟨d, h, rfl⟩) (fun d h => List.mem_append_left _ (List.mem_map.mpr ⟨d, h, rfl⟩)) (fun x h => List.mem_append_right _ (List.mem_map.mpr ⟨x, h, rfl⟩)) (by simp [Mi.K05.ds]) (by kernel_rfl) rfl rfl rfl Mi.K05.law_ok
end K05e_
